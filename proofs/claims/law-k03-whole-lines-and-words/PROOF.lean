import PyProof.Rows.All
import Wide.All
import OpenK.AllK
import Wide.FinOn
import HandS.ForMost
import PyProof.ReprReads
import PyProof.EqLayable
import KE.DataEq
import HandS.ForExc
import HandS.CallSlots
import HandS.Lambda
import KE.KDictKeyed
import KE.KDictDisplayH
import HandS.TupAny
import HandS.TupMul
import HandS.Star
import HandS.Text
import HandS.IsInst
import HandS.NoneIn
import HandS.Flow
import HandS.Style
import HandS.ExcInit
import HandS.Iter
import HandS.Zip
import KE.GoesEnum
import HandS.Comp
import HandS.Words
import HandS.WordsExc
import HandS.SortInts
import HandS.WideBits
import HandS.RaiseMore
import HandS.Small
import HandS.Conv
import HandS.OwnEq
import HandS.FStr
import KE.SortData
import PyProof.TupleOfSeq
import HandS.Dict
import PyProof.DictMoreH
import KE.KDictWalk
import HandS.DictComp
import KE.KDictSum
import KE.KDictCopyH
import HandS.Nested
import KE.KSortKey
import KE.SortKeyHeap
import HandS.SortKw
import HandS.TryMany
import HandS.ExcField
import HandS.ExcIs
import HandS.ExcBuiltin
import KE.KExcIs
import KE.DataFind
import KE.DatumIndex
import HandS.ReCall
import KE.GoesZip
import KE.GoesMore
import PyProof.ReprLen
import PySem.Challenge.RW_keptlikes_k03_whole_lines_and_words
set_option linter.all false
set_option Elab.async false
/-! KMs: mergeSort that a kernel can work out. -/
namespace KL
section
variable {α : Type} (le : α → α → Bool)
def mrg : Nat → List α → List α → List α
  | 0, xs, ys => xs ++ ys
  | _ + 1, [], ys => ys
  | _ + 1, x :: xs, [] => x :: xs
  | n + 1, x :: xs, y :: ys => if le x y = true then x :: mrg n xs (y :: ys) else y :: mrg n (x :: xs) ys
theorem mrg_eq : ∀ (n : Nat) (xs ys : List α), xs.length + ys.length ≤ n → mrg le n xs ys = List.merge xs ys le
  | 0, [], [], _ => by simp [mrg]
  | 0, _ :: _, _, h => by simp at h
  | 0, [], _ :: _, h => by simp at h
  | n + 1, [], ys, _ => by simp [mrg]
  | n + 1, x :: xs, [], _ => by simp [mrg]
  | n + 1, x :: xs, y :: ys, h => by
    simp only [List.length_cons] at h
    unfold mrg List.merge
    rw [mrg_eq n xs (y :: ys) (by simp only [List.length_cons]; omega), mrg_eq n (x :: xs) ys (by simp only [List.length_cons]; omega)]
def mF : Nat → List α → List α
  | 0, xs => xs
  | n + 1, xs => match xs with
    | [] => []
    | [a] => [a]
    | a :: b :: r => mrg le (r.length + 2) (mF n ((a :: b :: r).take ((r.length + 3) / 2))) (mF n ((a :: b :: r).drop ((r.length + 3) / 2)))
theorem mF_eq : ∀ (n : Nat) (xs : List α), xs.length ≤ n → mF le n xs = xs.mergeSort le
  | 0, [], _ => by simp [mF]
  | 0, _ :: _, h => by simp at h
  | n + 1, [], _ => by simp [mF]
  | n + 1, [a], _ => by simp [mF]
  | n + 1, a :: b :: r, h => by
    simp only [List.length_cons] at h
    have h1 := mF_eq n ((a :: b :: r).take ((r.length + 3) / 2)) (by simp only [List.length_take, List.length_cons]; omega)
    have h2 := mF_eq n ((a :: b :: r).drop ((r.length + 3) / 2)) (by simp only [List.length_drop, List.length_cons]; omega)
    unfold List.mergeSort
    simp only [mF]
    rw [h1, h2, mrg_eq le _ _ _ (by simp only [List.length_mergeSort, List.length_take, List.length_drop, List.length_cons]; omega)]
    simp [List.MergeSort.Internal.splitInTwo_fst, List.MergeSort.Internal.splitInTwo_snd, Nat.add_assoc]
def msrt (xs : List α) : List α := mF le xs.length xs
theorem msrt_eq (xs : List α) : msrt le xs = xs.mergeSort le := mF_eq le _ xs (Nat.le_refl _)
end
end KL

set_option linter.all false
set_option maxRecDepth 100000
/-! KCore: a by-value reading of Python: values, slots, a store of shared things, outcomes, and the combinators. -/
namespace KL
open PySem (Str PyData)

/-- a value told by value; obj: an instance that no longer changes (class number, fields in their order); ref: a shared thing of the store; fn: a def or class of the top -/
inductive Val where
  | non | bl (b : Bool) | int (i : Int) | str (s : Str)
  | tup (xs : List Val) | lst (xs : List Val) | arr (xs : List Val) | dic (kvs : List (Val × Val))
  | obj (c : Nat) (fs : List Val) | ref (n : Nat) | fn (n : Nat)

mutual
/-- as plain data, where it is -/
def Val.toD : Val → Option PyData
  | .non => some .none
  | .bl b => some (.bool b)
  | .int i => some (.int i)
  | .str s => some (.str s)
  | .tup xs => (toDs xs).map .tuple
  | .lst xs => (toDs xs).map .list
  | .dic kvs => (toKv kvs).map .dict
  | .obj _ _ => none
  | .arr _ => none
  | .ref _ => none
  | .fn _ => none
def toDs : List Val → Option (List PyData)
  | [] => some []
  | x :: xs => match x.toD, toDs xs with
    | some d, some ds => some (d :: ds)
    | _, _ => none
def toKv : List (Val × Val) → Option (List (PyData × PyData))
  | [] => some []
  | (k, v) :: r => match k.toD, v.toD, toKv r with
    | some d, some e, some ds => some ((d, e) :: ds)
    | _, _, _ => none
end

/-- a local name: nothing, a value, a list of its own that may still be changed in place, a function made here (pending), a function handed in with the names it sees -/
inductive Slot where
  | un | pl (v : Val) | ow (xs : List Val) | ob (c : Nat) (fs : List Val) | pd (k : Nat) | cl (k : Nat) (ρ : List Slot)
abbrev Env := List Slot
inductive Cell where
  | lst (xs : List Val) | ins (c : Nat) (fs : List Val) | dic (kvs : List (Val × Val)) | sdic (kvs : List (Val × Val))
abbrev Store := List Cell

/-- an outcome: a value, an exception, or a way of which nothing is told -/
inductive R (α : Type) where
  | ok (a : α) (S : Store) | er (e : Val) (S : Store) | sk
@[inline] def R.bind {α β : Type} (m : R α) (f : α → Store → R β) : R β := match m with
  | .ok a S => f a S
  | .er e S => .er e S
  | .sk => .sk
@[simp] theorem R.bind_ok {α β : Type} (a : α) (S : Store) (f : α → Store → R β) : (R.ok a S).bind f = f a S := rfl
@[simp] theorem R.bind_er {α β : Type} (e : Val) (S : Store) (f : α → Store → R β) : (R.er e S : R α).bind f = .er e S := rfl
@[simp] theorem R.bind_sk {α β : Type} (f : α → Store → R β) : (R.sk : R α).bind f = .sk := rfl
def R.of {α : Type} (o : Option α) (S : Store) : R α := match o with
  | some a => .ok a S
  | none => .sk
@[simp] theorem R.of_some {α : Type} (a : α) (S : Store) : R.of (some a) S = .ok a S := rfl
@[simp] theorem R.of_none {α : Type} (S : Store) : (R.of none S : R α) = .sk := rfl

/-- an expression's reading -/
abbrev E (α : Type) := Env → Store → R α

/-! ### names, constants -/
def cVar (i : Nat) : E Val := fun ρ S => match ρ[i]? with
  | some (.pl v) => .ok v S
  | _ => .sk
/-- a name that is only looked at -/
def cBor (i : Nat) : E Val := fun ρ S => match ρ[i]? with
  | some (.pl v) => .ok v S
  | some (.ow xs) => .ok (.lst xs) S
  | _ => .sk
def cC (v : Val) : E Val := fun _ S => .ok v S

/-- the longest list that the model has -/
abbrev big : Nat := 16777216

/-- a shared list is looked through -/
def dr (S : Store) : Val → Val
  | .ref n => match S[n]? with
    | some (.lst xs) => .lst xs
    | _ => .ref n
  | v => v

/-! ### operators, by values -/
def opAdd : Val → Val → Option Val
  | .int i, .int j => some (.int (i + j))
  | .str a, .str b => if a.length + b.length ≤ big then some (.str (a ++ b)) else none
  | .lst xs, .lst ys => if xs.length + ys.length ≤ big then some (.lst (xs ++ ys)) else none
  | .tup xs, .tup ys => if xs.length + ys.length ≤ big then some (.tup (xs ++ ys)) else none
  | _, _ => none
def opSub : Val → Val → Option Val
  | .int i, .int j => some (.int (i - j))
  | _, _ => none
def opMul : Val → Val → Option Val
  | .int i, .int j => if (-(2 ^ 64) < i ∧ i < 2 ^ 64) ∨ (-(2 ^ 64) < j ∧ j < 2 ^ 64) then some (.int (i * j)) else none
  | .tup xs, .int k => if 2 ≤ k ∧ k ≤ 1000 ∧ xs.length ≤ 1000 ∧ xs.length ≠ 0 then some (.tup (List.replicate k.toNat xs).flatten) else none
  | .str x, .int k => if 2 ≤ k ∧ k ≤ 1000 ∧ x.length ≠ 0 ∧ ((List.replicate k.toNat x.cps).foldl (· ++ ·) #[]).size ≤ 1000 ∧ x.length ≤ 1000 then some (.str ⟨(List.replicate k.toNat x.cps).foldl (· ++ ·) #[]⟩) else none
  | _, _ => none
def opDiv : Val → Val → Option Val
  | .int i, .int j => if 0 < j ∧ j < 1073741824 then some (.int (i / j)) else none
  | _, _ => none
def opMod : Val → Val → Option Val
  | .int i, .int j => if 0 < j then some (.int (i % j)) else none
  | _, _ => none
def opPow : Val → Val → Option Val
  | .int i, .int j => if 0 ≤ j ∧ j ≤ 1000000 ∧ i.natAbs < 2 ^ 64 then some (.int (i ^ j.toNat)) else none
  | _, _ => none
def opNeg : Val → Option Val
  | .int i => some (.int (-i))
  | _ => none

/-- data that == looks through: no dict, not too deep -/
def shp (d : PySem.PyData) : Bool := d.plain && decide (d.depth ≤ 64)
/-- == of data -/
def eqD (x y : Val) : Option Bool := match x.toD, y.toD with
  | some d, some e => if shp d && shp e then some (PyData.eqv d e) else none
  | _, _ => none
def opEq (x y : Val) : Option Val := (eqD x y).map .bl
def opNe (x y : Val) : Option Val := (eqD x y).map fun b => .bl (!b)
def asInts : List Val → Option (List Int)
  | [] => some []
  | .int i :: r => (asInts r).map (i :: ·)
  | _ :: _ => none
def opLt : Val → Val → Option Val
  | .int i, .int j => some (.bl (decide (i < j)))
  | .tup xs, .tup ys => match asInts xs, asInts ys with
    | some ns, some ms => some (.bl (HT.lexLt ns ms))
    | _, _ => none
  | _, _ => none
def opLe : Val → Val → Option Val
  | .int i, .int j => some (.bl (decide (i ≤ j)))
  | _, _ => none
def opGt : Val → Val → Option Val
  | .int i, .int j => some (.bl (decide (j < i)))
  | _, _ => none
def opGe : Val → Val → Option Val
  | .int i, .int j => some (.bl (decide (j ≤ i)))
  | _, _ => none
def opIsN (x : Val) : Val := match x with
  | .non => .bl true
  | _ => .bl false
def opNotN (x : Val) : Val := match x with
  | .non => .bl false
  | _ => .bl true
/-- x in ys, by ==, of data -/
def inD (x y : Val) : Option Bool := match x.toD, y.toD with
  | some d, some (.tuple ds) => if shp d && shp (.tuple ds) then some (ds.any fun z => PyData.eqv z d) else none
  | some d, some (.list ds) => if shp d && shp (.list ds) then some (ds.any fun z => PyData.eqv z d) else none
  | _, _ => none
def opIn (x y : Val) : Option Val := (inD x y).map .bl
def opNotIn (x y : Val) : Option Val := (inD x y).map fun b => .bl (!b)

/-- the place that an index of any sign means -/
def ixOf (n : Nat) (i : Int) : Option Nat := if 0 ≤ i then (if i < n then some i.toNat else none) else if -(n : Int) ≤ i then some (i + n).toNat else none
def opIx : Val → Val → Option Val
  | .tup xs, .int i => (ixOf xs.length i).bind fun j => xs[j]?
  | .lst xs, .int i => (ixOf xs.length i).bind fun j => xs[j]?
  | .arr xs, .int i => (ixOf xs.length i).bind fun j => xs[j]?
  | .str s, .int i => if s.length ≤ big then (ixOf s.cps.toList.length i).bind fun j => (s.cps.toList[j]?).map fun c => .str ⟨#[c]⟩ else none
  | _, _ => none
def sIx (n d : Nat) : Option Int → Nat
  | none => d
  | some v => if v < 0 then (v + (n : Int)).toNat else min v.toNat n
def cut {α : Type} (xs : List α) (lo hi : Option Int) : List α := (xs.drop (sIx xs.length 0 lo)).take (sIx xs.length xs.length hi - sIx xs.length 0 lo)
def opCut : Val → Option Int → Option Int → Option Val
  | .tup xs, lo, hi => some (.tup (cut xs lo hi))
  | .lst xs, lo, hi => some (.lst (cut xs lo hi))
  | .arr xs, lo, hi => some (.lst (cut xs lo hi))
  | .str s, lo, hi => if s.length ≤ big then some (.str ⟨(cut s.cps.toList lo hi).toArray⟩) else none
  | _, _, _ => none

/-! ### expressions -/
def cUn (f : Val → Option Val) (a : E Val) : E Val := fun ρ S => (a ρ S).bind fun x S1 => R.of (f (dr S1 x)) S1
def cOp (f : Val → Val → Option Val) (a b : E Val) : E Val := fun ρ S => (a ρ S).bind fun x S1 => (b ρ S1).bind fun y S2 => R.of (f (dr S2 x) (dr S2 y)) S2
/-- [..] * k, a new list k times -/
def cRep (a b : E Val) : E Val := fun ρ S => (a ρ S).bind fun x S1 => (b ρ S1).bind fun y S2 => match x, y with
  | .lst xs, .int k => if 0 ≤ k ∧ k < 2 ^ 62 ∧ xs.length * k.toNat ≤ big then .ok (.lst (List.replicate k.toNat xs).flatten) S2 else .sk
  | _, _ => .sk
/-- a test -/
abbrev T := E Bool
def asB : Val → Option Bool
  | .bl b => some b
  | _ => none
def cT (a : E Val) : T := fun ρ S => (a ρ S).bind fun x S1 => R.of (asB x) S1
def cB (t : T) : E Val := fun ρ S => (t ρ S).bind fun b S1 => .ok (.bl b) S1
def cAnd (a b : T) : T := fun ρ S => (a ρ S).bind fun x S1 => if x then b ρ S1 else .ok false S1
def cOr (a b : T) : T := fun ρ S => (a ρ S).bind fun x S1 => if x then .ok true S1 else b ρ S1
def cNot (a : T) : T := fun ρ S => (a ρ S).bind fun x S1 => .ok (!x) S1
def cIf {α : Type} (t : T) (a b : E α) : E α := fun ρ S => (t ρ S).bind fun x S1 => if x then a ρ S1 else b ρ S1
/-- a op b op' c: b asked once -/
def cChain (f g : Val → Val → Option Val) (a b c : E Val) : T := fun ρ S => (a ρ S).bind fun x S1 => (b ρ S1).bind fun y S2 => (R.of ((f (dr S2 x) (dr S2 y)).bind asB) S2).bind fun k S3 =>
  if k then (c ρ S3).bind fun z S4 => R.of ((g (dr S4 y) (dr S4 z)).bind asB) S4 else .ok false S3
def cChain3 (f g h : Val → Val → Option Val) (a b c d : E Val) : T := fun ρ S => (a ρ S).bind fun x S1 => (b ρ S1).bind fun y S2 => (R.of ((f (dr S2 x) (dr S2 y)).bind asB) S2).bind fun k S3 =>
  if k then (c ρ S3).bind fun z S4 => (R.of ((g (dr S4 y) (dr S4 z)).bind asB) S4).bind fun k2 S5 => if k2 then (d ρ S5).bind fun w S6 => R.of ((h (dr S6 z) (dr S6 w)).bind asB) S6 else .ok false S5
  else .ok false S3
/-- arguments, items from the left -/
def cNil : E (List Val) := fun _ S => .ok [] S
def cCons (a : E Val) (r : E (List Val)) : E (List Val) := fun ρ S => (a ρ S).bind fun x S1 => (r ρ S1).bind fun xs S2 => .ok (x :: xs) S2
/-- *a among them -/
def cStar (a : E Val) (r : E (List Val)) : E (List Val) := fun ρ S => (a ρ S).bind fun x S1 => match dr S1 x with
  | .tup ys => (r ρ S1).bind fun xs S2 => .ok (ys ++ xs) S2
  | .lst ys => (r ρ S1).bind fun xs S2 => .ok (ys ++ xs) S2
  | _ => .sk
def cTup (a : E (List Val)) : E Val := fun ρ S => (a ρ S).bind fun xs S1 => if xs.length ≤ big then .ok (.tup xs) S1 else .sk
def cLst (a : E (List Val)) : E Val := fun ρ S => (a ρ S).bind fun xs S1 => if xs.length ≤ big then .ok (.lst xs) S1 else .sk
def cSl (a : E Val) (lo hi : E (Option Int)) : E Val := fun ρ S => (a ρ S).bind fun x S1 => (lo ρ S1).bind fun l S2 => (hi ρ S2).bind fun h S3 => R.of (opCut (dr S3 x) l h) S3
def cPn : E (Option Int) := fun _ S => .ok none S
def asI : Val → Option (Option Int)
  | .int i => some (some i)
  | _ => none
def cPs (a : E Val) : E (Option Int) := fun ρ S => (a ρ S).bind fun x S1 => R.of (asI x) S1
/-- o.f by the field's place, o an instance of the class c -/
def fldOf (S : Store) (c k : Nat) : Val → Option Val
  | .obj c' fs => if c' = c then fs[k]? else none
  | .ref n => match S[n]? with
    | some (.ins c' fs) => if c' = c then fs[k]? else none
    | _ => none
  | _ => none
def cFld (c k : Nat) (a : E Val) : E Val := fun ρ S => (a ρ S).bind fun x S1 => R.of (fldOf S1 c k x) S1

/-- a function of the store on values -/
abbrev F := List Val → Store → R Val
def cCall (f : F) (a : E (List Val)) : E Val := fun ρ S => (a ρ S).bind fun xs S1 => f xs S1
/-- a built-in on values, shared lists looked through -/
def cBi (f : List Val → Option Val) (a : E (List Val)) : E Val := fun ρ S => (a ρ S).bind fun xs S1 => R.of (f (xs.map (dr S1))) S1

/-! ### comprehensions -/
abbrev Tg := Val → Env → Option Env
def tgName (i : Nat) : Tg := fun v ρ => some (ρ.set i (.pl v))
def tgAll : List Tg → List Val → Env → Option Env
  | [], [], ρ => some ρ
  | t :: ts, v :: vs, ρ => (t v ρ).bind fun ρ1 => tgAll ts vs ρ1
  | _, _, _ => none
def tgTup (ts : List Tg) : Tg := fun v ρ => match v with
  | .tup xs => tgAll ts xs ρ
  | _ => none
def wip (ρ : Env) : List Nat → Env
  | [] => ρ
  | v :: vs => (wip ρ vs).set v .un
def lcL (tg : Tg) (t : T) (e : E Val) (ρ : Env) : List Val → Store → List Val → R (List Val)
  | [], S, acc => .ok acc S
  | x :: xs, S, acc => match tg x ρ with
    | none => .sk
    | some ρ1 => (t ρ1 S).bind fun b S1 => if b then (e ρ1 S1).bind fun y S2 => if acc.length < big then lcL tg t e ρ xs S2 (acc ++ [y]) else .sk else lcL tg t e ρ xs S1 acc
def cYes : T := fun _ S => .ok true S
def cLc (it : E (List Val)) (tg : Tg) (t : T) (e : E Val) (vs : List Nat) : E Val := fun ρ S => (it ρ S).bind fun xs S1 => (lcL tg t e (wip ρ vs) xs S1 []).bind fun ys S2 => .ok (.lst ys) S2

/-! ### what is walked -/
def iSeq (a : E Val) : E (List Val) := fun ρ S => (a ρ S).bind fun x S1 => match dr S1 x with
  | .tup xs => .ok xs S1
  | .lst xs => .ok xs S1
  | .arr xs => .ok xs S1
  | _ => .sk
def rngV (lo : Int) (n : Nat) : List Val := (List.range n).map fun k => .int (lo + (k : Nat))
def iR1 (a : E Val) : E (List Val) := fun ρ S => (a ρ S).bind fun x S1 => match x with
  | .int j => if -(2 ^ 62) ≤ j ∧ j < 2 ^ 62 then .ok (rngV 0 j.toNat) S1 else .sk
  | _ => .sk
def iR2 (a b : E Val) : E (List Val) := fun ρ S => (a ρ S).bind fun x S1 => (b ρ S1).bind fun y S2 => match x, y with
  | .int i, .int j => if -(2 ^ 62) ≤ i ∧ i < 2 ^ 62 ∧ -(2 ^ 62) ≤ j ∧ j < 2 ^ 62 then .ok (rngV i (j - i).toNat) S2 else .sk
  | _, _ => .sk
def enumV : Nat → List Val → List Val
  | _, [] => []
  | k, x :: xs => .tup [.int (k : Nat), x] :: enumV (k + 1) xs
def iEnum (a : E Val) : E (List Val) := fun ρ S => (a ρ S).bind fun x S1 => match dr S1 x with
  | .tup xs => .ok (enumV 0 xs) S1
  | .lst xs => .ok (enumV 0 xs) S1
  | _ => .sk

/-! ### statements -/
inductive Fl where
  | nx | rt (v : Val) | bk | ct
inductive RS where
  | go (f : Fl) (ρ : Env) (S : Store) | er (e : Val) (ρ : Env) (S : Store) | sk
abbrev C := Env → Store → RS
@[inline] def R.stm {α : Type} (m : R α) (ρ : Env) (f : α → Store → RS) : RS := match m with
  | .ok a S => f a S
  | .er e S => .er e ρ S
  | .sk => .sk
@[simp] theorem R.stm_ok {α : Type} (a : α) (S : Store) (ρ : Env) (f : α → Store → RS) : (R.ok a S).stm ρ f = f a S := rfl
@[simp] theorem R.stm_er {α : Type} (e : Val) (S : Store) (ρ : Env) (f : α → Store → RS) : (R.er e S : R α).stm ρ f = .er e ρ S := rfl
@[simp] theorem R.stm_sk {α : Type} (ρ : Env) (f : α → Store → RS) : (R.sk : R α).stm ρ f = .sk := rfl
def sNil : C := fun ρ S => .go .nx ρ S
def RS.then (m : RS) (f : Env → Store → RS) : RS := match m with
  | .go .nx ρ S => f ρ S
  | x => x
@[simp] theorem RS.then_nx (ρ : Env) (S : Store) (f : Env → Store → RS) : (RS.go .nx ρ S).then f = f ρ S := rfl
@[simp] theorem RS.then_rt (v : Val) (ρ : Env) (S : Store) (f : Env → Store → RS) : (RS.go (.rt v) ρ S).then f = .go (.rt v) ρ S := rfl
@[simp] theorem RS.then_bk (ρ : Env) (S : Store) (f : Env → Store → RS) : (RS.go .bk ρ S).then f = .go .bk ρ S := rfl
@[simp] theorem RS.then_ct (ρ : Env) (S : Store) (f : Env → Store → RS) : (RS.go .ct ρ S).then f = .go .ct ρ S := rfl
@[simp] theorem RS.then_er (e : Val) (ρ : Env) (S : Store) (f : Env → Store → RS) : (RS.er e ρ S).then f = .er e ρ S := rfl
@[simp] theorem RS.then_sk (f : Env → Store → RS) : RS.sk.then f = .sk := rfl
def sSeq (a b : C) : C := fun ρ S => (a ρ S).then fun ρ1 S1 => b ρ1 S1
/-- x = e, the value kept as it is -/
def sAsg (i : Nat) (a : E Val) : C := fun ρ S => (a ρ S).stm ρ fun x S1 => .go .nx (ρ.set i (.pl x)) S1
/-- x = e, a new list, to be changed in place -/
def sNew (i : Nat) (a : E Val) : C := fun ρ S => (a ρ S).stm ρ fun x S1 => match x with
  | .lst xs => .go .nx (ρ.set i (.ow xs)) S1
  | _ => .sk
def sIf (t : T) (a b : C) : C := fun ρ S => (t ρ S).stm ρ fun x S1 => if x then a ρ S1 else b ρ S1
def sDrop (a : E Val) : C := fun ρ S => (a ρ S).stm ρ fun _ S1 => .go .nx ρ S1
/-- return e: the own lists are let go first -/
def frz (ρ : Env) : Env := ρ.map fun s => match s with
  | .ow xs => .pl (.lst xs)
  | s => s
def sRet (a : E Val) : C := fun ρ S => (a (frz ρ) S).stm (frz ρ) fun x S1 => .go (.rt x) (frz ρ) S1
def sRetN : C := fun ρ S => .go (.rt .non) ρ S
def sRaise (a : E Val) : C := fun ρ S => (a ρ S).stm ρ fun x S1 => .er x ρ S1
/-- x.append(e), x an own list -/
def sApp (i : Nat) (a : E Val) : C := fun ρ S => match ρ[i]? with
  | some (.ow xs) => (a ρ S).stm ρ fun x S1 => if xs.length < big then .go .nx (ρ.set i (.ow (xs ++ [x]))) S1 else .sk
  | _ => .sk
/-- x.append(y.pop(e)), both own lists -/
def sAppPop (i j : Nat) (a : E Val) : C := fun ρ S => if i = j then .sk else match ρ[i]?, ρ[j]? with
  | some (.ow xs), some (.ow ys) => (a ρ S).stm ρ fun x S1 => match x with
    | .int k => if xs.length < big ∧ 0 ≤ k ∧ k < ys.length ∧ ys.length ≤ big then match ys[k.toNat]? with
      | some y => .go .nx ((ρ.set j (.ow (ys.eraseIdx k.toNat))).set i (.ow (xs ++ [y]))) S1
      | none => .sk else .sk
    | _ => .sk
  | _, _ => .sk
/-- del x[-1], x an own list -/
def sDelLast (i : Nat) : C := fun ρ S => match ρ[i]? with
  | some (.ow xs) => if xs.length = 0 then .sk else .go .nx (ρ.set i (.ow xs.dropLast)) S
  | _ => .sk
/-- a shared list's item is stored -/
def sSetR (o : E Val) (ix a : E Val) : C := fun ρ S => (a ρ S).stm ρ fun x S1 => (o ρ S1).stm ρ fun r S2 => (ix ρ S2).stm ρ fun k S3 => match r, k with
  | .ref n, .int k => match S3[n]? with
    | some (.lst xs) => match ixOf xs.length k with
      | some q => .go .nx ρ (S3.set n (.lst (xs.set q x)))
      | none => .sk
    | _ => .sk
  | _, _ => .sk
def forL (tg : Tg) (b : C) : List Val → C
  | [] => fun ρ S => .go .nx ρ S
  | x :: xs => fun ρ S => match tg x ρ with
    | none => .sk
    | some ρ1 => match b ρ1 S with
      | .go .nx ρ2 S2 => forL tg b xs ρ2 S2
      | .go .ct ρ2 S2 => forL tg b xs ρ2 S2
      | .go .bk ρ2 S2 => .go .nx ρ2 S2
      | r => r
def sFor (it : E (List Val)) (tg : Tg) (b : C) : C := fun ρ S => (it ρ S).stm ρ fun xs S1 => forL tg b xs ρ S1
def whlL (t : T) (b : C) : Nat → C
  | 0 => fun _ _ => .sk
  | n + 1 => fun ρ S => (t ρ S).stm ρ fun x S1 => if x then match b ρ S1 with
      | .go .nx ρ2 S2 => whlL t b n ρ2 S2
      | .go .ct ρ2 S2 => whlL t b n ρ2 S2
      | .go .bk ρ2 S2 => .go .nx ρ2 S2
      | r => r
    else .go .nx ρ S1
def sWhl (n : Nat) (t : T) (b : C) : C := whlL t b n
/-- a, b = x, y -/
def sPar (i j : Nat) (a b : E Val) : C := fun ρ S => (a ρ S).stm ρ fun x S1 => (b ρ S1).stm ρ fun y S2 => .go .nx ((ρ.set i (.pl x)).set j (.pl y)) S2

/-! ### a def -/
def start (n : Nat) (args : List Slot) : Env := args ++ List.replicate (n - args.length) .un
/-- the def's function on values: m names, its body -/
def fnOf (m : Nat) (b : C) : F := fun vs S => match b (start m (vs.map .pl)) S with
  | .go (.rt v) _ S1 => .ok v S1
  | .go .nx _ S1 => .ok .non S1
  | .er e _ S1 => .er e S1
  | _ => .sk
end KL

set_option linter.all false
set_option maxRecDepth 100000
set_option maxHeartbeats 1000000
/-! KRel: how the values of KCore lie in the abstract heap of HandS. -/
namespace KL
open PySem L2

/-- what is fixed through a law: the written part, the classes' addresses and fields, the values of the top's defs, how functions made in a body lie -/
structure GP where
  K : PySem.W.Frag
  cm : Nat → Addr
  cf : Nat → List Str
  fv : Nat → V
  /-- an instance of this class with these attributes is finished: it does not change any more -/
  im : Addr → List Str → Bool
  /-- the world, of which a key's hash hangs -/
  w : World
  /-- the tables of code objects, each with the name that its code objects bear -/
  tabs : List (Addr × Str)

/-- what never changes once it is tracked -/
def fixd (G : GP) : HO → Bool
  | .tup _ => true
  | .frz _ _ => true
  | .xd _ => true
  | .ins C _ fs => G.im C (fs.map (·.1))
  | _ => false
/-- .. or is a table of code -/
def fixdT (G : GP) : HO → Bool
  | .tbl _ => true
  | .tup _ => true
  | .frz _ _ => true
  | .xd _ => true
  | .ins C _ fs => G.im C (fs.map (·.1))
  | _ => false
theorem fixdT_fixd {G : GP} {o : HO} (h : fixdT G o = false) : fixd G o = false := by
  cases o <;> first | rfl | exact h
def Kx (G : GP) (H H' : Hp) : Prop := ∀ a o, H a = some o → fixd G o = true → H' a = some o
theorem Kx.refl {G : GP} (H : Hp) : Kx G H H := fun _ _ h _ => h
theorem Kx.trans {G : GP} {H H1 H2 : Hp} (a : Kx G H H1) (b : Kx G H1 H2) : Kx G H H2 := fun p o h f => b p o (a p o h f) f

/-- a list that stands still: locked, or of the written part -/
def FzL (K : PySem.W.Frag) (H : Hp) (a : Addr) (xs : List V) : Prop :=
  (∃ o, H a = some (.frz o (.lst xs))) ∨
    ∃ (o : Obj) (its : Array Value) (n : Nat), K.lookup a = some o ∧ o.cls = .type "list" ∧ o.dict = none ∧ o.data = .seq its n ∧ its.size ≤ sizeLine ∧ Vals xs its.toList
theorem FzL.sq {K : PySem.W.Frag} {H : Hp} {a : Addr} {xs : List V} (h : FzL K H a xs) : SqL K H a xs := by
  rcases h with ⟨o, h⟩ | h
  · exact .inl (.inr ⟨o, h⟩)
  · exact .inr h
theorem FzL.kx {G : GP} {K : PySem.W.Frag} {H H' : Hp} {a : Addr} {xs : List V} (k : Kx G H H') (h : FzL K H a xs) : FzL K H' a xs := by
  rcases h with ⟨o, h⟩ | h
  · exact .inl ⟨o, k _ _ h rfl⟩
  · exact .inr h
theorem sqT_kx {G : GP} {K : PySem.W.Frag} {H H' : Hp} {a : Addr} {xs : List V} (k : Kx G H H') (h : SqT K H a xs) : SqT K H' a xs := by
  rcases h with (h | ⟨o, h⟩) | h
  · exact .inl (.inl (k _ _ h rfl))
  · exact .inl (.inr ⟨o, k _ _ h rfl⟩)
  · exact .inr h

/-- an entry: its key, where the key's tuple stands, its value -/
abbrev DE := NestedKey × Addr × Value
def entW (w : World) (x : DE) : DictEntry := ⟨x.1.hash w, .ref x.2.1, x.2.2⟩
/-- a dict's own object -/
def DicO (a : Addr) (w : World) (xs : List DE) : HO := .ext fun h => (a == sysModules) = false ∧ ∃ (o : Obj) (es : Array DictEntry) (ep : Nat), h.get? a = some o ∧ o.ExactDict ∧ o.data = .dict es ep ∧ es.toList = xs.map (entW w)
mutual
/-- the value v stands in the heap as u, for good -/
inductive VR (G : GP) (μ : List Addr) (H : Hp) : Val → V → Prop
  | non : VR G μ H .non .non
  | bl (b : Bool) : VR G μ H (.bl b) (.bl b)
  | int (i : Int) : VR G μ H (.int i) (.int i)
  | str (s : Str) : VR G μ H (.str s) (.str s)
  | tup {a : Addr} {xs : List Val} {us : List V} : SqT G.K H a us → VRs G μ H xs us → VR G μ H (.tup xs) (.ref a)
  | lst {a : Addr} {o : Obj} {xs : List Val} {us : List V} : H a = some (.frz o (.lst us)) → VRs G μ H xs us → VR G μ H (.lst xs) (.ref a)
  | arr {a : Addr} {xs : List Val} {us : List V} : FzL G.K H a us → VRs G μ H xs us → VR G μ H (.arr xs) (.ref a)
  | obj {a dx : Addr} {c : Nat} {xs : List Val} {fs : List (Str × V)} : H a = some (.ins (G.cm c) dx fs) → fs.map (·.1) = G.cf c → G.im (G.cm c) (G.cf c) = true → VRs G μ H xs (fs.map (·.2)) → VR G μ H (.obj c xs) (.ref a)
  | ref {n : Nat} {a : Addr} : μ[n]? = some a → VR G μ H (.ref n) (.ref a)
  | fn {n : Nat} {a : Addr} : G.fv n = .ref a → VR G μ H (.fn n) (.ref a)
  | dic0 {a : Addr} {o : Obj} : H a = some (.frz o (.dK [])) → VR G μ H (.dic []) (.ref a)
inductive VRs (G : GP) (μ : List Addr) (H : Hp) : List Val → List V → Prop
  | nil : VRs G μ H [] []
  | cons {x : Val} {u : V} {xs : List Val} {us : List V} : VR G μ H x u → VRs G μ H xs us → VRs G μ H (x :: xs) (u :: us)
end

section
variable {G : GP} {μ μ' : List Addr} {H H' : Hp}
theorem pre_get {n : Nat} {a : Addr} (p : μ <+: μ') (h : μ[n]? = some a) : μ'[n]? = some a := by
  obtain ⟨t, rfl⟩ := p
  obtain ⟨h1, h2⟩ := List.getElem?_eq_some_iff.mp h
  rw [List.getElem?_append_left h1]; exact h
mutual
theorem VR.kx (k : Kx G H H') (p : μ <+: μ') : ∀ {x : Val} {u : V}, VR G μ H x u → VR G μ' H' x u
  | _, _, .non => .non
  | _, _, .bl b => .bl b
  | _, _, .int i => .int i
  | _, _, .str s => .str s
  | _, _, .tup h r => .tup (sqT_kx k h) (VRs.kx k p r)
  | _, _, .lst h r => .lst (k _ _ h rfl) (VRs.kx k p r)
  | _, _, .arr h r => .arr (h.kx k) (VRs.kx k p r)
  | _, _, .obj h n m r => .obj (k _ _ h (by show G.im _ _ = true; rw [n]; exact m)) n m (VRs.kx k p r)
  | _, _, .ref h => .ref (pre_get p h)
  | _, _, .fn h => .fn h
  | _, _, .dic0 h => .dic0 (k _ _ h rfl)
theorem VRs.kx (k : Kx G H H') (p : μ <+: μ') : ∀ {xs : List Val} {us : List V}, VRs G μ H xs us → VRs G μ' H' xs us
  | _, _, .nil => .nil
  | _, _, .cons h r => .cons (VR.kx k p h) (VRs.kx k p r)
end
/-- all that is known for good stays known -/
structure Kp (G : GP) (μ : List Addr) (H : Hp) (μ' : List Addr) (H' : Hp) : Prop where
  kx : Kx G H H'
  pre : μ <+: μ'
theorem Kp.refl : Kp G μ H μ H := ⟨Kx.refl H, List.prefix_refl _⟩
theorem Kp.of (h : Kx G H H') : Kp G μ H μ H' := ⟨h, List.prefix_refl _⟩
theorem Kp.trans {μ2 : List Addr} {H2 : Hp} (a : Kp G μ H μ' H') (b : Kp G μ' H' μ2 H2) : Kp G μ H μ2 H2 := ⟨a.kx.trans b.kx, a.pre.trans b.pre⟩
theorem VR.kp (k : Kp G μ H μ' H') {x : Val} {u : V} (h : VR G μ H x u) : VR G μ' H' x u := h.kx k.kx k.pre
theorem VRs.kp (k : Kp G μ H μ' H') {x : List Val} {u : List V} (h : VRs G μ H x u) : VRs G μ' H' x u := h.kx k.kx k.pre
theorem VRs.length : ∀ {xs : List Val} {us : List V}, VRs G μ H xs us → xs.length = us.length
  | _, _, .nil => rfl
  | _, _, .cons _ r => congrArg (· + 1) (VRs.length r)
theorem VRs.append : ∀ {xs ys : List Val} {us vs : List V}, VRs G μ H xs us → VRs G μ H ys vs → VRs G μ H (xs ++ ys) (us ++ vs)
  | _, _, _, _, .nil, s => s
  | _, _, _, _, .cons h r, s => .cons h (VRs.append r s)
theorem VRs.get : ∀ {xs : List Val} {us : List V} {i : Nat} {x : Val}, VRs G μ H xs us → xs[i]? = some x → ∃ u, us[i]? = some u ∧ VR G μ H x u
  | _, _, _, _, .nil, e => by simp at e
  | _, _, 0, _, .cons h r, e => by simp at e; subst e; exact ⟨_, rfl, h⟩
  | _, _, i + 1, x, .cons _ r, e => by
    obtain ⟨u, h1, h2⟩ := VRs.get (i := i) (x := x) r (by simpa using e)
    exact ⟨u, by simpa using h1, h2⟩
theorem VRs.take : ∀ {xs : List Val} {us : List V} (n : Nat), VRs G μ H xs us → VRs G μ H (xs.take n) (us.take n)
  | _, _, 0, _ => .nil
  | _, _, _ + 1, .nil => .nil
  | _, _, n + 1, .cons h r => .cons h (VRs.take n r)
theorem VRs.drop : ∀ {xs : List Val} {us : List V} (n : Nat), VRs G μ H xs us → VRs G μ H (xs.drop n) (us.drop n)
  | _, _, 0, r => r
  | _, _, _ + 1, .nil => .nil
  | _, _, n + 1, .cons _ r => VRs.drop n r
theorem VRs.set {y : Val} {w : V} (q : VR G μ H y w) : ∀ {xs : List Val} {us : List V} (n : Nat), VRs G μ H xs us → VRs G μ H (xs.set n y) (us.set n w)
  | _, _, _, .nil => .nil
  | _, _, 0, .cons _ r => .cons q r
  | _, _, n + 1, .cons h r => .cons h (VRs.set q n r)
theorem VRs.erase : ∀ {xs : List Val} {us : List V} (n : Nat), VRs G μ H xs us → VRs G μ H (xs.eraseIdx n) (us.eraseIdx n)
  | _, _, _, .nil => .nil
  | _, _, 0, .cons _ r => r
  | _, _, n + 1, .cons h r => .cons h (VRs.erase n r)
theorem VRs.rep {xs : List Val} {us : List V} (h : VRs G μ H xs us) : ∀ k : Nat, VRs G μ H (List.replicate k xs).flatten (List.replicate k us).flatten
  | 0 => .nil
  | k + 1 => by
    rw [List.replicate_succ, List.replicate_succ, List.flatten_cons, List.flatten_cons]
    exact h.append (VRs.rep h k)
theorem VRs.snoc {xs : List Val} {us : List V} {y : Val} {w : V} (r : VRs G μ H xs us) (q : VR G μ H y w) : VRs G μ H (xs ++ [y]) (us ++ [w]) := r.append (.cons q .nil)

/-- .. or a list that is only looked at now -/
def RB (G : GP) (μ : List Addr) (H : Hp) (x : Val) (u : V) : Prop := VR G μ H x u ∨ ∃ p xs us, x = .lst xs ∧ u = .ref p ∧ H p = some (.lst us) ∧ p ∉ μ ∧ VRs G μ H xs us
/-- .. in this very state, shared lists too -/
def RD (G : GP) (μ : List Addr) (H : Hp) (x : Val) (u : V) : Prop := VR G μ H x u ∨ ∃ p xs us, x = .lst xs ∧ u = .ref p ∧ H p = some (.lst us) ∧ VRs G μ H xs us
inductive RDs (G : GP) (μ : List Addr) (H : Hp) : List Val → List V → Prop
  | nil : RDs G μ H [] []
  | cons {x : Val} {u : V} {xs : List Val} {us : List V} : RD G μ H x u → RDs G μ H xs us → RDs G μ H (x :: xs) (u :: us)
theorem VR.rb {x : Val} {u : V} (h : VR G μ H x u) : RB G μ H x u := .inl h
inductive RBs (G : GP) (μ : List Addr) (H : Hp) : List Val → List V → Prop
  | nil : RBs G μ H [] []
  | cons {x : Val} {u : V} {xs : List Val} {us : List V} : RB G μ H x u → RBs G μ H xs us → RBs G μ H (x :: xs) (u :: us)
theorem VRs.rb : ∀ {xs : List Val} {us : List V}, VRs G μ H xs us → RBs G μ H xs us
  | _, _, .nil => .nil
  | _, _, .cons h r => .cons h.rb r.rb

mutual
/-- a value as a dict's key -/
def vKey : Val → Option NestedKey
  | .non => some .none
  | .bl b => some (.num (if b then 1 else 0))
  | .int i => some (.num i)
  | .str s => some (.text s)
  | .tup xs => (vKeys xs).map .tup
  | _ => none
def vKeys : List Val → Option (List NestedKey)
  | [] => some []
  | x :: xs => match vKey x, vKeys xs with
    | some k, some ks => some (k :: ks)
    | _, _ => none
end
structure DicR (G : GP) (μ : List Addr) (H : Hp) (kvs : List (Val × Val)) (xs : List DE) : Prop where
  keys : kvs.map (fun p => vKey p.1) = xs.map (fun x => some x.1)
  kvr : VRs G μ H (kvs.map (·.1)) (xs.map fun x => .ref x.2.1)
  vals : ∃ us, VRs G μ H (kvs.map (·.2)) us ∧ Vals us (xs.map (·.2.2))
  nd : (xs.map (·.1)).Nodup
  dp : ∀ x, x ∈ xs → x.1.depth ≤ 8
  len : xs.length ≤ sizeLine
theorem DicR.kx {xs : List DE} {kvs : List (Val × Val)} (k : Kx G H H') (p : μ <+: μ') (d : DicR G μ H kvs xs) : DicR G μ' H' kvs xs :=
  ⟨d.keys, d.kvr.kx k p, let ⟨us, a, b⟩ := d.vals; ⟨us, a.kx k p, b⟩, d.nd, d.dp, d.len⟩
/-- a shared thing at its address -/
def CellR (G : GP) (μ : List Addr) (H : Hp) : Cell → Addr → Prop
  | .lst xs, a => ∃ us, H a = some (.lst us) ∧ VRs G μ H xs us
  | .ins c xs, a => ∃ dx fs, H a = some (.ins (G.cm c) dx fs) ∧ fs.map (·.1) = G.cf c ∧ G.im (G.cm c) (G.cf c) = false ∧ VRs G μ H xs (fs.map (·.2))
  | .dic kvs, a => ∃ xs, H a = some (DicO a G.w xs) ∧ DicR G μ H kvs xs
  | .sdic kvs, a => ∃ xs o, H a = some (.frz o (DicO a G.w xs)) ∧ DicR G μ H kvs xs
/-- a table of code objects of one name -/
def TabK (H : Hp) (P : Addr) (q : Str) : Prop := ∃ ps : Array Value, H P = some (.tbl ps) ∧ PySem.TriplesOk ps.toList ∧ ∀ (pos : Pos) (cv : Value), codeAmong pos ps.toList = some cv → ∃ (c : Addr) (o : Obj), cv = .ref c ∧ H c = some (.frz o (LamX.CodeO c q))
structure StR (G : GP) (μ : List Addr) (H : Hp) (S : Store) : Prop where
  len : μ.length = S.length
  nd : μ.Nodup
  tb : ∀ p, p ∈ G.tabs → TabK H p.1 p.2
  at_ : ∀ (n : Nat) (c : Cell) (a : Addr), S[n]? = some c → μ[n]? = some a → CellR G μ H c a
theorem CellR.nfix {c : Cell} {a : Addr} (h : CellR G μ H c a) : ∃ o, H a = some o ∧ (fixdT G o = false ∨ ∃ ob u, o = .frz ob u) := by
  cases c with
  | lst xs => obtain ⟨us, e, _⟩ := h; exact ⟨_, e, .inl rfl⟩
  | ins c xs => obtain ⟨dx, fs, e, n, m, _⟩ := h; exact ⟨_, e, .inl (by show G.im _ _ = false; rw [n]; exact m)⟩
  | dic kvs => obtain ⟨xs, e, _⟩ := h; exact ⟨_, e, .inl rfl⟩
  | sdic kvs => obtain ⟨xs, o, e, _⟩ := h; exact ⟨_, e, .inr ⟨_, _, rfl⟩⟩
theorem StR.nfix {S : Store} (r : StR G μ H S) {a : Addr} (h : a ∈ μ) : ∃ o, H a = some o ∧ (fixdT G o = false ∨ ∃ ob u, o = .frz ob u) := by
  obtain ⟨n, hn⟩ := List.mem_iff_getElem?.mp h
  have h1 : n < S.length := by rw [← r.len]; exact (List.getElem?_eq_some_iff.mp hn).1
  exact (r.at_ n _ a (List.getElem?_eq_getElem h1) hn).nfix

def notTbl : HO → Bool
  | .tbl _ => false
  | _ => true
/-- from one heap to the next: all that is tracked stays, but the shared things; tables of code may grow -/
structure Step (μ : List Addr) (H : Hp) (μ' : List Addr) (H' : Hp) : Prop where
  keep : ∀ a o, H a = some o → a ∉ μ → notTbl o = true → H' a = some o
  tbl : ∀ a ps, H a = some (.tbl ps) → a ∉ μ → ∃ qs, H' a = some (.tbl qs)
  pre : μ <+: μ'
  new : ∀ a, a ∈ μ' → a ∈ μ ∨ H a = none
  fz : ∀ a o u, H a = some (.frz o u) → H' a = some (.frz o u)
theorem Step.refl : Step μ H μ H := ⟨fun _ _ h _ _ => h, fun _ ps h _ => ⟨ps, h⟩, List.prefix_refl _, fun _ h => .inl h, fun _ _ _ h => h⟩
theorem Step.trans {μ1 μ2 : List Addr} {H1 H2 : Hp} (a : Step μ H μ1 H1) (b : Step μ1 H1 μ2 H2) : Step μ H μ2 H2 where
  keep := fun p o h n t => b.keep p o (a.keep p o h n t) (fun z => (a.new p z).elim n fun q => by rw [h] at q; cases q) t
  tbl := fun p ps h n => by
    obtain ⟨qs, h1⟩ := a.tbl p ps h n
    exact b.tbl p qs h1 fun z => (a.new p z).elim n fun q => by rw [h] at q; cases q
  pre := a.pre.trans b.pre
  new := fun p h => by
    rcases b.new p h with z | z
    · exact a.new p z
    · cases q : H p with
      | none => exact .inr rfl
      | some o =>
        by_cases hm : p ∈ μ
        · exact .inl hm
        · cases ht : notTbl o with
          | true => rw [a.keep p o q hm ht] at z; cases z
          | false =>
            cases o with
            | tbl ps =>
              obtain ⟨qs, h1⟩ := a.tbl p ps q hm
              rw [h1] at z; cases z
            | _ => cases ht
  fz := fun p o u h => b.fz p o u (a.fz p o u h)
/-- nothing but new objects -/
theorem Step.ext (e : ∀ a o, H a = some o → H' a = some o) : Step μ H μ H' := ⟨fun a o h _ _ => e a o h, fun a ps h _ => ⟨ps, e a _ h⟩, List.prefix_refl _, fun _ h => .inl h, fun a o u h => e a _ h⟩
theorem Step.made {p : Addr} {o : HO} (h : H p = none) : Step μ H μ (upd H p o) := Step.ext fun a u e => by rw [upd_ne (ne_of_none e h)]; exact e
theorem Step.kx {S : Store} (s : Step μ H μ' H') (r : StR G μ H S) : Kx G H H' := fun a o h f => by
  by_cases z : a ∈ μ
  · obtain ⟨o', e, f'⟩ := r.nfix z
    rw [h] at e; cases e
    rcases f' with f' | ⟨ob, u, e⟩
    · rw [fixdT_fixd f'] at f; cases f
    · subst e; exact s.fz _ _ _ h
  · exact s.keep a o h z (by cases o <;> first | rfl | cases f)

/-! ### slots -/
/-- how a slot lies; pd: functions made here, cl: functions handed in -/
def SR (G : GP) (pdR : Nat → V → Hp → Prop) (clR : Nat → List Slot → V → List Addr → Hp → Prop) (μ : List Addr) (H : Hp) : Slot → Option V → Prop
  | .un, _ => True
  | .pl x, o => ∃ u, o = some u ∧ VR G μ H x u
  | .ow xs, o => ∃ p us, o = some (.ref p) ∧ H p = some (.lst us) ∧ VRs G μ H xs us ∧ p ∉ μ
  | .ob c xs, o => ∃ a dx fs, o = some (.ref a) ∧ H a = some (.ins (G.cm c) dx fs) ∧ fs.map (·.1) = (G.cf c).take xs.length ∧ xs.length ≤ (G.cf c).length ∧ (xs.length < (G.cf c).length → G.im (G.cm c) (fs.map (·.1)) = false) ∧ VRs G μ H xs (fs.map (·.2)) ∧ a ∉ μ
  | .pd k, o => ∃ u, o = some u ∧ pdR k u H
  | .cl k ρ, o => ∃ u, o = some u ∧ clR k ρ u μ H
/-- the two relations of functions, with what they bear -/
structure Fns where
  pd : Nat → V → Hp → Prop
  cl : GP → Nat → List Slot → V → List Addr → Hp → Prop
  pdx : ∀ G k u H H', Kx G H H' → pd k u H → pd k u H'
  clx : ∀ G k ρ u μ H μ' H', Kx G H H' → μ <+: μ' → cl G k ρ u μ H → cl G k ρ u μ' H'
/-- no function as a value -/
def Fns.none : Fns := ⟨fun _ _ _ => False, fun _ _ _ _ _ _ => False, fun _ _ _ _ _ _ h => h, fun _ _ _ _ _ _ _ _ _ _ h => h⟩
structure Rel (G : GP) (N : Fns) (μ : List Addr) (σ : St) (H : Hp) (ρ : Env) (S : Store) : Prop where
  len : ρ.length = σ.length
  at_ : ∀ (i : Nat) (s : Slot) (o : Option V), ρ[i]? = some s → σ[i]? = some o → SR G N.pd (N.cl G) μ H s o
  own : ∀ (i j : Nat) (xs ys : List Val) (p : Addr), ρ[i]? = some (.ow xs) → ρ[j]? = some (.ow ys) → σ[i]? = some (some (.ref p)) → σ[j]? = some (some (.ref p)) → i = j
  st : StR G μ H S
variable {N : Fns} {σ : St} {ρ : Env} {S S' : Store}
theorem Step.kp {S : Store} (s : Step μ H μ' H') (r : StR G μ H S) : Kp G μ H μ' H' := ⟨s.kx r, s.pre⟩
theorem Rel.slot (R : Rel G N μ σ H ρ S) {i : Nat} {s : Slot} (h : ρ[i]? = some s) : ∃ o, σ[i]? = some o ∧ SR G N.pd (N.cl G) μ H s o := by
  have h1 : i < σ.length := by rw [← R.len]; exact (List.getElem?_eq_some_iff.mp h).1
  exact ⟨_, List.getElem?_eq_getElem h1, R.at_ i s _ h (List.getElem?_eq_getElem h1)⟩
theorem SR.step {s : Slot} {o : Option V} (st : Step μ H μ' H') (r : StR G μ H S) (h : SR G N.pd (N.cl G) μ H s o) : SR G N.pd (N.cl G) μ' H' s o := by
  cases s with
  | un => trivial
  | pl x => obtain ⟨u, e, v⟩ := h; exact ⟨u, e, v.kx (st.kx r) st.pre⟩
  | ow xs =>
    obtain ⟨p, us, e, hp, v, n⟩ := h
    exact ⟨p, us, e, st.keep p _ hp n rfl, v.kx (st.kx r) st.pre, fun z => (st.new p z).elim n fun q => by rw [hp] at q; cases q⟩
  | ob c xs =>
    obtain ⟨a, dx, fs, e, ha, n1, n2, n3, v, n⟩ := h
    exact ⟨a, dx, fs, e, st.keep a _ ha n rfl, n1, n2, n3, v.kx (st.kx r) st.pre, fun z => (st.new a z).elim n fun q => by rw [ha] at q; cases q⟩
  | pd k => obtain ⟨u, e, v⟩ := h; exact ⟨u, e, N.pdx _ _ _ _ _ (st.kx r) v⟩
  | cl k ρ => obtain ⟨u, e, v⟩ := h; exact ⟨u, e, N.clx _ _ _ _ _ _ _ _ (st.kx r) st.pre v⟩
theorem Rel.step (R : Rel G N μ σ H ρ S) (st : Step μ H μ' H') (r : StR G μ' H' S') : Rel G N μ' σ H' ρ S' :=
  ⟨R.len, fun i s o h1 h2 => (R.at_ i s o h1 h2).step st R.st, R.own, r⟩
end
end KL

set_option linter.all false
set_option maxRecDepth 100000
set_option maxHeartbeats 1000000
/-! KSim: the judgement «this syntax runs as that reading», expressions. -/
namespace KL
open PySem L2

/-- an exception's record: its class, its own dict -/
inductive ER (G : GP) (μ : List Addr) (H : Hp) : Value → Option Addr → Val → Prop
  | own {c : Nat} {d : Addr} {fs : List (Str × V)} {xs : List Val} : H d = some (.xd fs) → fs.map (·.1) = G.cf c → VRs G μ H xs (fs.map (·.2)) → ER G μ H (.ref (G.cm c)) (some d) (.obj c xs)
  | bare {c : Nat} : G.cf c = [] → ER G μ H (.ref (G.cm c)) none (.obj c [])

section
variable {G : GP} {N : Fns} {W : WX} {X : Cx} {μ μ' μ1 : List Addr} {H H' H1 : Hp} {σ : St} {ρ : Env} {S S' S1 : Store}

/-- what an outcome asks: K of a value's way, W of an exception's -/
def Out {α : Type} (G : GP) (W : WX) (σ : St) (μ : List Addr) (H : Hp) (r : R α) (K : α → Store → List Addr → Hp → Prop) : Prop := match r with
  | .ok a S' => ∀ μ' H', Step μ H μ' H' → StR G μ' H' S' → K a S' μ' H'
  | .er e S' => ∀ cls d μ' H', Step μ H μ' H' → StR G μ' H' S' → ER G μ' H' cls d e → W cls d σ H'
  | .sk => False
theorem Out.mono {α : Type} {r : R α} {K K' : α → Store → List Addr → Hp → Prop} (h : Out G W σ μ H r K) (k : ∀ a S' μ' H', Step μ H μ' H' → StR G μ' H' S' → K a S' μ' H' → K' a S' μ' H') : Out G W σ μ H r K' := by
  cases r with
  | ok a S' => exact fun μ' H' st sr => k a S' μ' H' st sr (h μ' H' st sr)
  | er e S' => exact h
  | sk => exact h
theorem Out.step {α : Type} {r : R α} {K : α → Store → List Addr → Hp → Prop} (h : Out G W σ μ H r K) (st : Step μ H μ' H') : Out G W σ μ' H' r K := by
  cases r with
  | ok a S' => exact fun μ2 H2 st2 sr => h μ2 H2 (st.trans st2) sr
  | er e S' => exact fun cls d μ2 H2 st2 sr er => h cls d μ2 H2 (st.trans st2) sr er
  | sk => exact h
theorem Out.bind {α β : Type} {m : R α} {f : α → Store → R β} {K : β → Store → List Addr → Hp → Prop} (h : Out G W σ μ H (m.bind f) K) :
    Out G W σ μ H m fun a S1 μ1 H1 => Out G W σ μ1 H1 (f a S1) K := by
  cases m with
  | ok a S' => exact fun μ' H' st _ => Out.step (r := f a S') h st
  | er e S' => exact h
  | sk => exact h
theorem Out.of {α : Type} {o : Option α} {K : α → Store → List Addr → Hp → Prop} (h : Out G W σ μ H (R.of o S) K) : ∃ a, o = some a ∧ ∀ μ' H', Step μ H μ' H' → StR G μ' H' S → K a S μ' H' := by
  cases o with
  | none => exact False.elim h
  | some a => exact ⟨a, rfl, h⟩
theorem Out.ok {α : Type} {a : α} {K : α → Store → List Addr → Hp → Prop} (h : Out G W σ μ H (R.ok a S) K) (r : StR G μ H S) : K a S μ H := h μ H Step.refl r

/-! ### the three kinds of a value's standing -/
abbrev Md := List Addr → Hp → Hp → Val → V → Prop
/-- for good -/
def MF (G : GP) : Md := fun μ' _ H' v u => VR G μ' H' v u
/-- to be looked at -/
def MB (G : GP) : Md := fun μ' _ H' v u => RB G μ' H' v u
/-- a list is new -/
def MN (G : GP) : Md := fun μ' H H' v u => (∃ p xs us, v = .lst xs ∧ u = .ref p ∧ H p = none ∧ p ∉ μ' ∧ H' p = some (.lst us) ∧ VRs G μ' H' xs us) ∨ ((∀ xs, v ≠ .lst xs) ∧ VR G μ' H' v u)
theorem MF.mb {v : Val} {u : V} (h : MF G μ H H' v u) : MB G μ H H' v u := .inl h
theorem MN.mb {v : Val} {u : V} (h : MN G μ H H' v u) : MB G μ H H' v u := by
  rcases h with ⟨p, xs, us, e1, e2, _, np, hp, r⟩ | ⟨_, h⟩
  · exact .inr ⟨p, xs, us, e1, e2, hp, np, r⟩
  · exact .inl h

/-- the reading of an expression -/
def tE (G : GP) (N : Fns) (W : WX) (M : Md) (m : E Val) : TE := fun σ H Q => ∃ ρ S μ, Rel G N μ σ H ρ S ∧ Out G W σ μ H (m ρ S) fun v S' μ' H' => ∀ u, M μ' H H' v u → Q u H'
/-- .. of a test -/
def tT (G : GP) (N : Fns) (W : WX) (m : T) : TT := fun σ H Q => ∃ ρ S μ, Rel G N μ σ H ρ S ∧ Out G W σ μ H (m ρ S) fun b _ _ H' => Q b H'
/-- .. of an argument list -/
abbrev Mds := List Addr → Hp → List Val → List V → Prop
def MFs (G : GP) : Mds := fun μ H xs us => VRs G μ H xs us
def MBs (G : GP) : Mds := fun μ H xs us => RBs G μ H xs us
def tA (G : GP) (N : Fns) (W : WX) (M : Mds) (m : E (List Val)) : TA := fun σ H Q => ∃ ρ S μ, Rel G N μ σ H ρ S ∧ Out G W σ μ H (m ρ S) fun vs _ μ' H' => ∀ us, M μ' H' vs us → Q us H'

theorem pe_imp {e : Expr} {t t' : TE} (h : PE X e t) (i : ∀ σ H Q, t' σ H Q → t σ H Q) : PE X e t' := ⟨fun pins s σ H Q I q => h.run pins s σ H Q I (i σ H Q q)⟩
theorem pt_imp {e : Expr} {t t' : TT} (h : PT X e t) (i : ∀ σ H Q, t' σ H Q → t σ H Q) : PT X e t' := ⟨fun pins s σ H Q I q => h.run pins s σ H Q I (i σ H Q q)⟩
theorem pw_imp {e : Expr} {t t' : TT} (h : PW X e t) (i : ∀ σ H Q, t' σ H Q → t σ H Q) : PW X e t' := ⟨fun wh pins s σ H Q I q => h.run wh pins s σ H Q I (i σ H Q q)⟩
theorem pa_imp {e : List Expr} {t t' : TA} (h : PA X e t) (i : ∀ σ H Q, t' σ H Q → t σ H Q) : PA X e t' := ⟨fun pos pins s σ H Q I q => h.run pos pins s σ H Q I (i σ H Q q)⟩
theorem pe_b {e : Expr} {m : E Val} (h : PE X e (tE G N W (MF G) m)) : PE X e (tE G N W (MB G) m) :=
  pe_imp h fun σ H Q ⟨ρ, S, μ, R, o⟩ => ⟨ρ, S, μ, R, o.mono fun _ _ _ _ _ _ k u hu => k u hu.mb⟩
theorem pe_nb {e : Expr} {m : E Val} (h : PE X e (tE G N W (MN G) m)) : PE X e (tE G N W (MB G) m) :=
  pe_imp h fun σ H Q ⟨ρ, S, μ, R, o⟩ => ⟨ρ, S, μ, R, o.mono fun _ _ _ _ _ _ k u hu => k u hu.mb⟩

/-! ### a new list is locked -/
theorem freeze {pins : List (Addr × Obj)} {s : Shared} {p : Addr} {us : List V} (I : Inv X pins σ H s) (h : H p = some (.lst us)) : ∃ o, Inv X pins σ (upd H p (.frz o (.lst us))) s := by
  obtain ⟨hz, its, n, rv, ho⟩ := id (I.hok p _ h)
  have ne : ∀ b, H b = none → b ≠ p := fun b e z => by rw [z, h] at e; cases e
  have up : ∀ b u, H b = some u → (∀ xs, u ≠ .lst xs) → upd H p (.frz { cls := .type "list", data := .seq its.toArray n } (.lst us)) b = some u := fun b u e d => by
    rw [upd_ne (fun z => by rw [z, h] at e; cases e; exact d _ rfl)]; exact e
  refine ⟨{ cls := .type "list", data := .seq its.toArray n }, I.ok, I.os, I.bare, ⟨I.base.keep, I.base.slot, fun b o e n hx => ?_, I.base.there, fun b xs e => ?_, fun b o u e => ?_, fun b ps e => ?_⟩, I.loc, I.cell, ?_, fun x c e => ?_, fun q hq => ?_, fun b u e => ?_, I.len⟩
  · have z := I.base.free b o e n hx
    rw [upd_ne (ne b z)]; exact z
  · exact up b _ (I.base.tups b xs e) (by intro xs z; cases z)
  · exact up b _ (I.base.frzs b o u e) (by intro xs z; cases z)
  · obtain ⟨more, e'⟩ := I.base.tbls b ps e
    exact ⟨more, up b _ e' (by intro xs z; cases z)⟩
  · rw [upd_ne (ne _ I.free)]; exact I.free
  · rw [upd_ne (ne _ (I.freeC x c e))]; exact I.freeC x c e
  · obtain ⟨a1, a2, a3, a4, a5⟩ := I.pin q hq
    exact ⟨a1, by rw [upd_ne (ne _ a2)]; exact a2, a3, a4, a5⟩
  · by_cases hb : b = p
    · subst hb
      rw [upd_same] at e; cases e
      exact ⟨ho, hz, its, n, rv, ho⟩
    · rw [upd_ne hb] at e
      exact (I.hok b u e).stay (fun _ _ _ q => q) (fun c q => up c _ q (by intro xs z; cases z)) fun c xs q => up c _ q (by intro xs z; cases z)
theorem pe_ghost {e : Expr} {t : TE} (h : PE X e t) : PE X e (fun σ H Q => t σ H fun u H1 => Q u H1 ∨ ∃ p us, u = .ref p ∧ H1 p = some (.lst us) ∧ ∀ o, Q u (upd H1 p (.frz o (.lst us)))) := by
  refine ⟨fun pins s σ H Q I q => thn (h.run pins s σ H _ I q) fun v s1 ⟨u, H1, I1, r1, q1⟩ => ?_⟩
  rcases q1 with q1 | ⟨p, us, rfl, hp, q1⟩
  · exact ⟨u, H1, I1, r1, q1⟩
  · obtain ⟨o, I2⟩ := freeze I1 hp
    exact ⟨_, _, I2, r1, q1 o⟩
/-- an object that is no shared thing and does not stand still may change -/
theorem kx_upd {p : Addr} {o : HO} (h : ∀ u, H p = some u → fixdT G u = false) : Kx G H (upd H p o) := fun a u e f => by
  rw [upd_ne (fun z => by subst z; rw [fixdT_fixd (h u e)] at f; cases f)]; exact e
theorem TabK.upd {p P : Addr} {q : Str} {o : HO} (t : TabK H P q) (h : ∀ u, H p = some u → fixdT G u = false) : TabK (L2.upd H p o) P q := by
  obtain ⟨ps, e1, e2, e3⟩ := t
  refine ⟨ps, by rw [upd_ne (fun z => by subst z; cases h _ e1)]; exact e1, e2, fun pos cv hc => ?_⟩
  obtain ⟨c, ob, e4, e5⟩ := e3 pos cv hc
  exact ⟨c, ob, e4, by rw [upd_ne (fun z => by subst z; cases h _ e5)]; exact e5⟩
theorem TabK.ext {P : Addr} {q : Str} (e : ∀ a o, H a = some o → H' a = some o) (t : TabK H P q) : TabK H' P q := by
  obtain ⟨ps, e1, e2, e3⟩ := t
  refine ⟨ps, e _ _ e1, e2, fun pos cv hc => ?_⟩
  obtain ⟨c, ob, e4, e5⟩ := e3 pos cv hc
  exact ⟨c, ob, e4, e _ _ e5⟩
theorem StR.upd {p : Addr} {o : HO} (r : StR G μ H S) (hp : p ∉ μ) (h : ∀ u, H p = some u → fixdT G u = false) : StR G μ (L2.upd H p o) S := by
  refine ⟨r.len, r.nd, fun q hq => (r.tb q hq).upd h, fun n c a e1 e2 => ?_⟩
  have ne : a ≠ p := fun z => hp (z ▸ List.mem_of_getElem? e2)
  have q := r.at_ n c a e1 e2
  cases c with
  | lst xs =>
    obtain ⟨us, e, v⟩ := q
    exact ⟨us, by rw [upd_ne ne]; exact e, v.kx (kx_upd h) (List.prefix_refl _)⟩
  | ins c xs =>
    obtain ⟨dx, fs, e, en, em, v⟩ := q
    exact ⟨dx, fs, by rw [upd_ne ne]; exact e, en, em, v.kx (kx_upd h) (List.prefix_refl _)⟩
  | dic kvs => obtain ⟨xs, e, d⟩ := q; exact ⟨xs, by rw [upd_ne ne]; exact e, d.kx (kx_upd h) (List.prefix_refl _)⟩
  | sdic kvs => obtain ⟨xs, ob, e, d⟩ := q; exact ⟨xs, ob, by rw [upd_ne ne]; exact e, d.kx (kx_upd h) (List.prefix_refl _)⟩
theorem Step.upd {p : Addr} {o : HO} (st : Step μ H μ' H') (hp : H p = none) : Step μ H μ' (L2.upd H' p o) :=
  ⟨fun a u e n t => by rw [upd_ne (ne_of_none e hp)]; exact st.keep a u e n t, fun a ps e n => by rw [upd_ne (ne_of_none e hp)]; exact st.tbl a ps e n, st.pre, st.new, fun a ob u e => by rw [upd_ne (ne_of_none e hp)]; exact st.fz a ob u e⟩
/-- .. and is then there for good -/
theorem pe_nf {e : Expr} {m : E Val} (h : PE X e (tE G N W (MN G) m)) : PE X e (tE G N W (MF G) m) := by
  refine pe_imp (pe_ghost h) fun σ H Q ⟨ρ, S, μ, R, o⟩ => ⟨ρ, S, μ, R, ?_⟩
  cases hm : m ρ S with
  | sk => rw [hm] at o; exact o
  | er e S' => rw [hm] at o; exact o
  | ok v S' =>
    rw [hm] at o
    intro μ' H' st sr u hu
    rcases hu with ⟨p, xs, us, rfl, rfl, hn, np, hp, r⟩ | ⟨_, hu⟩
    · refine .inr ⟨p, us, rfl, hp, fun o' => ?_⟩
      have f : ∀ u, H' p = some u → fixdT G u = false := fun u e => by rw [hp] at e; cases e; rfl
      exact o μ' _ (st.upd hn) (sr.upd np f) _ (.lst upd_same (r.kx (kx_upd f) (List.prefix_refl _)))
    · exact .inl (o μ' H' st sr u hu)

/-! ### names, constants -/
theorem fe_var (i : Nat) {x : Str} {pos : Pos} (hN : X.N[i]? = some x := by rfl) (hv : Vis X.env.scope x := by first | exact Or.inl rfl | exact Or.inr (Or.inl rfl) | exact Or.inr (Or.inr rfl)) (hd : (x == ("__debug__" : Str)) = false := by decide)
    (hcd : (x == ("__classdict__" : Str)) = false := by decide) : PE X (.Name x pos) (tE G N W (MF G) (cVar i)) := by
  refine pe_imp (pe_var hN hv hd hcd) fun σ H Q ⟨ρ, S, μ, R, o⟩ => ?_
  unfold cVar at o
  cases e : ρ[i]? with
  | none => rw [e] at o; exact False.elim o
  | some s =>
    rw [e] at o
    cases s with
    | pl v =>
      obtain ⟨q, h1, u, rfl, h2⟩ := R.slot e
      exact ⟨u, h1, o.ok R.st u h2⟩
    | _ => exact False.elim o
theorem fe_bor (i : Nat) {x : Str} {pos : Pos} (hN : X.N[i]? = some x := by rfl) (hv : Vis X.env.scope x := by first | exact Or.inl rfl | exact Or.inr (Or.inl rfl) | exact Or.inr (Or.inr rfl)) (hd : (x == ("__debug__" : Str)) = false := by decide)
    (hcd : (x == ("__classdict__" : Str)) = false := by decide) : PE X (.Name x pos) (tE G N W (MB G) (cBor i)) := by
  refine pe_imp (pe_var hN hv hd hcd) fun σ H Q ⟨ρ, S, μ, R, o⟩ => ?_
  unfold cBor at o
  cases e : ρ[i]? with
  | none => rw [e] at o; exact False.elim o
  | some s =>
    rw [e] at o
    cases s with
    | pl v =>
      obtain ⟨q, h1, u, rfl, h2⟩ := R.slot e
      exact ⟨u, h1, o.ok R.st u h2.rb⟩
    | ow xs =>
      obtain ⟨q, h1, p, us, rfl, h2, h3, h4⟩ := R.slot e
      exact ⟨_, h1, o.ok R.st _ (.inr ⟨p, xs, us, rfl, rfl, h2, h4, h3⟩)⟩
    | _ => exact False.elim o
theorem fe_c {e : Expr} {v : Val} {u : V} (h : PE X e (tC u)) (r : ∀ μ H, VR G μ H v u) : PE X e (tE G N W (MF G) (cC v)) :=
  pe_imp h fun σ H Q ⟨ρ, S, μ, R, o⟩ => o.ok R.st u (r μ H)
theorem fe_int {i : Int} {j pos} : PE X (.Constant (.int i) j pos) (tE G N W (MF G) (cC (.int i))) := fe_c pe_int fun _ _ => .int i
theorem fe_bl {b : Bool} {j pos} : PE X (.Constant (.bool b) j pos) (tE G N W (MF G) (cC (.bl b))) := fe_c pe_bl fun _ _ => .bl b
theorem fe_non {j pos} : PE X (.Constant .none j pos) (tE G N W (MF G) (cC .non)) := fe_c pe_non fun _ _ => .non
theorem fe_str {x : Str} {j pos} : PE X (.Constant (.str x) j pos) (tE G N W (MF G) (cC (.str x))) := fe_c pe_str fun _ _ => .str x
theorem fe_glob {x : Str} {v : Val} {u : V} {w : Value} {pos : Pos} (hg : Gl X x) (hm : X.mg x = some w) (r : RelV u w) (q : ∀ μ H, VR G μ H v u) (hd : (x == ("__debug__" : Str)) = false := by decide) : PE X (.Name x pos) (tE G N W (MF G) (cC v)) :=
  fe_c (pe_glob hg hm r hd) q

/-! ### operators -/
theorem RB.dr (r : StR G μ H S) {x : Val} {u : V} (h : RB G μ H x u) : RD G μ H (dr S x) u := by
  have keep : RD G μ H x u := by
    rcases h with h | ⟨p, xs, us, e1, e2, hp, _, v⟩
    · exact .inl h
    · exact .inr ⟨p, xs, us, e1, e2, hp, v⟩
  cases x with
  | ref n =>
    cases e : S[n]? with
    | none =>
      have q : KL.dr S (.ref n) = .ref n := by show (match S[n]? with | some (.lst xs) => Val.lst xs | _ => .ref n) = _; rw [e]
      rw [q]; exact keep
    | some c =>
      cases c with
      | lst xs =>
        have q : KL.dr S (.ref n) = .lst xs := by show (match S[n]? with | some (.lst xs) => Val.lst xs | _ => .ref n) = _; rw [e]
        rw [q]
        rcases h with h | ⟨p, xs, us, q, _⟩
        · cases h with
          | ref hm =>
            obtain ⟨us, e1, e2⟩ := r.at_ n _ _ e hm
            exact .inr ⟨_, xs, us, rfl, rfl, e1, e2⟩
        · cases q
      | ins c xs =>
        have q : KL.dr S (.ref n) = .ref n := by show (match S[n]? with | some (.lst xs) => Val.lst xs | _ => .ref n) = _; rw [e]
        rw [q]; exact keep
      | dic kvs =>
        have q : KL.dr S (.ref n) = .ref n := by show (match S[n]? with | some (.lst xs) => Val.lst xs | _ => .ref n) = _; rw [e]
        rw [q]; exact keep
      | sdic kvs =>
        have q : KL.dr S (.ref n) = .ref n := by show (match S[n]? with | some (.lst xs) => Val.lst xs | _ => .ref n) = _; rw [e]
        rw [q]; exact keep
  | _ => exact keep
theorem RB.step (st : Step μ H μ' H') (r : StR G μ H S) {x : Val} {u : V} (h : RB G μ H x u) : RB G μ' H' x u := by
  rcases h with h | ⟨p, xs, us, e1, e2, hp, n, v⟩
  · exact .inl (h.kx (st.kx r) st.pre)
  · exact .inr ⟨p, xs, us, e1, e2, st.keep p _ hp n rfl, (fun z => (st.new p z).elim n fun q => by rw [hp] at q; cases q), v.kx (st.kx r) st.pre⟩
theorem RBs.step (st : Step μ H μ' H') (r : StR G μ H S) : ∀ {xs : List Val} {us : List V}, RBs G μ H xs us → RBs G μ' H' xs us
  | _, _, .nil => .nil
  | _, _, .cons h t => .cons (h.step st r) (RBs.step st r t)
theorem RBs.dr (r : StR G μ H S) : ∀ {xs : List Val} {us : List V}, RBs G μ H xs us → RDs G μ H (xs.map (KL.dr S)) us
  | _, _, .nil => .nil
  | _, _, .cons h t => .cons (h.dr r) (RBs.dr r t)

/-- a two-place operation's rule, by what it does with values -/
def rO (G : GP) (f : Val → Val → Option Val) : R2 := fun u w H Q => ∃ μ x y z, (∀ a, a ∈ μ → H a ≠ none) ∧ RD G μ H x u ∧ RD G μ H y w ∧ f x y = some z ∧ ∀ q H', (∀ a o, H a = some o → H' a = some o) → MN G μ H H' z q → Q q H'
def rU1 (G : GP) (f : Val → Option Val) : V → Hp → VK → Prop := fun u H Q => ∃ μ x z, (∀ a, a ∈ μ → H a ≠ none) ∧ RD G μ H x u ∧ f x = some z ∧ ∀ q H', (∀ a o, H a = some o → H' a = some o) → MN G μ H H' z q → Q q H'
/-- a built-in's -/
def rC (G : GP) (f : List Val → Option Val) : List V → Hp → VK → Prop := fun us H Q => ∃ μ xs z, (∀ a, a ∈ μ → H a ≠ none) ∧ RDs G μ H xs us ∧ f xs = some z ∧ ∀ q H', (∀ a o, H a = some o → H' a = some o) → MN G μ H H' z q → Q q H'
theorem StR.ext (e : ∀ a o, H a = some o → H' a = some o) (r : StR G μ H S) : StR G μ H' S :=
  ⟨r.len, r.nd, fun q hq => (r.tb q hq).ext e, fun n c a h1 h2 => by
    have k : Kx G H H' := fun a o h _ => e a o h
    have q := r.at_ n c a h1 h2
    cases c with
    | lst xs => obtain ⟨us, e1, v⟩ := q; exact ⟨us, e _ _ e1, v.kx k (List.prefix_refl _)⟩
    | ins c xs => obtain ⟨dx, fs, e1, en, em, v⟩ := q; exact ⟨dx, fs, e _ _ e1, en, em, v.kx k (List.prefix_refl _)⟩
    | dic kvs => obtain ⟨xs, e1, d⟩ := q; exact ⟨xs, e _ _ e1, d.kx k (List.prefix_refl _)⟩
    | sdic kvs => obtain ⟨xs, ob, e1, d⟩ := q; exact ⟨xs, ob, e _ _ e1, d.kx k (List.prefix_refl _)⟩⟩
theorem Step.fresh (st : Step μ H μ' H') (r : StR G μ' H' S') {p : Addr} (h : H' p = none) : H p = none := by
  cases q : H p with
  | none => rfl
  | some o =>
    by_cases hm : p ∈ μ
    · obtain ⟨n, hn⟩ := List.mem_iff_getElem?.mp hm
      obtain ⟨o', e, _⟩ := r.nfix (List.mem_of_getElem? (pre_get st.pre hn))
      rw [h] at e; cases e
    · cases t : notTbl o with
      | true => rw [st.keep p o q hm t] at h; cases h
      | false =>
        cases o with
        | tbl ps =>
          obtain ⟨qs, e⟩ := st.tbl p ps q hm
          rw [h] at e; cases e
        | _ => cases t
theorem MN.back {μ2 : List Addr} (st : Step μ H μ' H') (r : StR G μ' H' S') {H2 : Hp} {v : Val} {u : V} (h : MN G μ2 H' H2 v u) : MN G μ2 H H2 v u := by
  rcases h with ⟨p, xs, us, e1, e2, hn, np, hp, v⟩ | h
  · exact .inl ⟨p, xs, us, e1, e2, st.fresh r hn, np, hp, v⟩
  · exact .inr h

theorem StR.there (r : StR G μ H S) : ∀ a, a ∈ μ → H a ≠ none := fun a h e => by
  obtain ⟨o, q, _⟩ := r.nfix h
  rw [e] at q; cases q
theorem op_imp {ma mb : E Val} {f : Val → Val → Option Val} {σ : St} {H : Hp} {Q : VK} (h : tE G N W (MN G) (cOp f ma mb) σ H Q) : tOp (rO G f) (tE G N W (MB G) ma) (tE G N W (MB G) mb) σ H Q := by
  obtain ⟨ρ, S, μ, R, o⟩ := h
  refine ⟨ρ, S, μ, R, (Out.bind o).mono fun x S1 μ1 H1 st1 sr1 k1 u hu => ⟨ρ, S1, μ1, R.step st1 sr1, (Out.bind k1).mono fun y S2 μ2 H2 st2 sr2 k2 w hw => ?_⟩⟩
  obtain ⟨z, e, k3⟩ := Out.of k2
  exact ⟨μ2, _, _, z, sr2.there, (hu.step st2 sr1).dr sr2, hw.dr sr2, e, fun q H3 ex m => k3 μ2 H3 (Step.ext ex) (sr2.ext ex) q (m.back (st1.trans st2) sr2)⟩
theorem fe_op {a b : Expr} {op : Operator} {pos : Pos} {ma mb : E Val} {f : Val → Val → Option Val} (ho : OpR X (binaryOp op) (rO G f)) (ha : PE X a (tE G N W (MB G) ma)) (hb : PE X b (tE G N W (MB G) mb)) :
    PE X (.BinOp a op b pos) (tE G N W (MN G) (cOp f ma mb)) :=
  pe_imp (pe_op ho ha hb) fun _ _ _ h => op_imp h
theorem un_imp {ma : E Val} {f : Val → Option Val} {σ : St} {H : Hp} {Q : VK} (h : tE G N W (MN G) (cUn f ma) σ H Q) : tUn (rU1 G f) (tE G N W (MB G) ma) σ H Q := by
  obtain ⟨ρ, S, μ, R, o⟩ := h
  refine ⟨ρ, S, μ, R, (Out.bind o).mono fun x S1 μ1 H1 st1 sr1 k1 u hu => ?_⟩
  obtain ⟨z, e, k3⟩ := Out.of k1
  exact ⟨μ1, _, z, sr1.there, hu.dr sr1, e, fun q H3 ex m => k3 μ1 H3 (Step.ext ex) (sr1.ext ex) q (m.back st1 sr1)⟩
theorem fe_un {a : Expr} {op : UnaryOp} {pos : Pos} {ma : E Val} {f : Val → Option Val} (ho : UnR X (unaryOp op) (rU1 G f)) (ha : PE X a (tE G N W (MB G) ma)) : PE X (.UnaryOp op a pos) (tE G N W (MN G) (cUn f ma)) :=
  pe_imp (pe_un ho ha) fun _ _ _ h => un_imp h
end
end KL

set_option linter.all false
set_option maxRecDepth 100000
set_option maxHeartbeats 1000000
/-! KOps: the operators' rules by values. -/
namespace KL
open PySem L2
section
variable {G : GP} {X : Cx} {μ : List Addr} {H : Hp} {σ : St} {pins : List (Addr × Obj)} {s : Shared}
theorem RD.int {i : Int} {u : V} (h : RD G μ H (.int i) u) : u = .int i := by
  rcases h with h | ⟨_, _, _, e, _⟩
  · cases h; rfl
  · cases e
theorem RD.bl {b : Bool} {u : V} (h : RD G μ H (.bl b) u) : u = .bl b := by
  rcases h with h | ⟨_, _, _, e, _⟩
  · cases h; rfl
  · cases e
theorem RD.str {b : Str} {u : V} (h : RD G μ H (.str b) u) : u = .str b := by
  rcases h with h | ⟨_, _, _, e, _⟩
  · cases h; rfl
  · cases e
theorem RD.non {u : V} (h : RD G μ H .non u) : u = .non := by
  rcases h with h | ⟨_, _, _, e, _⟩
  · cases h; rfl
  · cases e
theorem RD.tup {xs : List Val} {u : V} (h : RD G μ H (.tup xs) u) : ∃ a us, u = .ref a ∧ SqT G.K H a us ∧ VRs G μ H xs us := by
  rcases h with h | ⟨_, _, _, e, _⟩
  · cases h with
    | tup h r => exact ⟨_, _, rfl, h, r⟩
  · cases e
theorem RD.arr {xs : List Val} {u : V} (h : RD G μ H (.arr xs) u) : ∃ a us, u = .ref a ∧ SqL G.K H a us ∧ VRs G μ H xs us := by
  rcases h with h | ⟨_, _, _, e, _⟩
  · cases h with
    | arr h r => exact ⟨_, _, rfl, h.sq, r⟩
  · cases e
theorem RD.sq {xs : List Val} {u : V} (h : RD G μ H (.lst xs) u) : ∃ a us, u = .ref a ∧ SqL G.K H a us ∧ VRs G μ H xs us := by
  rcases h with h | ⟨p, xs', us, e, e2, h, r⟩
  · cases h with
    | lst h r => exact ⟨_, _, rfl, .inl (.inr ⟨_, h⟩), r⟩
  · cases e
    exact ⟨p, us, e2, .inl (.inl h), r⟩
theorem RD.lst {xs : List Val} {u : V} (I : Inv X pins σ H s) (h : RD G μ H (.lst xs) u) : ∃ a us its n, u = .ref a ∧ VRs G μ H xs us ∧ Vals us its ∧ s.heap.get? a = some { cls := .type "list", data := .seq its.toArray n } ∧ us.length ≤ sizeLine ∧ us.length = its.length := by
  rcases h with h | ⟨p, xs', us, e, e2, h, r⟩
  · cases h with
    | lst h r =>
      obtain ⟨_, z, its, n, q, e⟩ := I.hok _ _ h
      exact ⟨_, _, its, n, rfl, r, q, e, z, q.length⟩
  · cases e
    obtain ⟨z, its, n, q, e⟩ := I.hok _ _ h
    exact ⟨p, us, its, n, e2, r, q, e, z, q.length⟩
theorem ext_upd {p : Addr} {o : HO} (h : H p = none) : ∀ a u, H a = some u → upd H p o a = some u := fun a u e => by rw [upd_ne (ne_of_none e h)]; exact e
/-- a new list is handed out -/
theorem mn_lst {H : Hp} {p : Addr} {xs : List Val} {us : List V} (h : H p = none) (np : p ∉ μ) (r : VRs G μ H xs us) : MN G μ H (upd H p (.lst us)) (.lst xs) (.ref p) :=
  .inl ⟨p, xs, us, rfl, rfl, h, np, upd_same, r.kx (kx_upd fun u e => by rw [h] at e; cases e) (List.prefix_refl _)⟩
theorem mn_tup {H : Hp} {p : Addr} {xs : List Val} {us : List V} (h : H p = none) (r : VRs G μ H xs us) : MN G μ H (upd H p (.tup us)) (.tup xs) (.ref p) :=
  .inr ⟨(fun _ e => by cases e), .tup (.inl (.inl upd_same)) (r.kx (kx_upd fun u e => by rw [h] at e; cases e) (List.prefix_refl _))⟩
theorem mn_int {H H' : Hp} (i : Int) : MN G μ H H' (.int i) (.int i) := .inr ⟨(fun _ e => by cases e), .int i⟩
theorem mn_str {H H' : Hp} (i : Str) : MN G μ H H' (.str i) (.str i) := .inr ⟨(fun _ e => by cases e), .str i⟩
theorem mn_bl {H H' : Hp} (i : Bool) : MN G μ H H' (.bl i) (.bl i) := .inr ⟨(fun _ e => by cases e), .bl i⟩
theorem mn_non {H H' : Hp} : MN G μ H H' .non .non := .inr ⟨(fun _ e => by cases e), .non⟩

/-! ### readings as data -/
theorem dic0_at {X : Cx} {G : GP} {pins : List (Addr × Obj)} {σ : St} {H : Hp} {s : Shared} {a : Addr} {o : Obj} (I : Inv X pins σ H s) (h : H a = some (.frz o (.dK []))) : (a == sysModules) = false ∧ ∃ (o : Obj) (es : Array DictEntry) (ep : Nat), s.heap.get? a = some o ∧ o.ExactDict ∧ o.data = .dict es ep ∧ es.toList = [] := by
  obtain ⟨_, h1, vs, hkv, hdd⟩ := dk_rd I.hok (.inr ⟨o, h⟩)
  have e : vs = [] := by
    have := hkv.length
    cases vs with
    | nil => rfl
    | cons _ _ => simp at this
  subst e
  obtain ⟨o, es, ep, h2, h3, h4, _, h5, _⟩ := hdd
  exact ⟨h1, o, es, ep, h2, h3, h4, List.length_eq_zero_iff.mp h5.length⟩
section
variable {X : Cx} {pins : List (Addr × Obj)} {s : Shared}
mutual
theorem VR.reads (hK : X.K = G.K) (I : Inv X pins σ H s) : ∀ {x : Val} {u : V} {d : PyData} {v : Value}, VR G μ H x u → x.toD = some d → RelV u v → ∃ as, Reads s.heap v d as
  | _, _, _, _, .non, e, r => by cases e; cases r; exact ⟨_, .none⟩
  | _, _, _, _, .bl b, e, r => by cases e; cases r; exact ⟨_, .bool b⟩
  | _, _, _, _, .int b, e, r => by cases e; obtain ⟨t, rfl⟩ := r; exact ⟨_, .int b t⟩
  | _, _, _, _, .str b, e, r => by cases e; obtain ⟨t, rfl⟩ := r; exact ⟨_, .str b t⟩
  | .tup xs, _, _, _, .tup h rr, e, r => by
    unfold Val.toD at e
    cases q : toDs xs with
    | none => rw [q] at e; cases e
    | some ds =>
      rw [q] at e; cases e; cases r
      obtain ⟨its, rv, ⟨o, ho, hc, n, hd⟩, _⟩ := I.tuple (by rw [hK]; exact h)
      obtain ⟨as, hr⟩ := VRs.reads hK I rr q rv
      exact ⟨_, .tuple ho hc hd hr⟩
  | .lst xs, _, _, _, .lst h rr, e, r => by
    unfold Val.toD at e
    cases q : toDs xs with
    | none => rw [q] at e; cases e
    | some ds =>
      rw [q] at e; cases e; cases r
      obtain ⟨its, rv, ⟨o, n, ho, hc, _, hd⟩, _⟩ := I.list (.inl (.inr ⟨_, h⟩))
      obtain ⟨as, hr⟩ := VRs.reads hK I rr q rv
      exact ⟨_, .list ho hc hd hr⟩
  | _, _, _, _, .arr _ _, e, _ => by cases e
  | _, _, _, _, .obj _ _ _ _, e, _ => by cases e
  | _, _, _, _, .ref _, e, _ => by cases e
  | _, _, _, _, .fn _, e, _ => by cases e
  | _, _, _, _, .dic0 h, e, r => by
    cases e; cases r
    obtain ⟨_, o, es, ep, h2, h3, h4, h5⟩ := dic0_at (G := G) I h
    exact ⟨_, .dict h2 h3.1 h4 (by rw [h5]; exact .nil) (by rw [h5]; exact .nil)⟩
theorem VRs.reads (hK : X.K = G.K) (I : Inv X pins σ H s) : ∀ {xs : List Val} {us : List V} {ds : List PyData} {vs : List Value}, VRs G μ H xs us → toDs xs = some ds → Vals us vs → ∃ as, ReadsAll s.heap vs ds as
  | _, _, _, _, .nil, e, r => by cases e; cases r; exact ⟨_, .nil⟩
  | x :: xs, _, _, _, .cons h rr, e, r => by
    unfold toDs at e
    cases q : x.toD with
    | none => rw [q] at e; cases e
    | some d =>
      cases q2 : toDs xs with
      | none => rw [q, q2] at e; cases e
      | some ds =>
        rw [q, q2] at e; cases e
        cases r with
        | cons r1 r2 =>
          obtain ⟨as, q3⟩ := VR.reads hK I h q r1
          obtain ⟨bs, q4⟩ := VRs.reads hK I rr q2 r2
          exact ⟨_, .cons q3 q4⟩
end
theorem RD.reads (hK : X.K = G.K) (I : Inv X pins σ H s) {x : Val} {u : V} {d : PyData} {v : Value} (h : RD G μ H x u) (e : x.toD = some d) (r : RelV u v) : ∃ as, Reads s.heap v d as := by
  rcases h with h | ⟨p, xs, us, rfl, rfl, hp, rr⟩
  · exact h.reads hK I e r
  · unfold Val.toD at e
    cases q : toDs xs with
    | none => rw [q] at e; cases e
    | some ds =>
      rw [q] at e; cases e; cases r
      obtain ⟨its, rv, ⟨o, n, ho, hc, _, hd⟩, _⟩ := I.list (.inl (.inl hp))
      obtain ⟨as, hr⟩ := rr.reads hK I q rv
      exact ⟨_, .list ho hc hd hr⟩
end

/-! ### the rules -/
theorem np_of {p : Addr} (t : ∀ a, a ∈ μ → H a ≠ none) (h : H p = none) : p ∉ μ := fun z => t p z h
theorem of_guard {α : Type} {c : Prop} [Decidable c] {a b : α} (h : (if c then some a else none) = some b) : c ∧ a = b := by
  by_cases q : c
  · rw [if_pos q] at h; exact ⟨q, Option.some.inj h⟩
  · rw [if_neg q] at h; cases h
theorem big_line : big = sizeLine := rfl
theorem op_addF (hK : X.K = G.K) : OpR X (binaryOp .Add) (rO G opAdd) := by
  intro pins s σ H x y v u Q I rx ry ⟨μ, xv, yv, z, th, h1, h2, e, q⟩
  have id_ : ∀ a o, H a = some o → H a = some o := fun _ _ h => h
  unfold opAdd at e
  split at e
  · cases e
    cases h1.int; cases h2.int
    exact op_add pins s σ H _ _ v u Q I rx ry ⟨_, _, rfl, rfl, q _ H id_ (mn_int _)⟩
  · obtain ⟨hl, rfl⟩ := of_guard e
    cases h1.str; cases h2.str
    exact op_add_str pins s σ H _ _ v u Q I rx ry ⟨_, _, rfl, rfl, hl, q _ H id_ (mn_str _)⟩
  · obtain ⟨hl, rfl⟩ := of_guard e
    obtain ⟨a, us, its, n, rfl, r1, w1, e1, z1, l1⟩ := h1.lst I
    obtain ⟨b, vs, its2, n2, rfl, r2, w2, e2, z2, l2⟩ := h2.lst I
    cases rx; cases ry
    rw [r1.length, r2.length] at hl
    refine PySem.P.add_list e1 e2 ?_ (by rw [List.size_toArray, List.size_toArray, ← l1, ← l2]; exact hl)
    have ea : its.toArray ++ its2.toArray = (its ++ its2).toArray := by simp
    rw [ea]
    have hn := I.fresh
    exact ⟨.ref _, _, I.lnew (t' := s.toks) (w1.append w2) (by rw [List.length_append]; exact hl), rfl, q _ _ (ext_upd hn) (mn_lst hn (np_of th hn) (r1.append r2))⟩
  · obtain ⟨hl, rfl⟩ := of_guard e
    obtain ⟨a, us, rfl, t1, r1⟩ := h1.tup
    obtain ⟨b, vs, rfl, t2, r2⟩ := h2.tup
    rw [r1.length, r2.length] at hl
    rw [← hK] at t1 t2
    have m1 : VR G μ H (.tup _) (.ref b) := .tup (by rw [← hK]; exact t2) r2
    have m2 : VR G μ H (.tup _) (.ref a) := .tup (by rw [← hK]; exact t1) r1
    refine op_catA pins s σ H _ _ v u Q I rx ry ⟨a, b, us, vs, rfl, rfl, t1, t2, hl, fun e1 => q _ H id_ (.inr ⟨(fun _ e => by cases e), ?_⟩), fun _ e2 => q _ H id_ (.inr ⟨(fun _ e => by cases e), ?_⟩), fun _ _ p hp => q _ _ (ext_upd hp) (mn_tup hp (r1.append r2))⟩
    · subst e1
      cases r1
      exact m1
    · subst e2
      cases r2
      rw [List.append_nil]
      exact m2
  · cases e
theorem op_subF : OpR X (binaryOp .Sub) (rO G opSub) := by
  intro pins s σ H x y v u Q I rx ry ⟨μ, xv, yv, z, th, h1, h2, e, q⟩
  unfold opSub at e
  split at e
  · cases e
    cases h1.int; cases h2.int
    exact op_sub pins s σ H _ _ v u Q I rx ry ⟨_, _, rfl, rfl, q _ H (fun _ _ h => h) (mn_int _)⟩
  · cases e
theorem op_divF : OpR X (binaryOp .FloorDiv) (rO G opDiv) := by
  intro pins s σ H x y v u Q I rx ry ⟨μ, xv, yv, z, th, h1, h2, e, q⟩
  unfold opDiv at e
  split at e
  · obtain ⟨hl, rfl⟩ := of_guard e
    cases h1.int; cases h2.int
    exact op_fdiv pins s σ H _ _ v u Q I rx ry ⟨_, _, rfl, rfl, hl, q _ H (fun _ _ h => h) (mn_int _)⟩
  · cases e
theorem op_modF : OpR X (binaryOp .Mod) (rO G opMod) := by
  intro pins s σ H x y v u Q I rx ry ⟨μ, xv, yv, z, th, h1, h2, e, q⟩
  unfold opMod at e
  split at e
  · obtain ⟨hl, rfl⟩ := of_guard e
    cases h1.int; cases h2.int
    exact op_mod pins s σ H _ _ v u Q I rx ry ⟨_, _, rfl, rfl, hl, q _ H (fun _ _ h => h) (mn_int _)⟩
  · cases e
theorem op_powF : OpR X (binaryOp .Pow) (rO G opPow) := by
  intro pins s σ H x y v u Q I rx ry ⟨μ, xv, yv, z, th, h1, h2, e, q⟩
  unfold opPow at e
  split at e
  · obtain ⟨hl, rfl⟩ := of_guard e
    cases h1.int; cases h2.int
    exact op_pow pins s σ H _ _ v u Q I rx ry ⟨_, _, rfl, rfl, hl, q _ H (fun _ _ h => h) (mn_int _)⟩
  · cases e
theorem un_negF : UnR X (unaryOp .USub) (rU1 G opNeg) := by
  intro pins s σ H x v Q I rx ⟨μ, xv, z, th, h1, e, q⟩
  unfold opNeg at e
  split at e
  · cases e
    cases h1.int
    exact un_neg pins s σ H _ v Q I rx ⟨_, rfl, q _ H (fun _ _ h => h) (mn_int _)⟩
  · cases e
/-- comparisons of two ints -/
theorem cmp_int {op : CmpOp} {f : Val → Val → Option Val} {g : Int → Int → Bool} (ho : OpR X (compareOp op) (rI0 fun i j => .bl (g i j))) (hf : ∀ x y z, f x y = some z → ∃ i j, x = .int i ∧ y = .int j ∧ z = .bl (g i j)) : OpR X (compareOp op) (rO G f) := by
  intro pins s σ H x y v u Q I rx ry ⟨μ, xv, yv, z, th, h1, h2, e, q⟩
  obtain ⟨i, j, rfl, rfl, rfl⟩ := hf _ _ _ e
  cases h1.int; cases h2.int
  exact ho pins s σ H _ _ v u Q I rx ry ⟨_, _, rfl, rfl, q _ H (fun _ _ h => h) (mn_bl _)⟩
theorem op_leF : OpR X (compareOp .LtE) (rO G opLe) := cmp_int op_le fun x y z e => by
  unfold opLe at e
  split at e
  · cases e; exact ⟨_, _, rfl, rfl, rfl⟩
  · cases e
theorem op_gtF : OpR X (compareOp .Gt) (rO G opGt) := cmp_int op_gt fun x y z e => by
  unfold opGt at e
  split at e
  · cases e; exact ⟨_, _, rfl, rfl, rfl⟩
  · cases e
theorem op_geF : OpR X (compareOp .GtE) (rO G opGe) := cmp_int op_ge fun x y z e => by
  unfold opGe at e
  split at e
  · cases e; exact ⟨_, _, rfl, rfl, rfl⟩
  · cases e
theorem asInts_vr : ∀ {xs : List Val} {us : List V} {ns : List Int}, VRs G μ H xs us → asInts xs = some ns → us = ns.map V.int
  | _, _, _, .nil, e => by cases e; rfl
  | .int i :: xs, _, _, .cons h r, e => by
    unfold asInts at e
    cases q : asInts xs with
    | none => rw [q] at e; cases e
    | some ms =>
      rw [q] at e; cases e
      cases h
      rw [asInts_vr r q]; rfl
  | .non :: _, _, _, .cons _ _, e => by cases e
  | .bl _ :: _, _, _, .cons _ _, e => by cases e
  | .str _ :: _, _, _, .cons _ _, e => by cases e
  | .tup _ :: _, _, _, .cons _ _, e => by cases e
  | .lst _ :: _, _, _, .cons _ _, e => by cases e
  | .arr _ :: _, _, _, .cons _ _, e => by cases e
  | .dic _ :: _, _, _, .cons _ _, e => by cases e
  | .obj _ _ :: _, _, _, .cons _ _, e => by cases e
  | .ref _ :: _, _, _, .cons _ _, e => by cases e
  | .fn _ :: _, _, _, .cons _ _, e => by cases e
theorem op_ltF (hK : X.K = G.K) (hu : X.A.units < cLine) : OpR X (compareOp .Lt) (rO G opLt) := by
  intro pins s σ H x y v u Q I rx ry ⟨μ, xv, yv, z, th, h1, h2, e, q⟩
  unfold opLt at e
  split at e
  · cases e
    cases h1.int; cases h2.int
    exact op_lt pins s σ H _ _ v u Q I rx ry ⟨_, _, rfl, rfl, q _ H (fun _ _ h => h) (mn_bl _)⟩
  · split at e
    · rename_i ns ms e1 e2
      cases e
      obtain ⟨a, us, rfl, t1, r1⟩ := h1.tup
      obtain ⟨b, vs, rfl, t2, r2⟩ := h2.tup
      rw [asInts_vr r1 e1, ← hK] at t1
      rw [asInts_vr r2 e2, ← hK] at t2
      exact op_ltT hu pins s σ H _ _ v u Q I rx ry ⟨_, _, _, _, rfl, rfl, t1, t2, q _ H (fun _ _ h => h) (mn_bl _)⟩
    · cases e
  · cases e
theorem eqD_reads (hK : X.K = G.K) (I : Inv X pins σ H s) {x y : Val} {u w : V} {u' w' : Value} {b : Bool} (h1 : RD G μ H x u) (h2 : RD G μ H y w) (r1 : RelV u u') (r2 : RelV w w') (e : eqD x y = some b) : ∃ d d' as bs, Reads s.heap u' d as ∧ Reads s.heap w' d' bs ∧ shp d = true ∧ shp d' = true ∧ b = PyData.eqv d d' := by
  unfold eqD at e
  split at e
  · rename_i d d' e1 e2
    obtain ⟨hs, rfl⟩ := of_guard e
    rw [Bool.and_eq_true] at hs
    obtain ⟨as, q1⟩ := h1.reads hK I e1 r1
    obtain ⟨bs, q2⟩ := h2.reads hK I e2 r2
    exact ⟨d, d', as, bs, q1, q2, hs.1, hs.2, rfl⟩
  · cases e
theorem shp_of {d : PyData} (h : shp d = true) : d.plain = true ∧ d.depth ≤ 64 := by
  unfold shp at h
  rw [Bool.and_eq_true, decide_eq_true_eq] at h
  exact h
theorem op_eqF (hK : X.K = G.K) (hu : X.A.units + 64 < cLine) : OpR X (compareOp .Eq) (rO G opEq) := by
  intro pins s σ H x y v u Q I rx ry ⟨μ, xv, yv, z, th, h1, h2, e, q⟩
  unfold opEq at e
  cases q1 : eqD xv yv with
  | none => rw [q1] at e; cases e
  | some b =>
    rw [q1] at e; cases e
    obtain ⟨d, d', as, bs, r1, r2, s1, s2, rfl⟩ := eqD_reads hK I h1 h2 rx ry q1
    have := (shp_of s1).2
    exact SeqAt.eq_plain r1 r2 (shp_of s1).1 (shp_of s2).1 (by omega) ⟨.bl _, H, I, rfl, q _ H (fun _ _ h => h) (mn_bl _)⟩
theorem op_neF (hK : X.K = G.K) (hu : X.A.units + 64 < cLine) : OpR X (compareOp .NotEq) (rO G opNe) := by
  intro pins s σ H x y v u Q I rx ry ⟨μ, xv, yv, z, th, h1, h2, e, q⟩
  unfold opNe at e
  cases q1 : eqD xv yv with
  | none => rw [q1] at e; cases e
  | some b =>
    rw [q1] at e; cases e
    obtain ⟨d, d', as, bs, r1, r2, s1, s2, rfl⟩ := eqD_reads hK I h1 h2 rx ry q1
    have := (shp_of s1).2
    exact SeqAt.ne_plain r1 r2 (shp_of s1).1 (shp_of s2).1 (by omega) ⟨.bl _, H, I, rfl, q _ H (fun _ _ h => h) (mn_bl _)⟩
theorem inD_run (hK : X.K = G.K) (hu : X.A.units + 65 < cLine) {x y : Val} {u w : V} {v1 v2 : Value} {b : Bool} (I : Inv X pins σ H s) (rx : RelV u v1) (ry : RelV w v2) (h1 : RD G μ H x u) (h2 : RD G μ H y w) (e : inD x y = some b) {Q : Value → Shared → Prop} :
    (Q (.bool b) s → wpAny (model X.prog X.w) X.A (compareOp .In v1 v2) Q X.xe s) ∧ (Q (.bool (!b)) s → wpAny (model X.prog X.w) X.A (compareOp .NotIn v1 v2) Q X.xe s) := by
  unfold inD at e
  split at e
  · rename_i d ds e1 e2
    obtain ⟨hs, rfl⟩ := of_guard e
    rw [Bool.and_eq_true] at hs
    obtain ⟨as, r1⟩ := h1.reads hK I e1 rx
    obtain ⟨bs, r2⟩ := h2.reads hK I e2 ry
    have c2 : PyData.plainAll ds = true := (shp_of hs.2).1
    have room : X.A.units + 1 + min (PyData.depthAll ds) d.depth < cLine := by
      have := (shp_of hs.1).2
      omega
    exact ⟨fun q => SeqAt.in_tuple_data r2 r1 c2 (shp_of hs.1).1 room q, fun q => SeqAt.notIn_tuple_data r2 r1 c2 (shp_of hs.1).1 room q⟩
  · rename_i d ds e1 e2
    obtain ⟨hs, rfl⟩ := of_guard e
    rw [Bool.and_eq_true] at hs
    obtain ⟨as, r1⟩ := h1.reads hK I e1 rx
    obtain ⟨bs, r2⟩ := h2.reads hK I e2 ry
    have c2 : PyData.plainAll ds = true := (shp_of hs.2).1
    have room : X.A.units + 1 + min (PyData.depthAll ds) d.depth < cLine := by
      have := (shp_of hs.1).2
      omega
    exact ⟨fun q => SeqAt.in_list_data r2 r1 c2 (shp_of hs.1).1 room q, fun q => SeqAt.notIn_list_data r2 r1 c2 (shp_of hs.1).1 room q⟩
  · cases e
theorem op_inF (hK : X.K = G.K) (hu : X.A.units + 65 < cLine) : OpR X (compareOp .In) (rO G opIn) := by
  intro pins s σ H x y v u Q I rx ry ⟨μ, xv, yv, z, th, h1, h2, e, q⟩
  unfold opIn at e
  cases q1 : inD xv yv with
  | none => rw [q1] at e; cases e
  | some b =>
    rw [q1] at e; cases e
    exact (inD_run hK hu I rx ry h1 h2 q1).1 ⟨.bl b, H, I, rfl, q _ H (fun _ _ h => h) (mn_bl _)⟩
theorem op_notInF (hK : X.K = G.K) (hu : X.A.units + 65 < cLine) : OpR X (compareOp .NotIn) (rO G opNotIn) := by
  intro pins s σ H x y v u Q I rx ry ⟨μ, xv, yv, z, th, h1, h2, e, q⟩
  unfold opNotIn at e
  cases q1 : inD xv yv with
  | none => rw [q1] at e; cases e
  | some b =>
    rw [q1] at e; cases e
    exact (inD_run hK hu I rx ry h1 h2 q1).2 ⟨.bl (!b), H, I, rfl, q _ H (fun _ _ h => h) (mn_bl _)⟩
theorem op_mulF (hK : X.K = G.K) : OpR X (binaryOp .Mult) (rO G opMul) := by
  intro pins s σ H x y v u Q I rx ry ⟨μ, xv, yv, z, th, h1, h2, e, q⟩
  unfold opMul at e
  split at e
  · obtain ⟨hl, rfl⟩ := of_guard e
    cases h1.int; cases h2.int
    exact op_mul pins s σ H _ _ v u Q I rx ry ⟨_, _, rfl, rfl, hl, q _ H (fun _ _ h => h) (mn_int _)⟩
  · obtain ⟨⟨k0, k1, hl, hn⟩, rfl⟩ := of_guard e
    cases h2.int
    obtain ⟨a, us, rfl, t1, r1⟩ := h1.tup
    rw [← hK] at t1
    rw [r1.length] at hl hn
    exact op_repT pins s σ H _ _ v u Q I rx ry ⟨_, _, _, rfl, rfl, t1, (fun z => hn (by rw [z]; rfl)), k0, k1, hl, fun p hp => q _ _ (ext_upd hp) (mn_tup hp (r1.rep _))⟩
  · obtain ⟨⟨k0, k1, hn, hz, hl⟩, rfl⟩ := of_guard e
    rename_i xx kk
    cases h1.str; cases h2.int
    obtain ⟨t, rfl⟩ := rx
    obtain ⟨t2, rfl⟩ := ry
    have d1 : decide (kk < -(2 ^ 63 : Int)) = false := decide_eq_false (by omega)
    have d2 : decide (kk ≥ 2 ^ 63) = false := decide_eq_false (by omega)
    have n1 : ¬ kk < 1 := by omega
    have n2 : ¬ (kk == 1 || xx.length == 0) = true := by
      simp only [Bool.or_eq_true, beq_iff_eq, not_or]
      exact ⟨by omega, hn⟩
    refine PySem.P.mul_str (by rw [d1, d2]; rfl) (fun _ _ => ?_) (fun _ _ => ?_) ?_
    · have h1 : (1000 : Int) ≤ (2 ^ 63 - 1) / kk := (Int.le_ediv_iff_mul_le (by omega)).mpr (by omega)
      omega
    · have h2 : xx.length * kk.toNat ≤ 1000 * 1000 := Nat.mul_le_mul hl (by omega)
      unfold PySem.Builtin.Str.tooLong
      simp only [decide_eq_false_iff_not]
      have := PySem.sizeLine_eq
      omega
    · rw [if_neg n1, if_neg n2]
      exact ⟨Nat.le_trans hz (by decide), .str _, H, I.tok _, ⟨_, rfl⟩, q _ H (fun _ _ h => h) (mn_str _)⟩
  · cases e
section
variable {N : Fns} {W : WX} {a b : Expr} {pos : Pos} {ma mb : E Val}
theorem fe_rep (ha : PE X a (tE G N W (MN G) ma)) (hb : PE X b (tE G N W (MB G) mb)) : PE X (.BinOp a .Mult b pos) (tE G N W (MN G) (cRep ma mb)) :=
  pe_imp (pe_op op_rep ha hb) fun σ H Q ⟨ρ, S, μ, R, o⟩ => ⟨ρ, S, μ, R, (Out.bind o).mono fun x S1 μ1 H1 st1 sr1 k1 u hu => ⟨ρ, S1, μ1, R.step st1 sr1, (Out.bind k1).mono fun y S2 μ2 H2 st2 sr2 k2 w hw => by
    split at k2
    · rename_i xs k
      rcases hu with ⟨p, xs', us, e1, rfl, hn, np, hp, r⟩ | ⟨hu, _⟩
      · cases e1
        split at k2
        · rename_i hc
          obtain ⟨c1, c2, c3⟩ := hc
          have hw' : w = .int k := (hw.dr sr2).int
          subst hw'
          have hp2 := st2.keep p _ hp np rfl
          have r2 := r.kx (st2.kx sr1) st2.pre
          rw [r.length] at c3
          refine ⟨p, k, us, rfl, rfl, hp2, by omega, by omega, c3, fun q hq => ?_⟩
          exact k2 μ2 _ (Step.made hq) (sr2.ext (ext_upd hq)) _ (MN.back (st1.trans st2) sr2 (mn_lst hq (np_of sr2.there hq) (r2.rep k.toNat)))
        · exact False.elim k2
      · exact absurd rfl (hu xs)
    · exact False.elim k2⟩⟩
end
end
end KL

set_option linter.all false
set_option maxRecDepth 100000
set_option maxHeartbeats 1000000
/-! KExp: comparisons, tests, displays, subscripts, fields, calls. -/
namespace KL
open PySem L2
section
variable {G : GP} {N : Fns} {W : WX} {X : Cx} {μ μ' : List Addr} {H H' : Hp} {σ : St} {ρ : Env} {S S' : Store} {a b c d : Expr} {pos : Pos} {ma mb mc md : E Val} {f g h : Val → Val → Option Val} {op op' op2 : CmpOp}

/-- what all three kinds have in common -/
class MOk (G : outParam GP) (M : Md) : Prop where
  bl : ∀ μ H H' b u, M μ H H' (.bl b) u → u = .bl b
  mb : ∀ μ H H' b, M μ H H' (.bl b) (.bl b)
  back : ∀ {μ μ1 μ2 H H1 H2 S v u}, Step μ H μ1 H1 → StR G μ1 H1 S → M μ2 H1 H2 v u → M μ2 H H2 v u
instance mok_f : MOk G (MF G) := ⟨fun _ _ _ _ _ h => by cases h; rfl, fun _ _ _ b => .bl b, fun _ _ h => h⟩
instance mok_b : MOk G (MB G) where
  bl := fun _ _ _ _ _ h => by
    rcases h with h | ⟨_, _, _, e, _⟩
    · cases h; rfl
    · cases e
  mb := fun _ _ _ b => .inl (.bl b)
  back := fun _ _ h => h
instance mok_n : MOk G (MN G) where
  bl := fun _ _ _ _ _ h => by
    rcases h with ⟨_, _, _, e, _⟩ | ⟨_, h⟩
    · cases e
    · cases h; rfl
  mb := fun _ _ _ b => mn_bl b
  back := fun st r h => h.back st r
variable {M M' : Md}
theorem asB_of {x : Val} {k : Bool} (e : asB x = some k) : x = .bl k := by
  cases x <;> cases e
  rfl
theorem test_imp [MOk G M] {σ : St} {H : Hp} {Q : Bool → Hp → Prop} (h : tT G N W (cT ma) σ H Q) : tE G N W M ma σ H (fun x H' => ∃ k, x = .bl k ∧ Q k H') := by
  obtain ⟨ρ, S, μ, R, o⟩ := h
  refine ⟨ρ, S, μ, R, (Out.bind o).mono fun x S1 μ1 H1 st1 sr1 k1 u hu => ?_⟩
  obtain ⟨k, e, k2⟩ := Out.of k1
  cases asB_of e
  exact ⟨k, MOk.bl (G := G) _ _ _ _ _ hu, k2 μ1 H1 Step.refl sr1⟩
/-- an expression that gives a bool, as a test -/
theorem ft_val [MOk G M] (ha : PE X a (tE G N W M ma)) (he : ∀ whole, isTrue a X.env whole = (do let v ← whole; standAt a.pos; holding [v] (truthy v)) := by intro _; rfl) : PT X a (tT G N W (cT ma)) :=
  pt_imp (pt_val ha he) fun _ _ _ q => test_imp q
theorem ft_cmp (ho : OpR X (compareOp op) (rO G f)) (ha : PE X a (tE G N W (MB G) ma)) (hb : PE X b (tE G N W (MB G) mb)) (hm : behindInMarks op b = false := by first | exact nomark _ | with_unfolding_all rfl) :
    PT X (.Compare a [op] [b] pos) (tT G N W (cT (cOp f ma mb))) :=
  pt_imp (pt_cmpR ho ha hb hm) fun _ _ _ q => op_imp (test_imp (M := MN G) q)
theorem fe_cmp (ho : OpR X (compareOp op) (rO G f)) (ha : PE X a (tE G N W (MB G) ma)) (hb : PE X b (tE G N W (MB G) mb)) (hm : behindInMarks op b = false := by first | exact nomark _ | with_unfolding_all rfl) :
    PE X (.Compare a [op] [b] pos) (tE G N W (MN G) (cOp f ma mb)) :=
  pe_imp (pe_cmpR ho ha hb hm) fun _ _ _ q => op_imp q
/-- is None -/
theorem isN_imp {r : R2} {ff : Val → Val} (hr : ∀ (x : Val) (u : V) (μ : List Addr) (H : Hp) (Q : VK), RB G μ H x u → Q (match ff x with | .bl b => .bl b | _ => .non) H → r u .non H Q) (hf : ∀ x, ∃ b, ff x = .bl b) {σ : St} {H : Hp} {Q : VK}
    (h : tE G N W (MN G) (fun ρ S => (ma ρ S).bind fun x S1 => .ok (ff x) S1) σ H Q) : tOp r (tE G N W (MB G) ma) (tC .non) σ H Q := by
  obtain ⟨ρ, S, μ, R, o⟩ := h
  refine ⟨ρ, S, μ, R, (Out.bind o).mono fun x S1 μ1 H1 st1 sr1 k1 u hu => ?_⟩
  refine hr x u μ1 H1 Q hu ?_
  obtain ⟨b, e⟩ := hf x
  have k2 := k1 μ1 H1 Step.refl sr1 (.bl b) (by rw [e]; exact mn_bl b)
  rw [e]
  exact k2
def cIsN (m : E Val) : E Val := fun ρ S => (m ρ S).bind fun x S1 => .ok (opIsN x) S1
def cNotN (m : E Val) : E Val := fun ρ S => (m ρ S).bind fun x S1 => .ok (opNotN x) S1
theorem rb_non {x : Val} {u : V} (h : RB G μ H x u) : decide (u = .non) = (match opIsN x with | .bl b => b | _ => false) := by
  rcases h with h | ⟨p, xs, us, rfl, rfl, _⟩
  · cases h <;> rfl
  · rfl
theorem fe_isN {j : Nat} {p2 : Pos} (ha : PE X a (tE G N W (MB G) ma)) : PE X (.Compare a [.Is] [.Constant .none j p2] pos) (tE G N W (MN G) (cIsN ma)) :=
  pe_imp (pe_cmpR op_isN ha pe_non (nomark _)) fun σ H Q ⟨ρ, S, μ, R, o⟩ => ⟨ρ, S, μ, R, (Out.bind o).mono fun x S1 μ1 H1 st1 sr1 k1 u hu => ⟨rfl, by
    rw [rb_non hu]
    cases x <;> exact k1 μ1 H1 Step.refl sr1 _ (mn_bl _)⟩⟩
theorem fe_notN {j : Nat} {p2 : Pos} (ha : PE X a (tE G N W (MB G) ma)) : PE X (.Compare a [.IsNot] [.Constant .none j p2] pos) (tE G N W (MN G) (cNotN ma)) :=
  pe_imp (pe_cmpR op_notN ha pe_non (nomark _)) fun σ H Q ⟨ρ, S, μ, R, o⟩ => ⟨ρ, S, μ, R, (Out.bind o).mono fun x S1 μ1 H1 st1 sr1 k1 u hu => ⟨rfl, by
    rw [rb_non hu]
    cases x <;> exact k1 μ1 H1 Step.refl sr1 _ (mn_bl _)⟩⟩
theorem ft_isN {j : Nat} {p2 : Pos} (ha : PE X a (tE G N W (MB G) ma)) : PT X (.Compare a [.Is] [.Constant .none j p2] pos) (tT G N W (cT (cIsN ma))) :=
  pt_imp (pt_cmpR op_isN ha pe_non (nomark _)) fun σ H Q q => by
    obtain ⟨ρ, S, μ, R, o⟩ := test_imp (M := MN G) q
    refine ⟨ρ, S, μ, R, (Out.bind o).mono fun x S1 μ1 H1 st1 sr1 k1 u hu => ⟨rfl, ?_⟩⟩
    rw [rb_non hu]
    cases x <;> exact k1 μ1 H1 Step.refl sr1 _ (mn_bl _)
theorem ft_notN {j : Nat} {p2 : Pos} (ha : PE X a (tE G N W (MB G) ma)) : PT X (.Compare a [.IsNot] [.Constant .none j p2] pos) (tT G N W (cT (cNotN ma))) :=
  pt_imp (pt_cmpR op_notN ha pe_non (nomark _)) fun σ H Q q => by
    obtain ⟨ρ, S, μ, R, o⟩ := test_imp (M := MN G) q
    refine ⟨ρ, S, μ, R, (Out.bind o).mono fun x S1 μ1 H1 st1 sr1 k1 u hu => ⟨rfl, ?_⟩⟩
    rw [rb_non hu]
    cases x <;> exact k1 μ1 H1 Step.refl sr1 _ (mn_bl _)

/-! ### and, or, not, if -/
variable {ta tb : T} {rest : List Expr}
theorem fw_and1 (ha : PT X a (tT G N W ta)) : PW X (.BoolOp .And [a] pos) (tT G N W ta) := pw_and1 ha
theorem fw_or1 (ha : PT X a (tT G N W ta)) : PW X (.BoolOp .Or [a] pos) (tT G N W ta) := pw_or1 ha
theorem fw_and (ha : PT X a (tT G N W ta)) (hb : PW X (.BoolOp .And (b :: rest) pos) (tT G N W tb)) : PW X (.BoolOp .And (a :: b :: rest) pos) (tT G N W (cAnd ta tb)) :=
  pw_imp (pw_and ha hb) fun σ H Q ⟨ρ, S, μ, R, o⟩ => ⟨ρ, S, μ, R, (Out.bind o).mono fun x S1 μ1 H1 st1 sr1 k1 => by
    cases x with
    | true => exact ⟨ρ, S1, μ1, R.step st1 sr1, k1⟩
    | false => exact k1 μ1 H1 Step.refl sr1⟩
theorem fw_or (ha : PT X a (tT G N W ta)) (hb : PW X (.BoolOp .Or (b :: rest) pos) (tT G N W tb)) : PW X (.BoolOp .Or (a :: b :: rest) pos) (tT G N W (cOr ta tb)) :=
  pw_imp (pw_or ha hb) fun σ H Q ⟨ρ, S, μ, R, o⟩ => ⟨ρ, S, μ, R, (Out.bind o).mono fun x S1 μ1 H1 st1 sr1 k1 => by
    cases x with
    | false => exact ⟨ρ, S1, μ1, R.step st1 sr1, k1⟩
    | true => exact k1 μ1 H1 Step.refl sr1⟩
theorem ft_w (h : PW X a (tT G N W ta)) : PT X a (tT G N W ta) := h.pt
theorem ft_not (ha : PT X a (tT G N W ta)) : PT X (.UnaryOp .Not a pos) (tT G N W (cNot ta)) :=
  pt_imp (pt_not ha) fun σ H Q ⟨ρ, S, μ, R, o⟩ => ⟨ρ, S, μ, R, (Out.bind o).mono fun x S1 μ1 H1 st1 sr1 k1 => k1 μ1 H1 Step.refl sr1⟩
/-- as values: the bool of each but the last is asked -/
def cAndV (a b : E Val) : E Val := fun ρ S => (cT a ρ S).bind fun k S1 => if k then b ρ S1 else .ok (.bl false) S1
def cOrV (a b : E Val) : E Val := fun ρ S => (cT a ρ S).bind fun k S1 => if k then .ok (.bl true) S1 else b ρ S1
def cNotV (a : E Val) : E Val := fun ρ S => (cT a ρ S).bind fun k S1 => .ok (.bl (!k)) S1
theorem fe_one {op : BoolOp} {M : Md} (ha : PE X a (tE G N W M ma)) : PE X (.BoolOp op [a] pos) (tE G N W M ma) := pe_one ha
theorem test_b [MOk G M] {σ : St} {H : Hp} {K : Bool → Store → List Addr → Hp → Prop} {ρ : Env} {S : Store} {μ : List Addr} (R : Rel G N μ σ H ρ S) (o : Out G W σ μ H (cT ma ρ S) K) {Q : VK} (q : ∀ k S1 μ1 H1, Step μ H μ1 H1 → StR G μ1 H1 S1 → K k S1 μ1 H1 → Q (.bl k) H1) : tE G N W M ma σ H Q :=
  ⟨ρ, S, μ, R, (Out.bind o).mono fun x S1 μ1 H1 st1 sr1 k1 u hu => by
    obtain ⟨k, e, k2⟩ := Out.of k1
    cases asB_of e
    rw [MOk.bl (G := G) _ _ _ _ _ hu]
    exact q k S1 μ1 H1 st1 sr1 (k2 μ1 H1 Step.refl sr1)⟩
theorem fe_and [MOk G M] [MOk G M'] (ha : PE X a (tE G N W M ma)) (hb : PE X (.BoolOp .And (b :: rest) pos) (tE G N W M' mb)) : PE X (.BoolOp .And (a :: b :: rest) pos) (tE G N W M' (cAndV ma mb)) :=
  pe_imp (pe_and ha hb) fun σ H Q ⟨ρ, S, μ, R, o⟩ => test_b R (Out.bind o) fun k S1 μ1 H1 st sr kk => ⟨k, rfl, by
    cases k with
    | true => exact ⟨ρ, S1, μ1, R.step st sr, kk.mono fun v S2 μ2 H2 st2 sr2 k3 u hu => k3 u (MOk.back (G := G) st sr hu)⟩
    | false => exact kk μ1 H1 Step.refl sr _ (MOk.mb (G := G) _ _ _ _)⟩
theorem fe_or [MOk G M] [MOk G M'] (ha : PE X a (tE G N W M ma)) (hb : PE X (.BoolOp .Or (b :: rest) pos) (tE G N W M' mb)) : PE X (.BoolOp .Or (a :: b :: rest) pos) (tE G N W M' (cOrV ma mb)) :=
  pe_imp (pe_or ha hb) fun σ H Q ⟨ρ, S, μ, R, o⟩ => test_b R (Out.bind o) fun k S1 μ1 H1 st sr kk => ⟨k, rfl, by
    cases k with
    | false => exact ⟨ρ, S1, μ1, R.step st sr, kk.mono fun v S2 μ2 H2 st2 sr2 k3 u hu => k3 u (MOk.back (G := G) st sr hu)⟩
    | true => exact kk μ1 H1 Step.refl sr _ (MOk.mb (G := G) _ _ _ _)⟩
theorem fe_not [MOk G M] [MOk G M'] (ha : PE X a (tE G N W M ma)) : PE X (.UnaryOp .Not a pos) (tE G N W M' (cNotV ma)) :=
  pe_imp (pe_not ha) fun σ H Q ⟨ρ, S, μ, R, o⟩ => test_b R (Out.bind o) fun k S1 μ1 H1 st sr kk => ⟨k, rfl, kk μ1 H1 Step.refl sr _ (MOk.mb (G := G) _ _ _ _)⟩
theorem fe_if [MOk G M] (ht : PT X c (tT G N W ta)) (ha : PE X a (tE G N W M ma)) (hb : PE X b (tE G N W M mb)) : PE X (.IfExp c a b pos) (tE G N W M (cIf ta ma mb)) :=
  pe_imp (pe_ifExp ht ha hb) fun σ H Q ⟨ρ, S, μ, R, o⟩ => ⟨ρ, S, μ, R, (Out.bind o).mono fun k S1 μ1 H1 st sr kk => by
    cases k with
    | true => exact ⟨ρ, S1, μ1, R.step st sr, kk.mono fun v S2 μ2 H2 st2 sr2 k3 u hu => k3 u (MOk.back (G := G) st sr hu)⟩
    | false => exact ⟨ρ, S1, μ1, R.step st sr, kk.mono fun v S2 μ2 H2 st2 sr2 k3 u hu => k3 u (MOk.back (G := G) st sr hu)⟩⟩

/-! ### arguments -/
variable {es : List Expr} {ms : E (List Val)}
theorem fa_nil {Ms : Mds} (h : ∀ μ H us, us = [] ↔ Ms μ H [] us) : PA X [] (tA G N W Ms cNil) :=
  pa_imp pa_nil fun σ H Q ⟨ρ, S, μ, R, o⟩ => o.ok R.st [] ((h _ _ _).mp rfl)
theorem fa_nilF : PA X [] (tA G N W (MFs G) cNil) := pa_imp pa_nil fun σ H Q ⟨ρ, S, μ, R, o⟩ => o.ok R.st [] VRs.nil
theorem fa_nilB : PA X [] (tA G N W (MBs G) cNil) := pa_imp pa_nil fun σ H Q ⟨ρ, S, μ, R, o⟩ => o.ok R.st [] RBs.nil
theorem fa_consF (ha : PE X a (tE G N W (MF G) ma)) (hr : PA X es (tA G N W (MFs G) ms)) (hs : starEach (a :: es) X.env = (false, eval a X.env) :: starEach es X.env := by rfl) : PA X (a :: es) (tA G N W (MFs G) (cCons ma ms)) :=
  pa_imp (pa_cons ha hr hs) fun σ H Q ⟨ρ, S, μ, R, o⟩ => ⟨ρ, S, μ, R, (Out.bind o).mono fun x S1 μ1 H1 st1 sr1 k1 u hu => ⟨ρ, S1, μ1, R.step st1 sr1, (Out.bind k1).mono fun y S2 μ2 H2 st2 sr2 k2 us hus =>
    k2 μ2 H2 Step.refl sr2 (u :: us) (.cons (hu.kx (st2.kx sr1) st2.pre) hus)⟩⟩
theorem fa_consB (ha : PE X a (tE G N W (MB G) ma)) (hr : PA X es (tA G N W (MBs G) ms)) (hs : starEach (a :: es) X.env = (false, eval a X.env) :: starEach es X.env := by rfl) : PA X (a :: es) (tA G N W (MBs G) (cCons ma ms)) :=
  pa_imp (pa_cons ha hr hs) fun σ H Q ⟨ρ, S, μ, R, o⟩ => ⟨ρ, S, μ, R, (Out.bind o).mono fun x S1 μ1 H1 st1 sr1 k1 u hu => ⟨ρ, S1, μ1, R.step st1 sr1, (Out.bind k1).mono fun y S2 μ2 H2 st2 sr2 k2 us hus =>
    k2 μ2 H2 Step.refl sr2 (u :: us) (.cons (hu.step st2 sr1) hus)⟩⟩
theorem fa_starF (hK : X.K = G.K) {p : Pos} (ha : PE X a (tE G N W (MB G) ma)) (hr : PA X es (tA G N W (MFs G) ms)) (hs : starEach (.Starred a p :: es) X.env = (true, eval a X.env) :: starEach es X.env := by rfl) : PA X (.Starred a p :: es) (tA G N W (MFs G) (cStar ma ms)) :=
  pa_imp (StX.pa_star ha hr hs) fun σ H Q ⟨ρ, S, μ, R, o⟩ => ⟨ρ, S, μ, R, (Out.bind o).mono fun x S1 μ1 H1 st1 sr1 k1 u hu => by
    have hd := hu.dr sr1
    have go : ∀ (ys : List Val) (vs : List V), VRs G μ1 H1 ys vs → Out G W σ μ1 H1 ((ms ρ S1).bind fun xs S2 => KL.R.ok (ys ++ xs) S2) (fun vs' S' μ' H' => ∀ us, MFs G μ' H' vs' us → Q us H') → tA G N W (MFs G) ms σ H1 (fun w H2 => Q (vs ++ w) H2) := fun ys vs rv k =>
      ⟨ρ, S1, μ1, R.step st1 sr1, (Out.bind k).mono fun zs S2 μ2 H2 st2 sr2 k2 us hus => k2 μ2 H2 Step.refl sr2 _ ((rv.kx (st2.kx sr1) st2.pre).append hus)⟩
    split at k1
    · rename_i ys e
      rw [e] at hd
      obtain ⟨p, vs, rfl, t, r⟩ := hd.tup
      rw [← hK] at t
      exact ⟨p, vs, rfl, .inl t, go ys vs r k1⟩
    · rename_i ys e
      rw [e] at hd
      obtain ⟨p, vs, rfl, t, r⟩ := hd.sq
      rw [← hK] at t
      exact ⟨p, vs, rfl, .inr t, go ys vs r k1⟩
    · exact False.elim k1⟩

/-! ### displays -/
theorem fe_tup {k : Nat} (h : PA X es (tA G N W (MFs G) ms)) : PE X (.Tuple es k pos) (tE G N W (MF G) (cTup ms)) :=
  pe_imp (pe_tup h) fun σ H Q ⟨ρ, S, μ, R, o⟩ => ⟨ρ, S, μ, R, (Out.bind o).mono fun xs S1 μ1 H1 st1 sr1 k1 us hus => by
    split at k1
    · rename_i hl
      rw [VRs.length hus] at hl
      refine ⟨hl, fun p hp => k1 μ1 _ (Step.made hp) (sr1.ext (ext_upd hp)) _ ?_⟩
      rcases mn_tup hp hus with ⟨_, _, _, e, _⟩ | ⟨_, q⟩
      · cases e
      · exact q
    · exact False.elim k1⟩
theorem fe_lst (h : PA X es (tA G N W (MFs G) ms)) : PE X (.List es pos) (tE G N W (MN G) (cLst ms)) :=
  pe_imp (pe_lst h) fun σ H Q ⟨ρ, S, μ, R, o⟩ => ⟨ρ, S, μ, R, (Out.bind o).mono fun xs S1 μ1 H1 st1 sr1 k1 us hus => by
    split at k1
    · rename_i hl
      rw [VRs.length hus] at hl
      exact ⟨hl, fun p hp => k1 μ1 _ (Step.made hp) (sr1.ext (ext_upd hp)) _ (MN.back st1 sr1 (mn_lst hp (np_of sr1.there hp) hus))⟩
    · exact False.elim k1⟩
end
end KL

set_option linter.all false
set_option maxRecDepth 100000
set_option maxHeartbeats 1000000
/-! KCall: chains, subscripts, slices, fields, built-ins, calls of defs. -/
namespace KL
open PySem L2
section
variable {G : GP} {N : Fns} {W : WX} {X : Cx} {μ μ' : List Addr} {H H' : Hp} {σ : St} {ρ : Env} {S S' : Store} {a b c d e : Expr} {es : List Expr} {pos : Pos} {ma mb mc md : E Val} {ms : E (List Val)} {f g h : Val → Val → Option Val} {op op' op2 : CmpOp} {M M' : Md}

/-! ### chains of comparisons -/
theorem rO_bool {x y : Val} {u w : V} {K : Bool → Store → List Addr → Hp → Prop} (sr : StR G μ H S) (hx : RD G μ H x u) (hy : RD G μ H y w) (o : Out G W σ μ H (R.of ((f x y).bind asB) S) K) {Q : VK}
    (q : ∀ k H', Step μ H μ H' → StR G μ H' S → K k S μ H' → Q (.bl k) H') : rO G f u w H Q := by
  obtain ⟨k, e, o⟩ := Out.of o
  cases e1 : f x y with
  | none => rw [e1] at e; cases e
  | some z =>
    rw [e1] at e
    cases asB_of e
    refine ⟨μ, x, y, _, sr.there, hx, hy, e1, fun q' H' ex m => ?_⟩
    have st : Step μ H μ H' := Step.ext ex
    rw [MOk.bl (G := G) (M := MN G) _ _ _ _ _ m]
    exact q k H' st (sr.ext ex) (o μ H' st (sr.ext ex))
theorem chain_imp {Q : Bool → Hp → Prop} (h : tT G N W (cChain f g ma mb mc) σ H Q) : tChain (rO G f) (rO G g) (tE G N W (MB G) ma) (tE G N W (MB G) mb) (tE G N W (MB G) mc) σ H (fun z H' => ∃ k, z = .bl k ∧ Q k H') := by
  obtain ⟨ρ, S, μ, R, o⟩ := h
  refine ⟨ρ, S, μ, R, (Out.bind o).mono fun x S1 μ1 H1 st1 sr1 k1 u hu => ⟨ρ, S1, μ1, R.step st1 sr1, (Out.bind k1).mono fun y S2 μ2 H2 st2 sr2 k2 w hw => ?_⟩⟩
  refine rO_bool sr2 ((hu.step st2 sr1).dr sr2) (hw.dr sr2) (Out.bind k2) fun k H3 st3 sr3 k3 => ⟨k, rfl, ?_⟩
  cases k with
  | false => exact ⟨false, rfl, k3 μ2 H3 Step.refl sr3⟩
  | true =>
    refine ⟨ρ, S2, μ2, ((R.step st1 sr1).step st2 sr2).step st3 sr3, (Out.bind k3).mono fun z S4 μ4 H4 st4 sr4 k4 v hv => ?_⟩
    exact rO_bool sr4 (((hw.step st3 sr2).step st4 sr3).dr sr4) (hv.dr sr4) k4 fun k H5 st5 sr5 k5 => ⟨k, rfl, k5⟩
theorem ft_chain (ho : OpR X (compareOp op) (rO G f)) (ho' : OpR X (compareOp op') (rO G g)) (ha : PE X a (tE G N W (MB G) ma)) (hb : PE X b (tE G N W (MB G) mb)) (hc : PE X c (tE G N W (MB G) mc)) (hm : lastMarks [op, op'] [b, c] = false := by with_unfolding_all rfl) :
    PT X (.Compare a [op, op'] [b, c] pos) (tT G N W (cChain f g ma mb mc)) :=
  pt_imp (pt_chain ho ho' ha hb hc hm) fun _ _ _ q => chain_imp q
theorem fe_chain (ho : OpR X (compareOp op) (rO G f)) (ho' : OpR X (compareOp op') (rO G g)) (ha : PE X a (tE G N W (MB G) ma)) (hb : PE X b (tE G N W (MB G) mb)) (hc : PE X c (tE G N W (MB G) mc)) [MOk G M] (hm : lastMarks [op, op'] [b, c] = false := by with_unfolding_all rfl) :
    PE X (.Compare a [op, op'] [b, c] pos) (tE G N W M (cB (cChain f g ma mb mc))) :=
  pe_imp (pe_chain ho ho' ha hb hc hm) fun σ H Q ⟨ρ, S, μ, R, o⟩ => by
    have q : tT G N W (cChain f g ma mb mc) σ H (fun k H' => Q (.bl k) H') := ⟨ρ, S, μ, R, (Out.bind o).mono fun k S1 μ1 H1 st sr kk => kk μ1 H1 Step.refl sr _ (MOk.mb (G := G) _ _ _ _)⟩
    have w := chain_imp q
    have mono : ∀ (t1 t2 : TE) (t3 : TE) (Q1 Q2 : VK), (∀ x H, Q1 x H → Q2 x H) → tChain (rO G f) (rO G g) (tE G N W (MB G) ma) (tE G N W (MB G) mb) (tE G N W (MB G) mc) σ H Q1 → tChain (rO G f) (rO G g) (tE G N W (MB G) ma) (tE G N W (MB G) mb) (tE G N W (MB G) mc) σ H Q2 := by
      intro _ _ _ Q1 Q2 hq hh
      obtain ⟨ρ, S, μ, R, o⟩ := hh
      refine ⟨ρ, S, μ, R, o.mono fun x S1 μ1 H1 st1 sr1 k1 u hu => ?_⟩
      obtain ⟨ρ2, S2, μ2, R2, o2⟩ := k1 u hu
      refine ⟨ρ2, S2, μ2, R2, o2.mono fun y S3 μ3 H3 st3 sr3 k3 w hw => ?_⟩
      obtain ⟨μ4, x4, y4, z4, t4, r1, r2, e4, q4⟩ := k3 w hw
      refine ⟨μ4, x4, y4, z4, t4, r1, r2, e4, fun q H5 ex m => ?_⟩
      obtain ⟨k, rfl, q5⟩ := q4 q H5 ex m
      refine ⟨k, rfl, ?_⟩
      cases k with
      | false => exact hq _ _ q5
      | true =>
        obtain ⟨ρ6, S6, μ6, R6, o6⟩ := q5
        refine ⟨ρ6, S6, μ6, R6, o6.mono fun x S7 μ7 H7 st7 sr7 k7 u hu => ?_⟩
        obtain ⟨μ8, x8, y8, z8, t8, r8, s8, e8, q8⟩ := k7 u hu
        exact ⟨μ8, x8, y8, z8, t8, r8, s8, e8, fun q H9 ex m => hq _ _ (q8 q H9 ex m)⟩
    exact mono (tC .non) (tC .non) (tC .non) _ _ (fun x H ⟨k, e, q⟩ => by subst e; exact q) w
/-- three comparisons -/
def tChain3 (r r' r2 : R2) (ta tb tc td : TE) : TE := fun σ H Q => ta σ H fun x H1 => tb σ H1 fun y H2 => r x y H2 fun z H3 => ∃ k, z = .bl k ∧
  (if k = true then tc σ H3 fun w' H4 => r' y w' H4 fun z2 H5 => ∃ k2, z2 = .bl k2 ∧ (if k2 = true then td σ H5 fun v H6 => r2 w' v H6 Q else Q (.bl false) H5) else Q (.bl false) H3)
theorem pe_chain3 {r r' r2 : R2} {ta tb tc td : TE} (ho : OpR X (compareOp op) r) (ho' : OpR X (compareOp op') r') (ho2 : OpR X (compareOp op2) r2) (ha : PE X a ta) (hb : PE X b tb) (hc : PE X c tc) (hd : PE X d td) (hm : lastMarks [op, op', op2] [b, c, d] = false := by with_unfolding_all rfl) :
    PE X (.Compare a [op, op', op2] [b, c, d] pos) (tChain3 r r' r2 ta tb tc td) := by
  refine ⟨fun pins s σ H Q I h => PyProof.Rows.Compare_chain (thn (ha.run pins s σ H _ I h) fun v s1 ⟨x, H1, I1, r1, q1⟩ => PyProof.Rows.chain_link (thn (hb.run pins s1 σ H1 _ I1 q1) fun u s2 ⟨y, H2, I2, r2', q2⟩ =>
    thn (ho pins s2 σ H2 x y v u _ I2 r1 r2' q2) fun d' s3 ⟨z, H3, I3, r3, k, e, q3⟩ => ?_)) hm⟩
  subst e
  cases r3
  refine wpAny_truthy_bool ?_
  cases k with
  | false => exact ⟨.bl false, H3, I3, rfl, q3⟩
  | true =>
    refine PyProof.Rows.chain_link (thn (hc.run pins s3 σ H3 _ I3 q3) fun w' s4 ⟨z', H4, I4, r4, q4⟩ => thn (ho' pins s4 σ H4 y z' u w' _ I4 r2' r4 q4) fun d2 s5 ⟨z2, H5, I5, r5, k2, e2, q5⟩ => ?_)
    subst e2
    cases r5
    refine wpAny_truthy_bool ?_
    cases k2 with
    | false => exact ⟨.bl false, H5, I5, rfl, q5⟩
    | true => exact PyProof.Rows.chain_last (thn (hd.run pins s5 σ H5 _ I5 q5) fun w2 s6 ⟨z6, H6, I6, r6, q6⟩ => ho2 pins s6 σ H6 z' z6 w' w2 Q I6 r4 r6 q6)
theorem fe_chain3 (ho : OpR X (compareOp op) (rO G f)) (ho' : OpR X (compareOp op') (rO G g)) (ho2 : OpR X (compareOp op2) (rO G h)) (ha : PE X a (tE G N W (MB G) ma)) (hb : PE X b (tE G N W (MB G) mb)) (hc : PE X c (tE G N W (MB G) mc)) (hd : PE X d (tE G N W (MB G) md)) [MOk G M]
    (hm : lastMarks [op, op', op2] [b, c, d] = false := by with_unfolding_all rfl) : PE X (.Compare a [op, op', op2] [b, c, d] pos) (tE G N W M (cB (cChain3 f g h ma mb mc md))) :=
  pe_imp (pe_chain3 ho ho' ho2 ha hb hc hd hm) fun σ H Q ⟨ρ, S, μ, R, o⟩ => ⟨ρ, S, μ, R, (Out.bind (Out.bind o)).mono fun x S1 μ1 H1 st1 sr1 k1 u hu => ⟨ρ, S1, μ1, R.step st1 sr1, (Out.bind k1).mono fun y S2 μ2 H2 st2 sr2 k2 w hw => by
    have R2 := (R.step st1 sr1).step st2 sr2
    refine rO_bool sr2 ((hu.step st2 sr1).dr sr2) (hw.dr sr2) (Out.bind k2) fun k H3 st3 sr3 k3 => ⟨k, rfl, ?_⟩
    cases k with
    | false => exact (k3 μ2 H3 Step.refl sr3) μ2 H3 Step.refl sr3 _ (MOk.mb (G := G) _ _ _ _)
    | true =>
      refine ⟨ρ, S2, μ2, R2.step st3 sr3, (Out.bind k3).mono fun z S4 μ4 H4 st4 sr4 k4 v hv => ?_⟩
      refine rO_bool sr4 (((hw.step st3 sr2).step st4 sr3).dr sr4) (hv.dr sr4) (Out.bind k4) fun k H5 st5 sr5 k5 => ⟨k, rfl, ?_⟩
      cases k with
      | false => exact (k5 μ4 H5 Step.refl sr5) μ4 H5 Step.refl sr5 _ (MOk.mb (G := G) _ _ _ _)
      | true =>
        refine ⟨ρ, S4, μ4, ((R2.step st3 sr3).step st4 sr4).step st5 sr5, (Out.bind k5).mono fun z6 S6 μ6 H6 st6 sr6 k6 v6 hv6 => ?_⟩
        exact rO_bool sr6 (((hv.step st5 sr4).step st6 sr5).dr sr6) (hv6.dr sr6) k6 fun k H7 st7 sr7 k7 => k7 μ6 H7 Step.refl sr7 _ (MOk.mb (G := G) _ _ _ _)⟩⟩

/-! ### subscripts, slices -/
theorem ixOf_N (n : Nat) (i : Int) : ixOf n i = ixN n i := rfl
theorem vrs_at {xs : List Val} {us : List V} {i : Int} {z : Val} (r : VRs G μ H xs us) (e : ((ixOf xs.length i).bind fun j => xs[j]?) = some z) : ∃ u, atI us i = some u ∧ VR G μ H z u := by
  rw [r.length] at e
  cases q : ixOf us.length i with
  | none => rw [q] at e; cases e
  | some j =>
    rw [q] at e
    obtain ⟨u, h1, h2⟩ := r.get (i := j) (x := z) e
    refine ⟨u, ?_, h2⟩
    unfold atI
    rw [← ixOf_N, q]
    exact h1
def rIxF (G : GP) : R2 := fun u w H Q => ∃ μ x y z, RD G μ H x u ∧ RD G μ H y w ∧ opIx x y = some z ∧ ∀ q, VR G μ H z q → Q q H
theorem ix_F (hK : X.K = G.K) : IxR X (rIxF G) := by
  intro value slice pins s σ H x y v u Q I rx ry ⟨μ, xv, yv, z, h1, h2, e, q⟩ hs
  unfold opIx at e
  split at e
  · obtain ⟨a, us, rfl, t, r⟩ := h1.tup
    cases h2.int
    obtain ⟨w, e1, v1⟩ := vrs_at r e
    rw [← hK] at t
    exact ix_tup value slice pins s σ H _ _ v u Q I rx ry ⟨a, us, _, w, rfl, rfl, t, e1, q w v1⟩ hs
  · obtain ⟨a, us, rfl, t, r⟩ := h1.sq
    cases h2.int
    obtain ⟨w, e1, v1⟩ := vrs_at r e
    rw [← hK] at t
    exact ix_list value slice pins s σ H _ _ v u Q I rx ry ⟨a, us, _, w, rfl, rfl, t, e1, q w v1⟩ hs
  · obtain ⟨a, us, rfl, t, r⟩ := h1.arr
    cases h2.int
    obtain ⟨w, e1, v1⟩ := vrs_at r e
    rw [← hK] at t
    exact ix_list value slice pins s σ H _ _ v u Q I rx ry ⟨a, us, _, w, rfl, rfl, t, e1, q w v1⟩ hs
  · rename_i st i
    split at e
    · rename_i hl
      cases h1.str
      cases h2.int
      cases q1 : ixOf st.cps.toList.length i with
      | none => rw [q1] at e; cases e
      | some j =>
        rw [q1] at e
        have e' : (st.cps.toList[j]?).map (fun c => Val.str ⟨#[c]⟩) = some z := e
        cases q2 : st.cps.toList[j]? with
        | none => rw [q2] at e'; cases e'
        | some c =>
          rw [q2] at e'
          cases e'
          refine ix_str value slice pins s σ H _ _ v u Q I rx ry ⟨st, i, c, rfl, rfl, hl, ?_, q _ (.str _)⟩ hs
          unfold atI
          rw [← ixOf_N, q1]
          exact q2
    · cases e
  · cases e
theorem fe_ix (hK : X.K = G.K) (ha : PE X a (tE G N W (MB G) ma)) (hb : PE X b (tE G N W (MB G) mb)) (hs : PlainIx b := by exact fun _ _ => rfl) : PE X (.Subscript a b pos) (tE G N W (MF G) (cOp opIx ma mb)) :=
  pe_imp (pe_ix (ix_F hK) ha hb hs) fun σ H Q ⟨ρ, S, μ, R, o⟩ => ⟨ρ, S, μ, R, (Out.bind o).mono fun x S1 μ1 H1 st1 sr1 k1 u hu => ⟨ρ, S1, μ1, R.step st1 sr1, (Out.bind k1).mono fun y S2 μ2 H2 st2 sr2 k2 w hw => by
    obtain ⟨z, e, k3⟩ := Out.of k2
    exact ⟨μ2, _, _, z, (hu.step st2 sr1).dr sr2, hw.dr sr2, e, fun q m => k3 μ2 H2 Step.refl sr2 q m⟩⟩⟩
/-- a part of a slice -/
def tO (G : GP) (N : Fns) (W : WX) (m : E (Option Int)) : TO := fun σ H Q => ∃ ρ S μ, Rel G N μ σ H ρ S ∧ Out G W σ μ H (m ρ S) fun o _ _ H' => Q o H'
theorem po_imp {e : Option Expr} {t t' : TO} (h : PO X e t) (i : ∀ σ H Q, t' σ H Q → t σ H Q) : PO X e t' := ⟨fun pins s σ H Q I q => h.run pins s σ H Q I (i σ H Q q)⟩
theorem fo_none : PO X none (tO G N W cPn) := po_imp po_none fun σ H Q ⟨ρ, S, μ, R, o⟩ => o.ok R.st
theorem asI_of {x : Val} {o : Option Int} (e : asI x = some o) : ∃ i, x = .int i ∧ o = some i := by
  cases x <;> cases e
  exact ⟨_, rfl, rfl⟩
theorem fo_some (ha : PE X a (tE G N W (MB G) ma)) : PO X (some a) (tO G N W (cPs ma)) :=
  po_imp (po_some ha) fun σ H Q ⟨ρ, S, μ, R, o⟩ => ⟨ρ, S, μ, R, (Out.bind o).mono fun x S1 μ1 H1 st1 sr1 k1 u hu => by
    obtain ⟨z, e, k2⟩ := Out.of k1
    obtain ⟨i, rfl, rfl⟩ := asI_of e
    exact ⟨i, (hu.dr sr1).int, k2 μ1 H1 Step.refl sr1⟩⟩
theorem sIx_eq (n d : Nat) (o : Option Int) : sIx n d o = HT.sIx n d o := by cases o <;> rfl
theorem vrs_cut {xs : List Val} {us : List V} (r : VRs G μ H xs us) (lo hi : Option Int) : VRs G μ H (cut xs lo hi) (cutV us lo hi) := by
  unfold cut cutV
  rw [r.length, sIx_eq, sIx_eq]
  exact (r.drop _).take _
def rSlF (G : GP) : V → Option Int → Option Int → Hp → VK → Prop := fun u lo hi H Q => ∃ μ x z, (∀ a, a ∈ μ → H a ≠ none) ∧ RD G μ H x u ∧ opCut x lo hi = some z ∧ ∀ q H', (∀ a o, H a = some o → H' a = some o) → MN G μ H H' z q → Q q H'
theorem sl_F (hK : X.K = G.K) : SlR X (rSlF G) := by
  intro pins s σ H x v vl vu lo hi sl Q I rx hs pl pu ⟨μ, xv, z, th, h1, e, q⟩
  have id_ : ∀ a o, H a = some o → H a = some o := fun _ _ h => h
  unfold opCut at e
  split at e
  · cases e
    obtain ⟨a, us, rfl, t, r⟩ := h1.tup
    rw [← hK] at t
    refine sl_tupA pins s σ H _ v vl vu lo hi sl Q I rx hs pl pu ⟨a, us, rfl, t, fun hw => ?_, fun _ p hp => q _ _ (ext_upd hp) (mn_tup hp (vrs_cut r lo hi))⟩
    refine q _ H id_ (.inr ⟨(fun _ e => by cases e), ?_⟩)
    have e2 : ∀ xs : List Val, xs.length = us.length → cut xs lo hi = xs := fun xs hl => by
      unfold cut
      rw [sIx_eq, sIx_eq, hl, hw.1, hw.2, List.drop_zero, ← hl]
      simp
    rw [e2 _ r.length]
    exact .tup (by rw [← hK]; exact t) r
  · cases e
    obtain ⟨a, us, rfl, t, r⟩ := h1.sq
    rw [← hK] at t
    exact sl_list pins s σ H _ v vl vu lo hi sl Q I rx hs pl pu ⟨a, us, rfl, t, fun p hp => q _ _ (ext_upd hp) (mn_lst hp (np_of th hp) (vrs_cut r lo hi))⟩
  · cases e
    obtain ⟨a, us, rfl, t, r⟩ := h1.arr
    rw [← hK] at t
    exact sl_list pins s σ H _ v vl vu lo hi sl Q I rx hs pl pu ⟨a, us, rfl, t, fun p hp => q _ _ (ext_upd hp) (mn_lst hp (np_of th hp) (vrs_cut r lo hi))⟩
  · split at e
    · rename_i hl
      cases e
      cases h1.str
      refine sl_str pins s σ H _ v vl vu lo hi sl Q I rx hs pl pu ⟨_, rfl, hl, q _ H id_ ?_⟩
      have e2 : ∀ st : Str, (⟨(cut st.cps.toList lo hi).toArray⟩ : Str) = cutS st lo hi := fun st => by
        unfold cut cutS
        rw [sIx_eq, sIx_eq]
        rfl
      rw [e2]
      exact mn_str _
    · cases e
  · cases e
theorem fe_slice (hK : X.K = G.K) {lo hi : Option Expr} {ml mh : E (Option Int)} {p2 : Pos} (ha : PE X a (tE G N W (MB G) ma)) (hl : PO X lo (tO G N W ml)) (hh : PO X hi (tO G N W mh)) : PE X (.Subscript a (.Slice lo hi none p2) pos) (tE G N W (MN G) (cSl ma ml mh)) :=
  pe_imp (pe_slice (sl_F hK) ha hl hh) fun σ H Q ⟨ρ, S, μ, R, o⟩ => ⟨ρ, S, μ, R, (Out.bind o).mono fun x S1 μ1 H1 st1 sr1 k1 u hu => ⟨ρ, S1, μ1, R.step st1 sr1, (Out.bind k1).mono fun l S2 μ2 H2 st2 sr2 k2 => ⟨ρ, S2, μ2, (R.step st1 sr1).step st2 sr2, (Out.bind k2).mono fun h S3 μ3 H3 st3 sr3 k3 => by
    obtain ⟨z, e, k4⟩ := Out.of k3
    exact ⟨μ3, _, z, sr3.there, ((hu.step st2 sr1).step st3 sr2).dr sr3, e, fun q H4 ex m => k4 μ3 H4 (Step.ext ex) (sr3.ext ex) q (MN.back ((st1.trans st2).trans st3) sr3 m)⟩⟩⟩⟩

/-! ### fields -/
structure FieldAt (G : GP) (K : PySem.W.Frag) (c k : Nat) (f : Str) : Prop where
  at_ : (G.cf c)[k]? = some f
  nd : (G.cf c).Nodup
  cl : Cls K (G.cm c)
  no : NoAttr K (G.cm c) f
theorem lookup_at : ∀ {fs : List (Str × V)} {ns : List Str} {k : Nat} {f : Str} {v : V}, fs.map (·.1) = ns → ns.Nodup → ns[k]? = some f → (fs.map (·.2))[k]? = some v → fs.lookup f = some v
  | [], _, k, _, _, _, _, _, h => by simp at h
  | (n, x) :: fs, ns, 0, f, v, e, nd, h1, h2 => by
    subst e
    simp at h1 h2
    subst h1 h2
    simp [List.lookup]
  | (n, x) :: fs, ns, k + 1, f, v, e, nd, h1, h2 => by
    subst e
    simp only [List.map_cons, List.getElem?_cons_succ] at h1 h2
    simp only [List.map_cons, List.nodup_cons] at nd
    have hne : (f == n) = false := by
      rw [beq_eq_false_iff_ne]
      intro q
      subst q
      exact nd.1 (List.mem_of_getElem? h1)
    simp only [List.lookup, hne]
    exact lookup_at rfl nd.2 h1 h2
theorem take_get {α : Type} {l : List α} {n k : Nat} {x : α} (h : l[k]? = some x) (hk : k < n) : (l.take n)[k]? = some x := by rw [List.getElem?_take, if_pos hk]; exact h
theorem fe_fld {c k : Nat} {f : Str} (hf : FieldAt G X.K c k f) (ha : PE X a (tE G N W (MF G) ma)) (hb : attributeBase a f X.env (eval a X.env) = eval a X.env := by rfl) : PE X (.Attribute a f pos) (tE G N W (MF G) (cFld c k ma)) :=
  pe_imp (pe_fld ha hb) fun σ H Q ⟨ρ, S, μ, R, o⟩ => ⟨ρ, S, μ, R, (Out.bind o).mono fun x S1 μ1 H1 st1 sr1 k1 u hu => by
    obtain ⟨z, e, k2⟩ := Out.of k1
    have fin : ∀ (xs : List Val) (p dx : Addr) (fs : List (Str × V)), u = .ref p → H1 p = some (.ins (G.cm c) dx fs) → fs.map (·.1) = G.cf c → VRs G μ1 H1 xs (fs.map (·.2)) → xs[k]? = some z → ∃ a C dx fs v, u = .ref a ∧ H1 a = some (.ins C dx fs) ∧ Cls X.K C ∧ NoAttr X.K C f ∧ fs.lookup f = some v ∧ Q v H1 := fun xs p dx fs e1 e2 e3 r e4 => by
      obtain ⟨w, h1, h2⟩ := r.get e4
      exact ⟨p, G.cm c, dx, fs, w, e1, e2, hf.cl, hf.no, lookup_at e3 hf.nd hf.at_ h1, k2 μ1 H1 Step.refl sr1 w h2⟩
    unfold fldOf at e
    split at e
    · rename_i c' xs
      split at e
      · rename_i hc
        subst hc
        cases hu with
        | obj h n m r => exact fin xs _ _ _ rfl h n r e
      · cases e
    · rename_i n
      split at e
      · rename_i c' xs hS
        split at e
        · rename_i hc
          subst hc
          cases hu with
          | ref hm =>
            obtain ⟨dx, fs, h1, h2, h3, h4⟩ := sr1.at_ n _ _ hS hm
            exact fin xs _ dx fs rfl h1 h2 h4 e
        · cases e
      · cases e
    · cases e⟩
/-- a field of the object that is being made -/
def cFldO (c i k : Nat) : E Val := fun ρ S => match ρ[i]? with
  | some (.ob c' xs) => if c' = c then R.of xs[k]? S else .sk
  | _ => .sk
theorem fe_fldO {c k : Nat} (i : Nat) {f x : Str} {p : Pos} (hf : FieldAt G X.K c k f) (hN : X.N[i]? = some x := by rfl) (hv : Vis X.env.scope x := by first | exact Or.inl rfl | exact Or.inr (Or.inl rfl) | exact Or.inr (Or.inr rfl)) (hd : (x == ("__debug__" : Str)) = false := by decide)
    (hcd : (x == ("__classdict__" : Str)) = false := by decide) (hb : attributeBase (.Name x p) f X.env (eval (.Name x p) X.env) = eval (.Name x p) X.env := by rfl) : PE X (.Attribute (.Name x p) f pos) (tE G N W (MF G) (cFldO c i k)) :=
  pe_imp (pe_fld (pe_var hN hv hd hcd) hb) fun σ H Q ⟨ρ, S, μ, R, o⟩ => by
    unfold cFldO at o
    cases e : ρ[i]? with
    | none => rw [e] at o; exact False.elim o
    | some s =>
      rw [e] at o
      cases s with
      | ob c' xs =>
        simp only at o
        split at o
        · rename_i hcc
          subst hcc
          obtain ⟨z, e2, k2⟩ := Out.of o
          obtain ⟨q, h1, a, dx, fs, rfl, h2, h3, h4, h5, h6, h7⟩ := R.slot e
          obtain ⟨w, g1, g2⟩ := h6.get e2
          have hk : k < xs.length := (List.getElem?_eq_some_iff.mp e2).1
          refine ⟨.ref a, h1, a, _, dx, fs, w, rfl, h2, hf.cl, hf.no, ?_, k2 μ H Step.refl R.st w g2⟩
          exact lookup_at h3 (hf.nd.sublist (List.take_sublist _ _)) (take_get hf.at_ hk) g1
        · exact False.elim o
      | _ => exact False.elim o
end
end KL

set_option linter.all false
set_option maxRecDepth 100000
set_option maxHeartbeats 1000000
/-! KStm: statements. -/
namespace KL
open PySem L2

/-- from a body's entry on: what was tracked then stays, but the shared things and the objects at ex -/
structure Step0 (ex : List Addr) (μ : List Addr) (H : Hp) (μ' : List Addr) (H' : Hp) : Prop where
  keep : ∀ a o, H a = some o → a ∉ μ → a ∉ ex → notTbl o = true → H' a = some o
  tbl : ∀ a ps, H a = some (.tbl ps) → a ∉ μ → a ∉ ex → ∃ qs, H' a = some (.tbl qs)
  there : ∀ a, a ∈ ex → H' a ≠ none
  pre : μ <+: μ'
  new : ∀ a, a ∈ μ' → a ∈ μ ∨ H a = none
  fz : ∀ a o u, H a = some (.frz o u) → H' a = some (.frz o u)
  exn : ∀ a, a ∈ ex → ∀ o u, H a ≠ some (.frz o u)
section
variable {G : GP} {N : Fns} {W : WX} {X : Cx} {ex μ0 μ μ' : List Addr} {H0 H H' : Hp} {σ : St} {ρ : Env} {S S' : Store}
theorem Step0.step (a : Step0 ex μ0 H0 μ H) (b : Step μ H μ' H') (hx : ∀ p, p ∈ ex → p ∉ μ) : Step0 ex μ0 H0 μ' H' where
  keep := fun p o h n x t => b.keep p o (a.keep p o h n x t) (fun z => (a.new p z).elim n fun q => by rw [h] at q; cases q) t
  tbl := fun p ps h n x => by
    obtain ⟨qs, h1⟩ := a.tbl p ps h n x
    exact b.tbl p qs h1 fun z => (a.new p z).elim n fun q => by rw [h] at q; cases q
  there := fun p h e => by
    cases q : H p with
    | none => exact a.there p h q
    | some o =>
      cases t : notTbl o with
      | true => rw [b.keep p o q (hx p h) t] at e; cases e
      | false =>
        cases o with
        | tbl ps =>
          obtain ⟨qs, h1⟩ := b.tbl p ps q (hx p h)
          rw [h1] at e; cases e
        | _ => cases t
  pre := a.pre.trans b.pre
  new := fun p h => by
    rcases b.new p h with z | z
    · exact a.new p z
    · cases q : H0 p with
      | none => exact .inr rfl
      | some o =>
        by_cases hm : p ∈ μ0
        · exact .inl hm
        · by_cases hxx : p ∈ ex
          · exact absurd z (a.there p hxx)
          · cases ht : notTbl o with
            | true => rw [a.keep p o q hm hxx ht] at z; cases z
            | false =>
              cases o with
              | tbl ps =>
                obtain ⟨qs, h1⟩ := a.tbl p ps q hm hxx
                rw [h1] at z; cases z
              | _ => cases ht
  fz := fun p o u h => b.fz p o u (a.fz p o u h)
  exn := a.exn
/-- an object that was not there at the entry, or at ex, changes -/
theorem Step0.upd {p : Addr} {o : HO} (a : Step0 ex μ0 H0 μ H) (hp : H0 p = none ∨ p ∈ ex) : Step0 ex μ0 H0 μ (L2.upd H p o) where
  keep := fun q u h n x t => by
    rw [upd_ne (fun z => by subst z; rcases hp with e | e; · rw [h] at e; cases e
                            · exact x e)]
    exact a.keep q u h n x t
  tbl := fun q ps h n x => by
    rw [upd_ne (fun z => by subst z; rcases hp with e | e; · rw [h] at e; cases e
                            · exact x e)]
    exact a.tbl q ps h n x
  there := fun q h => by
    by_cases z : q = p
    · subst z; rw [upd_same]; exact fun e => by cases e
    · rw [upd_ne z]; exact a.there q h
  pre := a.pre
  new := a.new
  fz := fun q ob u h => by
    rw [upd_ne (fun z => by subst z; rcases hp with e | e; · rw [h] at e; cases e
                            · exact a.exn _ e _ _ h)]
    exact a.fz q ob u h
  exn := a.exn
theorem Step0.entry (h : ∀ a, a ∈ ex → H a ≠ none) (hz : ∀ a, a ∈ ex → ∀ o u, H a ≠ some (.frz o u)) : Step0 ex μ H μ H := ⟨fun _ _ h _ _ _ => h, fun _ ps h _ _ => ⟨ps, h⟩, h, List.prefix_refl _, fun _ h => .inl h, fun _ _ _ h => h, hz⟩
theorem Step0.to (a : Step0 [] μ0 H0 μ H) : Step μ0 H0 μ H := ⟨fun p o h n t => a.keep p o h n (by simp) t, fun p ps h n => a.tbl p ps h n (by simp), a.pre, a.new, a.fz⟩

/-- the state of a body: the slots and the store, and what stays from its entry on -/
structure RelS (G : GP) (N : Fns) (ex : List Addr) (μ0 : List Addr) (H0 : Hp) (μ : List Addr) (σ : St) (H : Hp) (ρ : Env) (S : Store) : Prop where
  rel : Rel G N μ σ H ρ S
  st0 : Step0 ex μ0 H0 μ H
  exm : ∀ p, p ∈ ex → p ∉ μ
  own : ∀ (i : Nat) (xs : List Val) (p : Addr), ρ[i]? = some (.ow xs) → σ[i]? = some (some (.ref p)) → H0 p = none
  obj : ∀ (i c : Nat) (xs : List Val) (p : Addr), ρ[i]? = some (.ob c xs) → σ[i]? = some (some (.ref p)) → p ∈ ex
theorem RelS.step (R : RelS G N ex μ0 H0 μ σ H ρ S) (st : Step μ H μ' H') (r : StR G μ' H' S') : RelS G N ex μ0 H0 μ' σ H' ρ S' :=
  ⟨R.rel.step st r, R.st0.step st R.exm, fun p hp z => (st.new p z).elim (R.exm p hp) fun q => R.st0.there p hp q, R.own, R.obj⟩

/-- what a statement's outcome asks -/
def OutS (G : GP) (N : Fns) (W : WX) (ex μ0 : List Addr) (H0 : Hp) (μ : List Addr) (H : Hp) (D : Ends) : RS → Prop
  | .go f ρ' S' => ∀ μ' σ' H', RelS G N ex μ0 H0 μ' σ' H' ρ' S' → Kp G μ H μ' H' → (match f with
    | .nx => D.nx σ' H'
    | .bk => D.bk σ' H'
    | .ct => D.ct σ' H'
    | .rt v => ∀ u, VR G μ' H' v u → D.rt u H')
  | .er e ρ' S' => ∀ cls d μ' σ' H', RelS G N ex μ0 H0 μ' σ' H' ρ' S' → Kp G μ H μ' H' → ER G μ' H' cls d e → W cls d σ' H'
  | .sk => False
theorem OutS.kx {D : Ends} {r : RS} (h : OutS G N W ex μ0 H0 μ H D r) (k : Kp G μ H μ' H') : OutS G N W ex μ0 H0 μ' H' D r := by
  cases r with
  | go f ρ' S' => exact fun μ2 σ2 H2 R2 k2 => h μ2 σ2 H2 R2 (k.trans k2)
  | er e ρ' S' => exact fun cls d μ2 σ2 H2 R2 k2 er => h cls d μ2 σ2 H2 R2 (k.trans k2) er
  | sk => exact h
/-- the reading of a statement -/
def tS (G : GP) (N : Fns) (W : WX) (ex μ0 : List Addr) (H0 : Hp) (m : C) : TS := fun D σ H => ∃ ρ S μ, RelS G N ex μ0 H0 μ σ H ρ S ∧ OutS G N W ex μ0 H0 μ H D (m ρ S)

theorem ps_imp {st : Stmt} {t t' : TS} (h : PS X st t) (i : ∀ D σ H, t' D σ H → t D σ H) : PS X st t' := ⟨fun pins s σ H D I q => h.run pins s σ H D I (i D σ H q)⟩
theorem pss_imp {st : List Stmt} {t t' : TS} (h : PSs X st t) (i : ∀ D σ H, t' D σ H → t D σ H) : PSs X st t' := ⟨fun pins s σ H D I q => h.run pins s σ H D I (i D σ H q)⟩

/-- an expression ahead of what follows -/
theorem stm_go {α : Type} {m : R α} {f : α → Store → RS} {D : Ends} (R : RelS G N ex μ0 H0 μ σ H ρ S) (h : OutS G N W ex μ0 H0 μ H D (m.stm ρ f)) :
    Out G W σ μ H m fun a S1 μ1 H1 => OutS G N W ex μ0 H0 μ1 H1 D (f a S1) ∧ RelS G N ex μ0 H0 μ1 σ H1 ρ S1 := by
  cases m with
  | ok a S' => exact fun μ' H' st sr => ⟨OutS.kx (r := f a S') h (st.kp R.rel.st), R.step st sr⟩
  | er e S' => exact fun cls d μ' H' st sr er => h cls d μ' σ H' (R.step st sr) (st.kp R.rel.st) er
  | sk => exact h
variable {st : Stmt} {rest : List Stmt} {m m' : C} {e : Expr} {me : E Val} {pos : Pos}
theorem fss_nil : PSs X [] (tS G N W ex μ0 H0 sNil) := pss_imp pss_nil fun D σ H ⟨ρ, S, μ, R, o⟩ => o μ σ H R Kp.refl
theorem then_go {r : RS} {f : Env → Store → RS} {D : Ends} (h : OutS G N W ex μ0 H0 μ H D (r.then f)) :
    OutS G N W ex μ0 H0 μ H { D with nx := fun σ' H' => ∃ ρ' S' μ', RelS G N ex μ0 H0 μ' σ' H' ρ' S' ∧ OutS G N W ex μ0 H0 μ' H' D (f ρ' S') } r := by
  cases r with
  | sk => exact h
  | er e ρ' S' => exact h
  | go fl ρ' S' =>
    cases fl with
    | nx => exact fun μ' σ' H' R k => ⟨ρ', S', μ', R, OutS.kx (r := f ρ' S') h k⟩
    | bk => exact h
    | ct => exact h
    | rt v => exact h
theorem fss_cons (h1 : PS X st (tS G N W ex μ0 H0 m)) (h2 : PSs X rest (tS G N W ex μ0 H0 m')) : PSs X (st :: rest) (tS G N W ex μ0 H0 (sSeq m m')) :=
  pss_imp (pss_cons h1 h2) fun D σ H ⟨ρ, S, μ, R, o⟩ => ⟨ρ, S, μ, R, then_go o⟩
theorem fss_one (h1 : PS X st (tS G N W ex μ0 H0 m)) : PSs X [st] (tS G N W ex μ0 H0 m) := pss_one h1
theorem fs_pass : PS X (.Pass pos) (tS G N W ex μ0 H0 sNil) := ps_imp ps_pass fun D σ H ⟨ρ, S, μ, R, o⟩ => o μ σ H R Kp.refl
theorem fs_expr {M : Md} (he : PE X e (tE G N W M me)) (hs : swapsWith e none pos.line X.env = pure false := by rfl) : PS X (.Expr e pos) (tS G N W ex μ0 H0 (sDrop me)) :=
  ps_imp (ps_expr he hs) fun D σ H ⟨ρ, S, μ, R, o⟩ => ⟨ρ, S, μ, R.rel, (stm_go R o).mono fun x S1 μ1 H1 st sr k u hu => k.1 μ1 σ H1 k.2 Kp.refl⟩
theorem fs_if {c : Expr} {a b : List Stmt} {tc : T} {ma mb : C} (hc : PT X c (tT G N W tc)) (ha : PSs X a (tS G N W ex μ0 H0 ma)) (hb : PSs X b (tS G N W ex μ0 H0 mb)) : PS X (.If c a b pos) (tS G N W ex μ0 H0 (sIf tc ma mb)) :=
  ps_imp (ps_if hc ha hb) fun D σ H ⟨ρ, S, μ, R, o⟩ => ⟨ρ, S, μ, R.rel, (stm_go R o).mono fun x S1 μ1 H1 st sr k => by
    cases x with
    | true => exact ⟨ρ, S1, μ1, k.2, k.1⟩
    | false => exact ⟨ρ, S1, μ1, k.2, k.1⟩⟩

/-! ### stores -/
theorem set_get {α : Type} {l : List α} {i j : Nat} {x y : α} (h : (l.set i x)[j]? = some y) : (j = i ∧ y = x) ∨ (j ≠ i ∧ l[j]? = some y) := by
  by_cases e : j = i
  · subst e
    by_cases hl : j < l.length
    · rw [List.getElem?_set_self hl] at h; exact .inl ⟨rfl, (Option.some.inj h).symm⟩
    · rw [List.getElem?_eq_none (by simpa using hl)] at h; cases h
  · rw [List.getElem?_set_ne (Ne.symm e)] at h; exact .inr ⟨e, h⟩
theorem Rel.setPl {i : Nat} {v : Val} {u : V} (R : Rel G N μ σ H ρ S) (h : VR G μ H v u) : Rel G N μ (σ.set i (some u)) H (ρ.set i (.pl v)) S where
  len := by simpa using R.len
  at_ := fun j s o h1 h2 => by
    rcases set_get h1 with ⟨rfl, rfl⟩ | ⟨n1, h1⟩
    · rcases set_get h2 with ⟨_, rfl⟩ | ⟨n2, _⟩
      · exact ⟨u, rfl, h⟩
      · exact absurd rfl n2
    · rcases set_get h2 with ⟨n2, _⟩ | ⟨_, h2⟩
      · exact absurd n2 n1
      · exact R.at_ j s o h1 h2
  own := fun j k xs ys p h1 h2 h3 h4 => by
    rcases set_get h1 with ⟨_, e⟩ | ⟨n1, h1⟩
    · cases e
    · rcases set_get h2 with ⟨_, e⟩ | ⟨n2, h2⟩
      · cases e
      · rcases set_get h3 with ⟨e, _⟩ | ⟨_, h3⟩
        · exact absurd e n1
        · rcases set_get h4 with ⟨e, _⟩ | ⟨_, h4⟩
          · exact absurd e n2
          · exact R.own j k xs ys p h1 h2 h3 h4
  st := R.st
theorem RelS.setPl {i : Nat} {v : Val} {u : V} (R : RelS G N ex μ0 H0 μ σ H ρ S) (h : VR G μ H v u) : RelS G N ex μ0 H0 μ (σ.set i (some u)) H (ρ.set i (.pl v)) S where
  rel := R.rel.setPl h
  st0 := R.st0
  exm := R.exm
  own := fun j xs p h1 h2 => by
    rcases set_get h1 with ⟨_, e⟩ | ⟨n1, h1⟩
    · cases e
    · rcases set_get h2 with ⟨e, _⟩ | ⟨_, h2⟩
      · exact absurd e n1
      · exact R.own j xs p h1 h2
  obj := fun j c xs p h1 h2 => by
    rcases set_get h1 with ⟨_, e⟩ | ⟨n1, h1⟩
    · cases e
    · rcases set_get h2 with ⟨e, _⟩ | ⟨_, h2⟩
      · exact absurd e n1
      · exact R.obj j c xs p h1 h2
theorem fs_asg (i : Nat) {x : Str} {p2 : Pos} (hN : X.N.Nodup) (hi : X.N[i]? = some x) (hx : Loc X.env.scope x) (he : PE X e (tE G N W (MF G) me)) (hs : swapsWith e (some (.Name x p2)) pos.line X.env = pure false := by rfl)
    (hf : X.fn x = true ∨ X.env.scope.names.lookup x = some .local := by first | exact .inl rfl | exact .inr rfl | assumption) : PS X (.Assign [.Name x p2] e pos) (tS G N W ex μ0 H0 (sAsg i me)) :=
  ps_imp (ps_set hN hi hx he hs hf) fun D σ H ⟨ρ, S, μ, R, o⟩ => ⟨ρ, S, μ, R.rel, (stm_go R o).mono fun v S1 μ1 H1 st sr k u hu => k.1 μ1 _ H1 (k.2.setPl hu) Kp.refl⟩
/-- an own list is laid into a slot -/
theorem Rel.setOw {i : Nat} {xs : List Val} {us : List V} {p : Addr} (R : Rel G N μ σ H ρ S) (hp : H p = some (.lst us)) (r : VRs G μ H xs us) (np : p ∉ μ) (nw : ∀ j ys, j ≠ i → ρ[j]? = some (.ow ys) → σ[j]? ≠ some (some (.ref p))) : Rel G N μ (σ.set i (some (.ref p))) H (ρ.set i (.ow xs)) S where
  len := by simpa using R.len
  at_ := fun j s o h1 h2 => by
    rcases set_get h1 with ⟨rfl, rfl⟩ | ⟨n1, h1⟩
    · rcases set_get h2 with ⟨_, rfl⟩ | ⟨n2, _⟩
      · exact ⟨p, us, rfl, hp, r, np⟩
      · exact absurd rfl n2
    · rcases set_get h2 with ⟨n2, _⟩ | ⟨_, h2⟩
      · exact absurd n2 n1
      · exact R.at_ j s o h1 h2
  own := fun j k ys zs q h1 h2 h3 h4 => by
    rcases set_get h1 with ⟨e1, _⟩ | ⟨n1, h1⟩
    · rcases set_get h2 with ⟨e2, _⟩ | ⟨n2, h2⟩
      · exact e1.trans e2.symm
      · rcases set_get h3 with ⟨_, e⟩ | ⟨n3, _⟩
        · rcases set_get h4 with ⟨e4, _⟩ | ⟨_, h4⟩
          · exact absurd e4 n2
          · cases e
            exact absurd h4 (nw k zs n2 h2)
        · exact absurd e1 n3
    · rcases set_get h2 with ⟨e2, _⟩ | ⟨n2, h2⟩
      · rcases set_get h4 with ⟨_, e⟩ | ⟨n4, _⟩
        · rcases set_get h3 with ⟨e3, _⟩ | ⟨_, h3⟩
          · exact absurd e3 n1
          · cases e
            exact absurd h3 (nw j ys n1 h1)
        · exact absurd e2 n4
      · rcases set_get h3 with ⟨e, _⟩ | ⟨_, h3⟩
        · exact absurd e n1
        · rcases set_get h4 with ⟨e, _⟩ | ⟨_, h4⟩
          · exact absurd e n2
          · exact R.own j k ys zs q h1 h2 h3 h4
  st := R.st
theorem RelS.setOw {i : Nat} {xs : List Val} {us : List V} {p : Addr} (R : RelS G N ex μ0 H0 μ σ H ρ S) (hp : H p = some (.lst us)) (r : VRs G μ H xs us) (np : p ∉ μ) (nw : ∀ j ys, j ≠ i → ρ[j]? = some (.ow ys) → σ[j]? ≠ some (some (.ref p))) (h0 : H0 p = none) : RelS G N ex μ0 H0 μ (σ.set i (some (.ref p))) H (ρ.set i (.ow xs)) S where
  rel := R.rel.setOw hp r np nw
  st0 := R.st0
  exm := R.exm
  own := fun j ys q h1 h2 => by
    rcases set_get h1 with ⟨e1, _⟩ | ⟨n1, h1⟩
    · rcases set_get h2 with ⟨_, e⟩ | ⟨n2, _⟩
      · cases e; exact h0
      · exact absurd e1 n2
    · rcases set_get h2 with ⟨e, _⟩ | ⟨_, h2⟩
      · exact absurd e n1
      · exact R.own j ys q h1 h2
  obj := fun j c ys q h1 h2 => by
    rcases set_get h1 with ⟨_, e⟩ | ⟨n1, h1⟩
    · cases e
    · rcases set_get h2 with ⟨e, _⟩ | ⟨_, h2⟩
      · exact absurd e n1
      · exact R.obj j c ys q h1 h2
/-- what is new now was not there at the entry -/
theorem Step0.fresh {p : Addr} (a : Step0 ex μ0 H0 μ H) (sr : StR G μ H S) (h : H p = none) : H0 p = none := by
  cases q : H0 p with
  | none => rfl
  | some o =>
    by_cases hm : p ∈ μ0
    · obtain ⟨n, hn⟩ := List.mem_iff_getElem?.mp hm
      obtain ⟨o', e, _⟩ := sr.nfix (List.mem_of_getElem? (pre_get a.pre hn))
      rw [h] at e; cases e
    · by_cases hx : p ∈ ex
      · exact absurd h (a.there p hx)
      · cases t : notTbl o with
        | true => rw [a.keep p o q hm hx t] at h; cases h
        | false =>
          cases o with
          | tbl ps =>
            obtain ⟨qs, e⟩ := a.tbl p ps q hm hx
            rw [h] at e; cases e
          | _ => cases t
theorem new_imp {i : Nat} {me : E Val} {D : Ends} (R : RelS G N ex μ0 H0 μ σ H ρ S) (o : OutS G N W ex μ0 H0 μ H D (sNew i me ρ S)) : Out G W σ μ H (me ρ S) fun v _ μ' H' => ∀ u, MN G μ' H H' v u → D.nx (σ.set i (some u)) H' :=
  (stm_go R o).mono fun v S1 μ1 H1 st sr k u hu => by
    obtain ⟨k1, k2⟩ := k
    split at k1
    · rename_i xs
      rcases hu with ⟨p, xs', us, e1, rfl, hn, np, hp, r⟩ | ⟨hu, _⟩
      · cases e1
        refine k1 μ1 _ H1 (k2.setOw hp r np (fun j ys _ h1 h2 => ?_) (R.st0.fresh R.rel.st hn)) Kp.refl
        obtain ⟨o, e1, q, us', e2, e3, _⟩ := R.rel.slot h1
        rw [h2] at e1; cases e1
        cases e2
        rw [hn] at e3; cases e3
      · exact absurd rfl (hu xs)
    · exact False.elim k1
/-- x = e, a new list that is kept as it is -/
def sAsgL (i : Nat) (a : E Val) : C := fun ρ S => (a ρ S).stm ρ fun x S1 => match x with
  | .lst xs => .go .nx (ρ.set i (.pl (.lst xs))) S1
  | _ => .sk
theorem fs_new (i : Nat) {x : Str} {p2 : Pos} (hN : X.N.Nodup) (hi : X.N[i]? = some x) (hx : Loc X.env.scope x) (he : PE X e (tE G N W (MN G) me)) (hs : swapsWith e (some (.Name x p2)) pos.line X.env = pure false := by rfl)
    (hf : X.fn x = true ∨ X.env.scope.names.lookup x = some .local := by first | exact .inl rfl | exact .inr rfl | assumption) : PS X (.Assign [.Name x p2] e pos) (tS G N W ex μ0 H0 (sNew i me)) :=
  ps_imp (ps_set hN hi hx he hs hf) fun D σ H ⟨ρ, S, μ, R, o⟩ => ⟨ρ, S, μ, R.rel, new_imp R o⟩
end
end KL

set_option linter.all false
set_option maxRecDepth 100000
set_option maxHeartbeats 1000000
/-! KStm2: lists changed in place, return, raise, targets, loops. -/
namespace KL
open PySem L2
section
variable {G : GP} {N : Fns} {W : WX} {X : Cx} {ex μ0 μ μ' : List Addr} {H0 H H' : Hp} {σ : St} {ρ : Env} {S S' : Store} {st : Stmt} {rest : List Stmt} {m m' : C} {e : Expr} {me : E Val} {pos : Pos}

/-! ### an own list changes -/
theorem Rel.ow_at (R : Rel G N μ σ H ρ S) {i : Nat} {xs : List Val} (h : ρ[i]? = some (.ow xs)) : ∃ p us, σ[i]? = some (some (.ref p)) ∧ H p = some (.lst us) ∧ VRs G μ H xs us ∧ p ∉ μ := by
  obtain ⟨o, e, p, us, rfl, h1, h2, h3⟩ := R.slot h
  exact ⟨p, us, e, h1, h2, h3⟩
theorem Rel.updOw {i : Nat} {xs xs' : List Val} {us' : List V} {p : Addr} (R : Rel G N μ σ H ρ S) (h : ρ[i]? = some (.ow xs)) (e : σ[i]? = some (some (.ref p))) (r : VRs G μ H xs' us') : Rel G N μ σ (upd H p (.lst us')) (ρ.set i (.ow xs')) S := by
  obtain ⟨p', us, e', hp, r0, np⟩ := R.ow_at h
  rw [e] at e'; cases e'
  have nf : ∀ u, H p = some u → fixdT G u = false := fun u q => by rw [hp] at q; cases q; rfl
  have k : Kx G H (upd H p (.lst us')) := kx_upd nf
  refine ⟨by simpa using R.len, fun j s o h1 h2 => ?_, fun j k ys zs q h1 h2 h3 h4 => ?_, R.st.upd np nf⟩
  · rcases set_get h1 with ⟨rfl, rfl⟩ | ⟨n1, h1⟩
    · rw [e] at h2; cases h2
      exact ⟨p, us', rfl, upd_same, r.kx k (List.prefix_refl _), np⟩
    · have q := R.at_ j s o h1 h2
      cases s with
      | un => trivial
      | pl x => obtain ⟨u, e, v⟩ := q; exact ⟨u, e, v.kx k (List.prefix_refl _)⟩
      | ow ys =>
        obtain ⟨p2, vs, rfl, h3, v, n⟩ := q
        have ne : p2 ≠ p := fun z => n1 (R.own j i ys xs p2 h1 h (by rw [h2]) (by rw [e, z]))
        exact ⟨p2, vs, rfl, by rw [upd_ne ne]; exact h3, v.kx k (List.prefix_refl _), n⟩
      | ob c ys =>
        obtain ⟨a, dx, fs, rfl, h3, v⟩ := q
        have ne : a ≠ p := fun z => by rw [z, hp] at h3; cases h3
        obtain ⟨v1, v2, v3, v4, v5⟩ := v
        exact ⟨a, dx, fs, rfl, by rw [upd_ne ne]; exact h3, v1, v2, v3, v4.kx k (List.prefix_refl _), v5⟩
      | pd n => obtain ⟨u, e, v⟩ := q; exact ⟨u, e, N.pdx _ _ _ _ _ k v⟩
      | cl n r => obtain ⟨u, e, v⟩ := q; exact ⟨u, e, N.clx _ _ _ _ _ _ _ _ k (List.prefix_refl _) v⟩
  · rcases set_get h1 with ⟨e1, _⟩ | ⟨n1, g1⟩
    · rcases set_get h2 with ⟨e2, _⟩ | ⟨n2, g2⟩
      · rw [e1, e2]
      · exact R.own j k xs zs q (by rw [e1]; exact h) g2 h3 h4
    · rcases set_get h2 with ⟨e2, _⟩ | ⟨n2, g2⟩
      · exact R.own j k ys xs q g1 (by rw [e2]; exact h) h3 h4
      · exact R.own j k ys zs q g1 g2 h3 h4
theorem RelS.updOw {i : Nat} {xs xs' : List Val} {us' : List V} {p : Addr} (R : RelS G N ex μ0 H0 μ σ H ρ S) (h : ρ[i]? = some (.ow xs)) (e : σ[i]? = some (some (.ref p))) (r : VRs G μ H xs' us') : RelS G N ex μ0 H0 μ σ (upd H p (.lst us')) (ρ.set i (.ow xs')) S where
  rel := R.rel.updOw h e r
  st0 := R.st0.upd (.inl (R.own i xs p h e))
  exm := R.exm
  own := fun j ys q h1 h2 => by
    rcases set_get h1 with ⟨rfl, _⟩ | ⟨n1, h1⟩
    · exact R.own _ xs q h h2
    · exact R.own _ ys q h1 h2
  obj := fun j c ys q h1 h2 => by
    rcases set_get h1 with ⟨_, e⟩ | ⟨n1, h1⟩
    · cases e
    · exact R.obj j c ys q h1 h2
theorem Rel.ow_nf (R : Rel G N μ σ H ρ S) {i : Nat} {xs : List Val} {p : Addr} (h : ρ[i]? = some (.ow xs)) (e : σ[i]? = some (some (.ref p))) : ∀ u, H p = some u → fixdT G u = false := fun u q => by
  obtain ⟨p', us, e', hp, r0, np⟩ := R.ow_at h
  rw [e] at e'; cases e'
  rw [hp] at q; cases q; rfl

/-- x.append(e) -/
theorem fs_app (i : Nat) {x : Str} {a : Expr} {ma : E Val} {p1 p2 p3 : Pos} (hN : X.N[i]? = some x := by rfl) (ha : PE X a (tE G N W (MF G) ma)) (hv : Vis X.env.scope x := by first | exact Or.inl rfl | exact Or.inr (Or.inl rfl) | exact Or.inr (Or.inr rfl)) (hd : (x == ("__debug__" : Str)) = false := by decide)
    (hcd : (x == ("__classdict__" : Str)) = false := by decide) (hs : swapsWith (.Call (.Attribute (.Name x p1) "append" p2) [a] [] p3) none pos.line X.env = pure false := by rfl) (hst : starEach [a] X.env = (false, eval a X.env) :: starEach [] X.env := by rfl)
    (hbase : attributeBase (.Name x p1) "append" X.env (eval (.Name x p1) X.env) = eval (.Name x p1) X.env := by rfl)
    (hfew : ((backTo p3 (starEach [a] X.env)).all (fun x => !x.1) && (backToKw p3 (keywordEach [] X.env)).all (fun x => x.1.isSome) && decide (([a] : List Expr).length + ([] : List Keyword).length + (if ([] : List Keyword).isEmpty then 0 else 1) < 30)) = true := by rfl)
    (hline : (p2.endLine == p3.line) = true := by rfl) (hpl : (backTo p3 (starEach [] X.env)).any (·.1) = false := by rfl) :
    PS X (.Expr (.Call (.Attribute (.Name x p1) "append" p2) [a] [] p3) pos) (tS G N W ex μ0 H0 (sApp i ma)) :=
  ps_imp (ps_expr (pe_bm PySem.F.plainAttrs_list PySem.F.slot_list_append PySem.F.type_list_append mt_append (pe_var hN hv hd hcd) (pa_cons ha pa_nil hst) hbase hfew hline hst hpl) hs) fun D σ H ⟨ρ, S, μ, R, o⟩ => by
    unfold sApp at o
    split at o
    · rename_i xs h
      obtain ⟨p, us, e, hp, r, np⟩ := R.rel.ow_at h
      refine ⟨_, e, .inl ⟨rfl, us, SqL.of hp⟩, ρ, S, μ, R.rel, (stm_go R o).mono fun v S1 μ1 H1 st sr k u hu => ?_⟩
      obtain ⟨k1, k2⟩ := k
      split at k1
      · rename_i hl
        have hp1 := st.keep p _ hp np rfl
        have r1 := r.kx (st.kx R.rel.st) st.pre
        refine ⟨p, us, u, rfl, rfl, hp1, by rw [← r.length]; exact hl, ?_⟩
        exact k1 μ1 σ _ (k2.updOw h e (r1.snoc hu)) (.of (kx_upd (k2.rel.ow_nf h e)))
      · exact False.elim k1
    · exact False.elim o
/-- x.append(y.pop(e)) -/
theorem fs_appPop (i j : Nat) {x y : Str} {a : Expr} {ma : E Val} {p1 p2 p3 p4 p5 p6 : Pos} (hN : X.N[i]? = some x := by rfl) (hM : X.N[j]? = some y := by rfl) (ha : PE X a (tE G N W (MF G) ma)) (hv : Vis X.env.scope x := by first | exact Or.inl rfl | exact Or.inr (Or.inl rfl) | exact Or.inr (Or.inr rfl))
    (hw : Vis X.env.scope y := by first | exact Or.inl rfl | exact Or.inr (Or.inl rfl) | exact Or.inr (Or.inr rfl)) (hd : (x == ("__debug__" : Str)) = false := by decide) (hcd : (x == ("__classdict__" : Str)) = false := by decide) (hd2 : (y == ("__debug__" : Str)) = false := by decide) (hcd2 : (y == ("__classdict__" : Str)) = false := by decide)
    (hs : swapsWith (.Call (.Attribute (.Name x p1) "append" p2) [.Call (.Attribute (.Name y p4) "pop" p5) [a] [] p6] [] p3) none pos.line X.env = pure false := by rfl) (hst : starEach [.Call (.Attribute (.Name y p4) "pop" p5) [a] [] p6] X.env = (false, eval (.Call (.Attribute (.Name y p4) "pop" p5) [a] [] p6) X.env) :: starEach [] X.env := by rfl)
    (hbase : attributeBase (.Name x p1) "append" X.env (eval (.Name x p1) X.env) = eval (.Name x p1) X.env := by rfl)
    (hfew : ((backTo p3 (starEach [.Call (.Attribute (.Name y p4) "pop" p5) [a] [] p6] X.env)).all (fun x => !x.1) && (backToKw p3 (keywordEach [] X.env)).all (fun x => x.1.isSome) && decide (([.Call (.Attribute (.Name y p4) "pop" p5) [a] [] p6] : List Expr).length + ([] : List Keyword).length + (if ([] : List Keyword).isEmpty then 0 else 1) < 30)) = true := by rfl)
    (hline : (p2.endLine == p3.line) = true := by rfl) (hpl : (backTo p3 (starEach [] X.env)).any (·.1) = false := by rfl) (hst2 : starEach [a] X.env = (false, eval a X.env) :: starEach [] X.env := by rfl)
    (hbase2 : attributeBase (.Name y p4) "pop" X.env (eval (.Name y p4) X.env) = eval (.Name y p4) X.env := by rfl)
    (hfew2 : ((backTo p6 (starEach [a] X.env)).all (fun x => !x.1) && (backToKw p6 (keywordEach [] X.env)).all (fun x => x.1.isSome) && decide (([a] : List Expr).length + ([] : List Keyword).length + (if ([] : List Keyword).isEmpty then 0 else 1) < 30)) = true := by rfl)
    (hline2 : (p5.endLine == p6.line) = true := by rfl) (hpl2 : (backTo p6 (starEach [] X.env)).any (·.1) = false := by rfl) :
    PS X (.Expr (.Call (.Attribute (.Name x p1) "append" p2) [.Call (.Attribute (.Name y p4) "pop" p5) [a] [] p6] [] p3) pos) (tS G N W ex μ0 H0 (sAppPop i j ma)) :=
  ps_imp (ps_expr (pe_bm PySem.F.plainAttrs_list PySem.F.slot_list_append PySem.F.type_list_append mt_append (pe_var hN hv hd hcd) (pa_cons (pe_bm PySem.F.plainAttrs_list PySem.F.slot_list_pop PySem.F.type_list_pop mt_popAt (pe_var hM hw hd2 hcd2) (pa_cons ha pa_nil hst2) hbase2 hfew2 hline2 hst2 hpl2) pa_nil hst) hbase hfew hline hst hpl) hs) fun D σ H ⟨ρ, S, μ, R, o⟩ => by
    unfold sAppPop at o
    split at o
    · exact False.elim o
    · rename_i hij
      split at o
      · rename_i xs ys h1 h2
        obtain ⟨p, us, e1, hp, r1, np⟩ := R.rel.ow_at h1
        obtain ⟨q, vs, e2, hq, r2, nq⟩ := R.rel.ow_at h2
        have npq : p ≠ q := fun z => hij (R.rel.own i j xs ys p h1 h2 e1 (by rw [z]; exact e2))
        refine ⟨_, e1, .inl ⟨rfl, us, SqL.of hp⟩, _, e2, .inl ⟨rfl, vs, SqL.of hq⟩, ρ, S, μ, R.rel, (stm_go R o).mono fun v S1 μ1 H1 st sr k u hu => ?_⟩
        obtain ⟨k1, k2⟩ := k
        have hp1 := st.keep p _ hp np rfl
        have hq1 := st.keep q _ hq nq rfl
        have r1' := r1.kx (st.kx R.rel.st) st.pre
        have r2' := r2.kx (st.kx R.rel.st) st.pre
        split at k1
        · rename_i k
          cases hu
          split at k1
          · rename_i hc
            split at k1
            · rename_i y hy
              obtain ⟨w, g1, g2⟩ := r2'.get hy
              have hlen := r2.length
              have hb := hc.2.2.2
              have hix : ixN vs.length k = some k.toNat := by
                unfold ixN
                rw [if_pos (by omega), if_pos (by omega)]
              refine ⟨q, vs, k, k.toNat, w, rfl, rfl, hq1, by omega, by show k < 9223372036854775808; simp only [big] at hb; omega, (ixN_seq hix).1, g1, ?_⟩
              · have R2 := k2.updOw h2 e2 (r2'.erase k.toNat)
                have h1' : (ρ.set j (.ow (ys.eraseIdx k.toNat)))[i]? = some (.ow xs) := by rw [List.getElem?_set_ne (Ne.symm hij)]; exact h1
                have nf := kx_upd (G := G) (o := .lst (vs.eraseIdx k.toNat)) (k2.rel.ow_nf h2 e2)
                refine ⟨p, us, w, rfl, rfl, by rw [upd_ne npq]; exact hp1, by rw [← r1.length]; exact hc.1, ?_⟩
                exact k1 μ1 σ _ (R2.updOw h1' e1 ((r1'.kx nf (List.prefix_refl _)).snoc (g2.kx nf (List.prefix_refl _)))) (.of (nf.trans (kx_upd (R2.rel.ow_nf h1' e1))))
            · exact False.elim k1
          · exact False.elim k1
        · exact False.elim k1
      · exact False.elim o

/-- del x[i], x an own list -/
def sDel (i : Nat) (a : E Val) : C := fun ρ S => match ρ[i]? with
  | some (.ow xs) => (a ρ S).stm ρ fun x S1 => match x with
    | .int k => match ixOf xs.length k with
      | some q => if xs.length ≤ big then .go .nx (ρ.set i (.ow (xs.eraseIdx q))) S1 else .sk
      | none => .sk
    | _ => .sk
  | _ => .sk
theorem fs_del (i : Nat) {x : Str} {a : Expr} {ma : E Val} {p1 p2 : Pos} (hN : X.N[i]? = some x := by rfl) (ha : PE X a (tE G N W (MB G) ma)) (hv : Vis X.env.scope x := by first | exact Or.inl rfl | exact Or.inr (Or.inl rfl) | exact Or.inr (Or.inr rfl)) (hd : (x == ("__debug__" : Str)) = false := by decide)
    (hcd : (x == ("__classdict__" : Str)) = false := by decide) : PS X (.Delete [.Subscript (.Name x p1) a p2] pos) (tS G N W ex μ0 H0 (sDel i ma)) :=
  ps_imp (ps_delL (pe_var hN hv hd hcd) ha) fun D σ H ⟨ρ, S, μ, R, o⟩ => by
    unfold sDel at o
    split at o
    · rename_i xs h
      obtain ⟨p, us, e, hp, r, np⟩ := R.rel.ow_at h
      refine ⟨_, e, ρ, S, μ, R.rel, (stm_go R o).mono fun v S1 μ1 H1 st sr k u hu => ?_⟩
      obtain ⟨k1, k2⟩ := k
      have hp1 := st.keep p _ hp np rfl
      have r1 := r.kx (st.kx R.rel.st) st.pre
      split at k1
      · rename_i k
        have hu' := hu.dr sr
        cases hu'.int
        split at k1
        · rename_i q hq
          split at k1
          · rename_i hb
            rw [r.length] at hq
            obtain ⟨g1, g2, g3, g4⟩ := ixN_seq hq
            have hl := r.length
            simp only [big] at hb
            refine ⟨p, us, k, q, rfl, rfl, hp1, by omega, by omega, g1, ?_⟩
            exact k1 μ1 σ _ (k2.updOw h e (r1.erase q)) (.of (kx_upd (k2.rel.ow_nf h e)))
          · exact False.elim k1
        · exact False.elim k1
      · exact False.elim k1
    · exact False.elim o

/-! ### shared things change -/
theorem StR.set {n : Nat} {a : Addr} {c : Cell} {o : HO} (r : StR G μ H S) (hm : μ[n]? = some a) (hz : ∀ ob u, H a ≠ some (.frz ob u)) (hc : CellR G μ (L2.upd H a o) c a) : StR G μ (L2.upd H a o) (S.set n c) := by
  have ha := List.mem_of_getElem? hm
  have k : Kx G H (L2.upd H a o) := kx_upd fun u e => by
    obtain ⟨o', e', f⟩ := r.nfix ha
    rw [e] at e'; cases e'
    rcases f with f | ⟨ob, u, f⟩
    · exact f
    · subst f; exact absurd e (hz ob u)
  refine ⟨by simpa using r.len, r.nd, fun q hq => (r.tb q hq).upd fun u e => by
    obtain ⟨o', e', f⟩ := r.nfix ha
    rw [e] at e'; cases e'
    rcases f with f | ⟨ob, u, f⟩
    · exact f
    · subst f; exact absurd e (hz ob u), fun m c' a' h1 h2 => ?_⟩
  rcases set_get h1 with ⟨rfl, rfl⟩ | ⟨n1, h1⟩
  · rw [hm] at h2; cases h2; exact hc
  · have ne : a' ≠ a := fun z => by
      obtain ⟨g1, g2⟩ := List.getElem?_eq_some_iff.mp hm
      obtain ⟨g3, g4⟩ := List.getElem?_eq_some_iff.mp h2
      exact n1 ((List.getElem_inj (h₀ := g3) (h₁ := g1) r.nd).mp (by rw [g4, g2, z]))
    have q := r.at_ m c' a' h1 h2
    cases c' with
    | lst xs => obtain ⟨us, e, v⟩ := q; exact ⟨us, by rw [upd_ne ne]; exact e, v.kx k (List.prefix_refl _)⟩
    | ins c xs => obtain ⟨dx, fs, e, en, em, v⟩ := q; exact ⟨dx, fs, by rw [upd_ne ne]; exact e, en, em, v.kx k (List.prefix_refl _)⟩
    | dic kvs => obtain ⟨xs, e, d⟩ := q; exact ⟨xs, by rw [upd_ne ne]; exact e, d.kx k (List.prefix_refl _)⟩
    | sdic kvs => obtain ⟨xs, ob, e, d⟩ := q; exact ⟨xs, ob, by rw [upd_ne ne]; exact e, d.kx k (List.prefix_refl _)⟩
theorem Step.cell {n : Nat} {a : Addr} {o : HO} (hm : μ[n]? = some a) (hz : ∀ ob u, H a ≠ some (.frz ob u)) : Step μ H μ (L2.upd H a o) := by
  have ha := List.mem_of_getElem? hm
  exact ⟨fun b u e nb _ => by rw [upd_ne (fun z => nb (by rw [z]; exact ha))]; exact e, fun b ps e nb => ⟨ps, by rw [upd_ne (fun z => nb (by rw [z]; exact ha))]; exact e⟩, List.prefix_refl _, fun _ h => .inl h, fun b ob u e => by rw [upd_ne (fun z => by subst z; exact hz ob u e)]; exact e⟩

/-- a store into a shared list, behind the value -/
def stSub (o ix : E Val) (x : Val) : C := fun ρ S => (o ρ S).stm ρ fun r S2 => (ix ρ S2).stm ρ fun k S3 => match r, k with
  | .ref n, .int k => match S3[n]? with
    | some (.lst xs) => match ixOf xs.length k with
      | some q => .go .nx ρ (S3.set n (.lst (xs.set q x)))
      | none => .sk
    | _ => .sk
  | _, _ => .sk
/-- what a target's outcome asks -/
def nxE (Q : St → Hp → Prop) : Ends := ⟨Q, fun _ _ => False, fun _ _ => False, fun _ _ => False⟩
/-- the reading of a target: m what it does with a value -/
def tG (G : GP) (N : Fns) (W : WX) (ex μ0 : List Addr) (H0 : Hp) (m : Val → C) : TG := fun v σ H Q => ∃ ρ S μ x, RelS G N ex μ0 H0 μ σ H ρ S ∧ VR G μ H x v ∧ OutS G N W ex μ0 H0 μ H (nxE Q) (m x ρ S)
theorem pg_imp {tg : Expr} {t t' : TG} (h : PG X tg t) (i : ∀ v σ H Q, t' v σ H Q → t v σ H Q) : PG X tg t' := ⟨fun pins s σ H v u Q I r q => h.run pins s σ H v u Q I r (i v σ H Q q)⟩
theorem pgs_imp {tg : List Expr} {t t' : TGs} (h : PGs X tg t) (i : ∀ v σ H Q, t' v σ H Q → t v σ H Q) : PGs X tg t' := ⟨fun pins s σ H v u Q I r q => h.run pins s σ H v u Q I r (i v σ H Q q)⟩
theorem fg_sub {o i : Expr} {mo mi : E Val} (ho : PE X o (tE G N W (MF G) mo)) (hi : PE X i (tE G N W (MB G) mi)) (ha : ∀ v, assign (.Subscript o i pos) X.env v = (do
      let ov ← holding [v] (eval o X.env)
      let iv ← holding [v, ov] (eval i X.env)
      standAt pos
      holding [v, ov, iv] (setItem ov iv v)
      release [v, ov, iv] []) := by intro _; rfl) : PG X (.Subscript o i pos) (tG G N W ex μ0 H0 (stSub mo mi)) :=
  pg_imp (pg_sub ho hi set_list ha) fun v σ H Q ⟨ρ, S, μ, x, R, hx, o⟩ => ⟨ρ, S, μ, R.rel, (stm_go R o).mono fun r S1 μ1 H1 st1 sr1 k1 u hu => ⟨ρ, S1, μ1, k1.2.rel, (stm_go k1.2 k1.1).mono fun k S2 μ2 H2 st2 sr2 k2 w hw => by
    obtain ⟨k2, R2⟩ := k2
    have hx2 := (hx.kx (st1.kx R.rel.st) st1.pre).kx (st2.kx sr1) st2.pre
    have hu2 := hu.kx (st2.kx sr1) st2.pre
    split at k2
    · rename_i n k
      have hw' := hw.dr sr2
      cases hw'.int
      split at k2
      · rename_i xs hS
        split at k2
        · rename_i q hq
          cases hu2 with
          | ref hm =>
            obtain ⟨us, e1, v1⟩ := sr2.at_ n _ _ hS hm
            have hq' : ixN us.length k = some q := by rw [← v1.length]; exact hq
            refine ⟨_, us, k, q, rfl, rfl, e1, hq', ?_⟩
            have st3 : Step μ2 H2 μ2 (upd H2 _ (.lst (us.set q v))) := Step.cell hm (fun ob u z => by rw [e1] at z; cases z)
            have k3 : Kx G H2 (upd H2 _ (.lst (us.set q v))) := st3.kx sr2
            have sr3 := sr2.set (c := .lst (xs.set q x)) (o := .lst (us.set q v)) hm (fun ob u z => by rw [e1] at z; cases z) ⟨_, upd_same, (v1.kx k3 (List.prefix_refl _)).set (hx2.kx k3 (List.prefix_refl _)) q⟩
            exact k2 μ2 σ _ (R2.step st3 sr3) (.of k3)
        · exact False.elim k2
      · exact False.elim k2
    · exact False.elim k2⟩⟩
/-- a target ends as it should, or nothing is told -/
def RS.nxo : RS → RS
  | .go .nx ρ S => .go .nx ρ S
  | .er e ρ S => .er e ρ S
  | _ => .sk
theorem OutS.nxo {D : Ends} {r : RS} (h : OutS G N W ex μ0 H0 μ H D r.nxo) : OutS G N W ex μ0 H0 μ H (nxE D.nx) r := by
  cases r with
  | sk => exact h
  | er e ρ S => exact h
  | go f ρ S =>
    cases f with
    | nx => exact h
    | _ => exact False.elim h
/-- t = e by a target's reading -/
def sAsgG (a : E Val) (g : Val → C) : C := fun ρ S => (a ρ S).stm ρ fun x S1 => (g x ρ S1).nxo
theorem fs_asgG {tg e : Expr} {me : E Val} {g : Val → C} (he : PE X e (tE G N W (MF G) me)) (hg : PG X tg (tG G N W ex μ0 H0 g)) (hs : swapsWithSole [tg] e pos.line X.env = pure false := by rfl) (hw : swappedStores [tg] e X.env = pure none := by rfl)
    (h1 : (assignEach [tg] X.env).map (·.2) = [assign tg X.env] := by rfl) : PS X (.Assign [tg] e pos) (tS G N W ex μ0 H0 (sAsgG me g)) :=
  ps_imp (ps_asg he hg hs hw h1) fun D σ H ⟨ρ, S, μ, R, o⟩ => ⟨ρ, S, μ, R.rel, (stm_go R o).mono fun v S1 μ1 H1 st sr k u hu => ⟨ρ, S1, μ1, v, k.2, hu, k.1.nxo⟩⟩
def stName (i : Nat) (x : Val) : C := fun ρ S => .go .nx (ρ.set i (.pl x)) S
theorem fg_name (i : Nat) {x : Str} (hN : X.N.Nodup) (hi : X.N[i]? = some x) (hx : Loc X.env.scope x) (hf : X.fn x = true ∨ X.env.scope.names.lookup x = some .local := by first | exact .inl rfl | exact .inr rfl | assumption) : PG X (.Name x pos) (tG G N W ex μ0 H0 (stName i)) :=
  pg_imp (pg_name hN hi hx hf) fun v σ H Q ⟨ρ, S, μ, x, R, hx, o⟩ => o μ _ H (R.setPl hx) Kp.refl
def stAll : List (Val → C) → List Val → C
  | [], [] => fun ρ S => .go .nx ρ S
  | g :: gs, v :: vs => fun ρ S => (g v ρ S).nxo.then fun ρ1 S1 => stAll gs vs ρ1 S1
  | _, _ => fun _ _ => .sk
def tGs (G : GP) (N : Fns) (W : WX) (ex μ0 : List Addr) (H0 : Hp) (gs : List (Val → C)) : TGs := fun us σ H Q => ∃ ρ S μ xs, RelS G N ex μ0 H0 μ σ H ρ S ∧ VRs G μ H xs us ∧ OutS G N W ex μ0 H0 μ H (nxE Q) (stAll gs xs ρ S)
theorem fgs_nil : PGs X [] (tGs G N W ex μ0 H0 []) :=
  pgs_imp pgs_nil fun v σ H Q ⟨ρ, S, μ, x, R, hx, o⟩ => by
    cases hx with
    | nil => exact ⟨rfl, o μ σ H R Kp.refl⟩
    | cons _ _ => exact False.elim o
theorem fgs_cons {e : Expr} {es : List Expr} {g : Val → C} {gs : List (Val → C)} (h1 : PG X e (tG G N W ex μ0 H0 g)) (h2 : PGs X es (tGs G N W ex μ0 H0 gs))
    (hs : (assignEach (e :: es) X.env).map (·.2) = assign e X.env :: (assignEach es X.env).map (·.2) := by rfl) : PGs X (e :: es) (tGs G N W ex μ0 H0 (g :: gs)) :=
  pgs_imp (pgs_cons h1 h2 hs) fun v σ H Q ⟨ρ, S, μ, x, R, hx, o⟩ => by
    cases hx with
    | nil => exact False.elim o
    | @cons x u xs us h r =>
      refine ⟨u, us, rfl, ρ, S, μ, x, R, h, ?_⟩
      have o1 : OutS G N W ex μ0 H0 μ H (nxE Q) ((g x ρ S).nxo.then fun ρ1 S1 => stAll gs xs ρ1 S1) := o
      cases hq : g x ρ S with
      | sk => rw [hq] at o1; exact o1
      | er e ρ' S' => rw [hq] at o1; exact o1
      | go f ρ' S' =>
        rw [hq] at o1
        cases f with
        | nx => exact fun μ' σ' H' R' k' => ⟨ρ', S', μ', xs, R', r.kp k', OutS.kx (r := stAll gs xs ρ' S') o1 k'⟩
        | bk => exact False.elim o1
        | ct => exact False.elim o1
        | rt v => exact False.elim o1
/-- (a, b, ..) = a tuple, or a list, of that length -/
def stTup (gs : List (Val → C)) (x : Val) : C := match x with
  | .tup xs => if xs.length = gs.length then stAll gs xs else fun _ _ => .sk
  | _ => fun _ _ => .sk
def stUnl (gs : List (Val → C)) (x : Val) : C := match x with
  | .lst xs => if xs.length = gs.length then stAll gs xs else fun _ _ => .sk
  | _ => fun _ _ => .sk
theorem fg_tup {es : List Expr} {k : Nat} {gs : List (Val → C)} (hK : X.K = G.K) (hc : X.calm = true) (h : PGs X es (tGs G N W ex μ0 H0 gs)) (hn : (assignEach es X.env).length = gs.length := by rfl) (hst : (assignEach es X.env).findIdx? (·.1) = none := by rfl) :
    PG X (.Tuple es k pos) (tG G N W ex μ0 H0 (stTup gs)) :=
  pg_imp (pg_tup (n := gs.length) hc h hn hst) fun v σ H Q ⟨ρ, S, μ, x, R, hx, o⟩ => by
    unfold stTup at o
    split at o
    · rename_i xs
      split at o
      · rename_i hl
        cases hx with
        | @tup a _ us t r => exact ⟨a, us, rfl, by rw [hK]; exact t, by rw [← r.length]; exact hl, ρ, S, μ, xs, R, r, o⟩
      · exact False.elim o
    · exact False.elim o
theorem fg_unl {es : List Expr} {k : Nat} {gs : List (Val → C)} (hK : X.K = G.K) (hc : X.calm = true) (h : PGs X es (tGs G N W ex μ0 H0 gs)) (hn : (assignEach es X.env).length = gs.length := by rfl) (hst : (assignEach es X.env).findIdx? (·.1) = none := by rfl) :
    PG X (.Tuple es k pos) (tG G N W ex μ0 H0 (stUnl gs)) :=
  pg_imp (pg_unl (n := gs.length) hc h hn hst) fun v σ H Q ⟨ρ, S, μ, x, R, hx, o⟩ => by
    unfold stUnl at o
    split at o
    · rename_i xs
      split at o
      · rename_i hl
        cases hx with
        | @lst a oo _ us t r => exact ⟨a, us, rfl, .inl (.inr ⟨_, t⟩), by rw [← r.length]; exact hl, ρ, S, μ, xs, R, r, o⟩
      · exact False.elim o
    · exact False.elim o

/-! ### values, new lists, functions, side by side -/
inductive SLs (G : GP) (N : Fns) (μ : List Addr) (He H : Hp) : List Slot → List V → Prop
  | nil : SLs G N μ He H [] []
  | pl {x : Val} {u : V} {ss : List Slot} {us : List V} : VR G μ H x u → SLs G N μ He H ss us → SLs G N μ He H (.pl x :: ss) (u :: us)
  | ow {p : Addr} {xs : List Val} {vs : List V} {ss : List Slot} {us : List V} : He p = none → H p = some (.lst vs) → VRs G μ H xs vs → p ∉ μ → (∀ (j : Nat) (ys : List Val), ss[j]? = some (.ow ys) → us[j]? ≠ some (.ref p)) → SLs G N μ He H ss us → SLs G N μ He H (.ow xs :: ss) (.ref p :: us)
  | pd {k : Nat} {u : V} {ss : List Slot} {us : List V} : N.pd k u H → SLs G N μ He H ss us → SLs G N μ He H (.pd k :: ss) (u :: us)
  | cl {k : Nat} {ρ : List Slot} {u : V} {ss : List Slot} {us : List V} : N.cl G k ρ u μ H → SLs G N μ He H ss us → SLs G N μ He H (.cl k ρ :: ss) (u :: us)
theorem SLs.back {He He' : Hp} (h : ∀ p, He' p = none → He p = none) : ∀ {ss : List Slot} {us : List V}, SLs G N μ He' H ss us → SLs G N μ He H ss us
  | _, _, .nil => .nil
  | _, _, .pl a r => .pl a (SLs.back h r)
  | _, _, .ow a b c d e r => .ow (h _ a) b c d e (SLs.back h r)
  | _, _, .pd a r => .pd a (SLs.back h r)
  | _, _, .cl a r => .cl a (SLs.back h r)
theorem SLs.ext {He : Hp} (e : ∀ a o, H a = some o → H' a = some o) : ∀ {ss : List Slot} {us : List V}, SLs G N μ He H ss us → SLs G N μ He H' ss us
  | _, _, .nil => .nil
  | _, _, .pl a r => .pl (a.kx (fun a o h _ => e a o h) (List.prefix_refl _)) (SLs.ext e r)
  | _, _, .ow a b c d f r => .ow a (e _ _ b) (c.kx (fun a o h _ => e a o h) (List.prefix_refl _)) d f (SLs.ext e r)
  | _, _, .pd a r => .pd (N.pdx G _ _ _ _ (fun a o h _ => e a o h) a) (SLs.ext e r)
  | _, _, .cl a r => .cl (N.clx G _ _ _ _ _ _ _ (fun a o h _ => e a o h) (List.prefix_refl _) a) (SLs.ext e r)
theorem SLs.new {He : Hp} : ∀ {ss : List Slot} {us : List V} {j : Nat} {ys : List Val} {p : Addr}, SLs G N μ He H ss us → ss[j]? = some (.ow ys) → us[j]? = some (.ref p) → He p = none
  | _, _, j, _, _, .nil, h, _ => by simp at h
  | _, _, 0, _, _, .pl a r, h, _ => by simp at h
  | _, _, 0, _, _, .pd a r, h, _ => by simp at h
  | _, _, 0, _, _, .cl a r, h, _ => by simp at h
  | _, _, 0, _, _, .ow a b c d e r, h, g => by simp at h g; rw [← g]; exact a
  | _, _, j + 1, _, _, .pl a r, h, g => SLs.new (j := j) r (by simpa using h) (by simpa using g)
  | _, _, j + 1, _, _, .pd a r, h, g => SLs.new (j := j) r (by simpa using h) (by simpa using g)
  | _, _, j + 1, _, _, .cl a r, h, g => SLs.new (j := j) r (by simpa using h) (by simpa using g)
  | _, _, j + 1, _, _, .ow a b c d e r, h, g => SLs.new (j := j) r (by simpa using h) (by simpa using g)
/-- the reading of such a list -/
def tL (G : GP) (N : Fns) (W : WX) (m : E (List Slot)) : TA := fun σ H Q => ∃ ρ S μ, Rel G N μ σ H ρ S ∧ Out G W σ μ H (m ρ S) fun ss _ μ' H' => ∀ us, SLs G N μ' H H' ss us → Q us H'
def lNil : E (List Slot) := fun _ S => .ok [] S
def lPl (a : E Val) (r : E (List Slot)) : E (List Slot) := fun ρ S => (a ρ S).bind fun x S1 => (r ρ S1).bind fun ss S2 => .ok (.pl x :: ss) S2
def lOw (a : E Val) (r : E (List Slot)) : E (List Slot) := fun ρ S => (a ρ S).bind fun x S1 => match x with
  | .lst xs => (r ρ S1).bind fun ss S2 => .ok (.ow xs :: ss) S2
  | _ => .sk
variable {a : Expr} {es : List Expr} {ma : E Val} {ml : E (List Slot)}
theorem fl_nil : PA X [] (tL G N W lNil) := pa_imp pa_nil fun σ H Q ⟨ρ, S, μ, R, o⟩ => o.ok R.st [] .nil
theorem fl_pl (ha : PE X a (tE G N W (MF G) ma)) (hr : PA X es (tL G N W ml)) (hs : starEach (a :: es) X.env = (false, eval a X.env) :: starEach es X.env := by rfl) : PA X (a :: es) (tL G N W (lPl ma ml)) :=
  pa_imp (pa_cons ha hr hs) fun σ H Q ⟨ρ, S, μ, R, o⟩ => ⟨ρ, S, μ, R, (Out.bind o).mono fun x S1 μ1 H1 st1 sr1 k1 u hu => ⟨ρ, S1, μ1, R.step st1 sr1, (Out.bind k1).mono fun y S2 μ2 H2 st2 sr2 k2 us hus =>
    k2 μ2 H2 Step.refl sr2 (u :: us) (.pl (hu.kx (st2.kx sr1) st2.pre) (hus.back fun p h => st1.fresh sr1 h))⟩⟩
theorem fl_ow (ha : PE X a (tE G N W (MN G) ma)) (hr : PA X es (tL G N W ml)) (hs : starEach (a :: es) X.env = (false, eval a X.env) :: starEach es X.env := by rfl) : PA X (a :: es) (tL G N W (lOw ma ml)) :=
  pa_imp (pa_cons ha hr hs) fun σ H Q ⟨ρ, S, μ, R, o⟩ => ⟨ρ, S, μ, R, (Out.bind o).mono fun x S1 μ1 H1 st1 sr1 k1 u hu => ⟨ρ, S1, μ1, R.step st1 sr1, by
    split at k1
    · rename_i xs
      refine (Out.bind k1).mono fun ss S2 μ2 H2 st2 sr2 k2 us hus => ?_
      rcases hu with ⟨p, xs', vs, e1, rfl, hn, np, hp, r⟩ | ⟨hu, _⟩
      · cases e1
        refine k2 μ2 H2 Step.refl sr2 (.ref p :: us) (.ow hn (st2.keep p _ hp np rfl) (r.kx (st2.kx sr1) st2.pre) (fun z => (st2.new p z).elim np fun q => by rw [hp] at q; cases q) (fun j ys h1 h2 => ?_) (hus.back fun p h => st1.fresh sr1 h))
        have q := hus.new h1 h2
        rw [hp] at q; cases q
      · exact absurd rfl (hu xs)
    · exact False.elim k1⟩⟩
def setN {α : Type} : List Nat → List α → List α → List α
  | i :: is, x :: xs, l => setN is xs (l.set i x)
  | _, _, l => l
theorem RelS.setPd {i : Nat} {s : Slot} {u : V} (R : RelS G N ex μ0 H0 μ σ H ρ S) (h : (∃ k, s = .pd k ∧ N.pd k u H) ∨ ∃ k r, s = .cl k r ∧ N.cl G k r u μ H) : RelS G N ex μ0 H0 μ (σ.set i (some u)) H (ρ.set i s) S := by
  have hs : SR G N.pd (N.cl G) μ H s (some u) := by
    rcases h with ⟨k, rfl, h⟩ | ⟨k, r, rfl, h⟩
    · exact ⟨u, rfl, h⟩
    · exact ⟨u, rfl, h⟩
  have n1 : ∀ xs, s ≠ .ow xs := fun xs => by rcases h with ⟨k, rfl, h⟩ | ⟨k, r, rfl, h⟩ <;> exact fun e => by cases e
  have n2 : ∀ c xs, s ≠ .ob c xs := fun c xs => by rcases h with ⟨k, rfl, h⟩ | ⟨k, r, rfl, h⟩ <;> exact fun e => by cases e
  refine ⟨⟨by simpa using R.rel.len, fun j s' o h1 h2 => ?_, fun j k xs ys p h1 h2 h3 h4 => ?_, R.rel.st⟩, R.st0, R.exm, fun j xs p h1 h2 => ?_, fun j c xs p h1 h2 => ?_⟩
  · rcases set_get h1 with ⟨rfl, rfl⟩ | ⟨m1, h1⟩
    · rcases set_get h2 with ⟨_, rfl⟩ | ⟨m2, _⟩
      · exact hs
      · exact absurd rfl m2
    · rcases set_get h2 with ⟨m2, _⟩ | ⟨_, h2⟩
      · exact absurd m2 m1
      · exact R.rel.at_ j s' o h1 h2
  · rcases set_get h1 with ⟨_, e⟩ | ⟨m1, h1⟩
    · exact absurd e.symm (n1 _)
    · rcases set_get h2 with ⟨_, e⟩ | ⟨m2, h2⟩
      · exact absurd e.symm (n1 _)
      · rcases set_get h3 with ⟨e, _⟩ | ⟨_, h3⟩
        · exact absurd e m1
        · rcases set_get h4 with ⟨e, _⟩ | ⟨_, h4⟩
          · exact absurd e m2
          · exact R.rel.own j k xs ys p h1 h2 h3 h4
  · rcases set_get h1 with ⟨_, e⟩ | ⟨m1, h1⟩
    · exact absurd e.symm (n1 _)
    · rcases set_get h2 with ⟨e, _⟩ | ⟨_, h2⟩
      · exact absurd e m1
      · exact R.own j xs p h1 h2
  · rcases set_get h1 with ⟨_, e⟩ | ⟨m1, h1⟩
    · exact absurd e.symm (n2 _ _)
    · rcases set_get h2 with ⟨e, _⟩ | ⟨_, h2⟩
      · exact absurd e m1
      · exact R.obj j c xs p h1 h2
theorem RelS.setN {He : Hp} (h0 : ∀ p, He p = none → H0 p = none) : ∀ {is : List Nat} {ss : List Slot} {us : List V} {σ : St} {ρ : Env}, RelS G N ex μ0 H0 μ σ H ρ S → SLs G N μ He H ss us →
    (∀ (j : Nat) (ys : List Val) (q : Addr), ρ[j]? = some (.ow ys) → σ[j]? = some (some (.ref q)) → ∀ (k : Nat) (zs : List Val), ss[k]? = some (.ow zs) → us[k]? ≠ some (.ref q)) →
    RelS G N ex μ0 H0 μ (KL.setN is (us.map some) σ) H (KL.setN is ss ρ) S
  | [], _, _, _, _, R, _, _ => R
  | _ :: _, [], _, _, _, R, .nil, _ => R
  | i :: is, _, _, σ, ρ, R, .pl (x := x) (u := u) h r, f => RelS.setN (is := is) (σ := σ.set i (some u)) (ρ := ρ.set i (.pl x)) h0 (R.setPl h) r fun j ys q h1 h2 k zs h3 h4 => by
    rcases set_get h1 with ⟨_, e⟩ | ⟨m1, h1⟩
    · cases e
    · rcases set_get h2 with ⟨e, _⟩ | ⟨_, h2⟩
      · exact absurd e m1
      · exact f j ys q h1 h2 (k + 1) zs (by simpa using h3) (by simpa using h4)
  | i :: is, _, _, σ, ρ, R, .pd (k := k) (u := u) h r, f => RelS.setN (is := is) (σ := σ.set i (some u)) (ρ := ρ.set i (.pd k)) h0 (R.setPd (.inl ⟨_, rfl, h⟩)) r fun j ys q h1 h2 k zs h3 h4 => by
    rcases set_get h1 with ⟨_, e⟩ | ⟨m1, h1⟩
    · cases e
    · rcases set_get h2 with ⟨e, _⟩ | ⟨_, h2⟩
      · exact absurd e m1
      · exact f j ys q h1 h2 (k + 1) zs (by simpa using h3) (by simpa using h4)
  | i :: is, _, _, σ, ρ, R, .cl (k := k) (ρ := ρc) (u := u) h r, f => RelS.setN (is := is) (σ := σ.set i (some u)) (ρ := ρ.set i (.cl k ρc)) h0 (R.setPd (.inr ⟨_, _, rfl, h⟩)) r fun j ys q h1 h2 k zs h3 h4 => by
    rcases set_get h1 with ⟨_, e⟩ | ⟨m1, h1⟩
    · cases e
    · rcases set_get h2 with ⟨e, _⟩ | ⟨_, h2⟩
      · exact absurd e m1
      · exact f j ys q h1 h2 (k + 1) zs (by simpa using h3) (by simpa using h4)
  | i :: is, _, _, σ, ρ, R, .ow (p := p) (xs := xs) a b c d e r, f => by
    have R' := R.setOw (i := i) b c d (fun j ys _ h1 h2 => f j ys p h1 h2 0 xs rfl rfl) (h0 p a)
    refine RelS.setN (is := is) (σ := σ.set i (some (.ref p))) (ρ := ρ.set i (.ow xs)) h0 R' r fun j ys q h1 h2 k zs h3 h4 => ?_
    rcases set_get h1 with ⟨e1, e2⟩ | ⟨m1, h1⟩
    · rcases set_get h2 with ⟨_, e3⟩ | ⟨m2, _⟩
      · cases e3
        exact e k zs h3 h4
      · exact absurd e1 m2
    · rcases set_get h2 with ⟨e, _⟩ | ⟨_, h2⟩
      · exact absurd e m1
      · exact f j ys q h1 h2 (k + 1) zs (by simpa using h3) (by simpa using h4)
/-- a, b, .. = x, y, .. -/
def sPN (is : List Nat) (a : E (List Slot)) : C := fun ρ S => (a ρ S).stm ρ fun ss S1 => if ss.length = is.length then .go .nx (setN is ss ρ) S1 else .sk
theorem SLs.length {He : Hp} : ∀ {ss : List Slot} {us : List V}, SLs G N μ He H ss us → ss.length = us.length
  | _, _, .nil => rfl
  | _, _, .pl _ r => congrArg (· + 1) r.length
  | _, _, .ow _ _ _ _ _ r => congrArg (· + 1) r.length
  | _, _, .pd _ r => congrArg (· + 1) r.length
  | _, _, .cl _ r => congrArg (· + 1) r.length
theorem pn_imp {is : List Nat} {ms : E (List Slot)} {D : Ends} (R : RelS G N ex μ0 H0 μ σ H ρ S) (o : OutS G N W ex μ0 H0 μ H D (sPN is ms ρ S)) : tL G N W ms σ H fun us H1 => us.length = is.length ∧ D.nx (KL.setN is (us.map some) σ) H1 :=
  ⟨ρ, S, μ, R.rel, (stm_go R o).mono fun ss S1 μ1 H1 st sr k us hus => by
    obtain ⟨k1, k2⟩ := k
    split at k1
    · rename_i hl
      refine ⟨by rw [← hus.length]; exact hl, k1 μ1 _ H1 (k2.setN (is := is) (He := H) (fun p hp => R.st0.fresh R.rel.st hp) hus fun j ys q h1 h2 k zs h3 h4 => ?_) Kp.refl⟩
      obtain ⟨o, e1, q', us', e2, e3, _⟩ := R.rel.slot h1
      rw [h2] at e1; cases e1
      cases e2
      rw [hus.new h3 h4] at e3; cases e3
    · exact False.elim k1⟩
theorem len2 {α : Type} {us : List α} (h : us.length = 2) : ∃ v w, us = [v, w] := by
  match us, h with
  | [v, w], _ => exact ⟨v, w, rfl⟩
theorem len3 {α : Type} {us : List α} (h : us.length = 3) : ∃ u v w, us = [u, v, w] := by
  match us, h with
  | [u, v, w], _ => exact ⟨u, v, w, rfl⟩
theorem fs_par (i j : Nat) {x y : Str} {a b : Expr} {ms : E (List Slot)} {px py pt : Pos} {kt k2 pt2} (hc : X.calm = true) (hN : X.N.Nodup) (hi : X.N[i]? = some x) (hj : X.N[j]? = some y) (hij : i ≠ j)
    (hx : X.env.scope.names.lookup x = some .local) (hy : X.env.scope.names.lookup y = some .local) (ha : PA X [a, b] (tL G N W ms))
    (hw : swappedStores [.Tuple [.Name x px, .Name y py] kt pt] (.Tuple [a, b] k2 pt2) X.env = pure (some [x, y]))
    (hs : swapsWithSole [.Tuple [.Name x px, .Name y py] kt pt] (.Tuple [a, b] k2 pt2) pos.line X.env = pure false := by rfl) :
    PS X (.Assign [.Tuple [.Name x px, .Name y py] kt pt] (.Tuple [a, b] k2 pt2) pos) (tS G N W ex μ0 H0 (sPN [i, j] ms)) :=
  ps_imp (ps_par hc hN hi hj hij hx hy ha hw hs) fun D σ H ⟨ρ, S, μ, R, o⟩ => by
    obtain ⟨ρ', S', μ', R', o'⟩ := pn_imp R o
    refine ⟨ρ', S', μ', R', o'.mono fun ss S1 μ1 H1 st sr k us hus => ?_⟩
    obtain ⟨h1, h2⟩ := k us hus
    obtain ⟨v, w, rfl⟩ := len2 h1
    exact ⟨v, w, rfl, h2⟩
theorem fs_par3 (i j l : Nat) {x y z : Str} {a b c : Expr} {ms : E (List Slot)} {px py pz pt pos : Pos} {kt k2 pt2} (hc : X.calm = true) (hN : X.N.Nodup) (hi : X.N[i]? = some x) (hj : X.N[j]? = some y) (hl : X.N[l]? = some z) (hij : i ≠ j) (hil : i ≠ l) (hjl : j ≠ l)
    (hx : X.env.scope.names.lookup x = some .local) (hy : X.env.scope.names.lookup y = some .local) (hz : X.env.scope.names.lookup z = some .local) (ha : PA X [a, b, c] (tL G N W ms))
    (hw : swappedStores [.Tuple [.Name x px, .Name y py, .Name z pz] kt pt] (.Tuple [a, b, c] k2 pt2) X.env = pure (some [x, y, z]))
    (hs : swapsWithSole [.Tuple [.Name x px, .Name y py, .Name z pz] kt pt] (.Tuple [a, b, c] k2 pt2) pos.line X.env = pure false := by rfl) :
    PS X (.Assign [.Tuple [.Name x px, .Name y py, .Name z pz] kt pt] (.Tuple [a, b, c] k2 pt2) pos) (tS G N W ex μ0 H0 (sPN [i, j, l] ms)) :=
  ps_imp (ps_par3 hc hN hi hj hl hij hil hjl hx hy hz ha hw hs) fun D σ H ⟨ρ, S, μ, R, o⟩ => by
    obtain ⟨ρ', S', μ', R', o'⟩ := pn_imp R o
    refine ⟨ρ', S', μ', R', o'.mono fun ss S1 μ1 H1 st sr k us hus => ?_⟩
    obtain ⟨h1, h2⟩ := k us hus
    obtain ⟨u, v, w, rfl⟩ := len3 h1
    exact ⟨u, v, w, rfl, h2⟩
/-- names as targets, one after another -/
def tNm (is : List Nat) : TGs := fun us σ H Q => us.length = is.length ∧ Q (setN is (us.map some) σ) H
theorem fn_nil : PGs X [] (tNm []) := pgs_imp pgs_nil fun v σ H Q ⟨h1, h2⟩ => by
  cases v with
  | nil => exact ⟨rfl, h2⟩
  | cons _ _ => cases h1
theorem fn_cons (i : Nat) {is : List Nat} {x : Str} {p : Pos} {es : List Expr} (hN : X.N.Nodup) (hi : X.N[i]? = some x) (hx : Loc X.env.scope x) (h2 : PGs X es (tNm is)) (hf : X.fn x = true ∨ X.env.scope.names.lookup x = some .local := by first | exact .inl rfl | exact .inr rfl | assumption)
    (hs : (assignEach (.Name x p :: es) X.env).map (·.2) = assign (.Name x p) X.env :: (assignEach es X.env).map (·.2) := by rfl) : PGs X (.Name x p :: es) (tNm (i :: is)) :=
  pgs_imp (pgs_cons (pg_name hN hi hx hf) h2 hs) fun v σ H Q ⟨h1, h2⟩ => by
    cases v with
    | nil => cases h1
    | cons u us => exact ⟨u, us, rfl, by simpa using h1, h2⟩
theorem fs_parT {is : List Nat} {ts es : List Expr} {ms : E (List Slot)} {pt pt2 : Pos} {kt k2 : Nat} (hc : X.calm = true) (ht : PGs X ts (tNm is)) (ha : PA X es (tL G N W ms)) (hsz : is.length ≤ 1000 := by decide)
    (hn : (assignEach ts X.env).length = is.length := by rfl) (hst : (assignEach ts X.env).findIdx? (·.1) = none := by rfl) (hs : swapsWithSole [.Tuple ts kt pt] (.Tuple es k2 pt2) pos.line X.env = pure false := by rfl) (hw : swappedStores [.Tuple ts kt pt] (.Tuple es k2 pt2) X.env = pure none := by rfl)
    (h1 : (assignEach [.Tuple ts kt pt] X.env).map (·.2) = [assign (.Tuple ts kt pt) X.env] := by rfl) : PS X (.Assign [.Tuple ts kt pt] (.Tuple es k2 pt2) pos) (tS G N W ex μ0 H0 (sPN is ms)) :=
  ps_imp (ps_asg (pe_tup ha) (pg_tup (n := is.length) hc ht hn hst) hs hw h1) fun D σ H ⟨ρ, S, μ, R, o⟩ => by
    refine ⟨ρ, S, μ, R.rel, (stm_go R o).mono fun ss S1 μ1 H1 st sr k us hus => ?_⟩
    obtain ⟨k1, k2⟩ := k
    split at k1
    · rename_i hl
      have hl2 : us.length = is.length := by rw [← hus.length]; exact hl
      have bl : (1000 : Nat) ≤ sizeLine := by decide
      refine ⟨by omega, fun p hp => ?_⟩
      have st2 : Step μ1 H1 μ1 (upd H1 p (.tup us)) := Step.made hp
      have R2 := k2.step st2 (sr.ext (ext_upd hp))
      refine ⟨p, us, rfl, .inl (.inl upd_same), hl2, hl2, ?_⟩
      refine k1 μ1 _ _ (R2.setN (is := is) (He := H) (fun p hp => R.st0.fresh R.rel.st hp) ?_ fun j ys q h1 h2 k zs h3 h4 => ?_) (st2.kp sr)
      · exact hus.ext (ext_upd hp)
      · obtain ⟨o, e1, q', us', e2, e3, _⟩ := R.rel.slot h1
        rw [h2] at e1; cases e1
        cases e2
        rw [hus.new h3 h4] at e3; cases e3
    · exact False.elim k1
end
end KL

set_option linter.all false
set_option maxRecDepth 100000
set_option maxHeartbeats 1000000
/-! KStm3: return, raise, loops. -/
namespace KL
open PySem L2
section
variable {G : GP} {N : Fns} {W : WX} {X : Cx} {ex μ0 μ μ' : List Addr} {H0 H H' : Hp} {σ : St} {ρ : Env} {S S' : Store} {st : Stmt} {rest : List Stmt} {m m' : C} {e : Expr} {me : E Val} {pos : Pos}

/-! ### an own list is let go -/
def frzI (ρ : Env) (i : Nat) : Env := match ρ[i]? with
  | some (.ow xs) => ρ.set i (.pl (.lst xs))
  | _ => ρ
def sFr (i : Nat) (m : C) : C := fun ρ S => m (frzI ρ i) S
theorem Rel.frz {i : Nat} {xs : List Val} {us : List V} {p : Addr} {o : Obj} (R : Rel G N μ σ H ρ S) (h : ρ[i]? = some (.ow xs)) (e : σ[i]? = some (some (.ref p))) (hp : H p = some (.lst us)) (r : VRs G μ H xs us) (np : p ∉ μ) : Rel G N μ σ (upd H p (.frz o (.lst us))) (ρ.set i (.pl (.lst xs))) S := by
  have nf := R.ow_nf h e
  have k : Kx G H (upd H p (.frz o (.lst us))) := kx_upd nf
  refine ⟨by simpa using R.len, fun j s o h1 h2 => ?_, fun j k ys zs q h1 h2 h3 h4 => ?_, R.st.upd np nf⟩
  · rcases set_get h1 with ⟨rfl, rfl⟩ | ⟨n1, h1⟩
    · rw [e] at h2; cases h2
      exact ⟨_, rfl, .lst upd_same (r.kx k (List.prefix_refl _))⟩
    · have q := R.at_ j s o h1 h2
      cases s with
      | un => trivial
      | pl x => obtain ⟨u, e, v⟩ := q; exact ⟨u, e, v.kx k (List.prefix_refl _)⟩
      | ow ys =>
        obtain ⟨p2, vs, rfl, h3, v, n⟩ := q
        have ne : p2 ≠ p := fun z => n1 (R.own j i ys xs p2 h1 h (by rw [h2]) (by rw [e, z]))
        exact ⟨p2, vs, rfl, by rw [upd_ne ne]; exact h3, v.kx k (List.prefix_refl _), n⟩
      | ob c ys =>
        obtain ⟨a, dx, fs, rfl, h3, v⟩ := q
        have ne : a ≠ p := fun z => by rw [z, hp] at h3; cases h3
        obtain ⟨v1, v2, v3, v4, v5⟩ := v
        exact ⟨a, dx, fs, rfl, by rw [upd_ne ne]; exact h3, v1, v2, v3, v4.kx k (List.prefix_refl _), v5⟩
      | pd n => obtain ⟨u, e, v⟩ := q; exact ⟨u, e, N.pdx _ _ _ _ _ k v⟩
      | cl n r => obtain ⟨u, e, v⟩ := q; exact ⟨u, e, N.clx _ _ _ _ _ _ _ _ k (List.prefix_refl _) v⟩
  · rcases set_get h1 with ⟨_, e1⟩ | ⟨n1, g1⟩
    · cases e1
    · rcases set_get h2 with ⟨_, e2⟩ | ⟨n2, g2⟩
      · cases e2
      · exact R.own j k ys zs q g1 g2 h3 h4
theorem RelS.frz {i : Nat} {xs : List Val} {us : List V} {p : Addr} {o : Obj} (R : RelS G N ex μ0 H0 μ σ H ρ S) (h : ρ[i]? = some (.ow xs)) (e : σ[i]? = some (some (.ref p))) (hp : H p = some (.lst us)) (r : VRs G μ H xs us) (np : p ∉ μ) : RelS G N ex μ0 H0 μ σ (upd H p (.frz o (.lst us))) (ρ.set i (.pl (.lst xs))) S where
  rel := R.rel.frz h e hp r np
  st0 := R.st0.upd (.inl (R.own i xs p h e))
  exm := R.exm
  own := fun j ys q h1 h2 => by
    rcases set_get h1 with ⟨_, e⟩ | ⟨n1, h1⟩
    · cases e
    · exact R.own _ ys q h1 h2
  obj := fun j c ys q h1 h2 => by
    rcases set_get h1 with ⟨_, e⟩ | ⟨n1, h1⟩
    · cases e
    · exact R.obj j c ys q h1 h2
theorem fs_fr (i : Nat) (h : PS X st (tS G N W ex μ0 H0 m)) : PS X st (tS G N W ex μ0 H0 (sFr i m)) := by
  refine ⟨fun pins s σ H D I ⟨ρ, S, μ, R, o⟩ => ?_⟩
  unfold sFr frzI at o
  split at o
  · rename_i xs hx
    obtain ⟨p, us, e, hp, r, np⟩ := R.rel.ow_at hx
    obtain ⟨ob, I2⟩ := freeze I hp
    refine h.run pins s σ _ D I2 ⟨_, S, μ, R.frz hx e hp r np, OutS.kx (r := m _ S) o (.of (kx_upd (R.rel.ow_nf hx e)))⟩
  · exact h.run pins s σ H D I ⟨ρ, S, μ, R, o⟩

/-! ### return, raise -/
def sRt (a : E Val) : C := fun ρ S => (a ρ S).stm ρ fun x S1 => .go (.rt x) ρ S1
theorem fs_ret (he : PE X e (tE G N W (MF G) me)) : PS X (.Return (some e) pos) (tS G N W ex μ0 H0 (sRt me)) :=
  ps_imp (ps_ret he) fun D σ H ⟨ρ, S, μ, R, o⟩ => ⟨ρ, S, μ, R.rel, (stm_go R o).mono fun x S1 μ1 H1 st sr k u hu => k.1 μ1 σ H1 k.2 Kp.refl u hu⟩
theorem fs_retN : PS X (.Return none pos) (tS G N W ex μ0 H0 sRetN) :=
  ps_imp ps_retN fun D σ H ⟨ρ, S, μ, R, o⟩ => o μ σ H R Kp.refl .non .non
def sBrk : C := fun ρ S => .go .bk ρ S
def sCnt : C := fun ρ S => .go .ct ρ S
theorem fs_break : PS X (.Break pos) (tS G N W ex μ0 H0 sBrk) := ps_imp ps_break fun D σ H ⟨ρ, S, μ, R, o⟩ => o μ σ H R Kp.refl
theorem fs_cont : PS X (.Continue pos) (tS G N W ex μ0 H0 sCnt) := ps_imp ps_continue fun D σ H ⟨ρ, S, μ, R, o⟩ => o μ σ H R Kp.refl
theorem fs_doc {x : Str} {j pos pos'} : PS X (.Expr (.Constant (.str x) j pos) pos') (tS G N W ex μ0 H0 sNil) := ps_imp ps_doc fun D σ H ⟨ρ, S, μ, R, o⟩ => o μ σ H R Kp.refl
/-- an expression that makes an exception -/
def tMk (G : GP) (N : Fns) (W : WX) (m : E Val) : St → Hp → XK → Prop := fun σ H Q => ∃ ρ S μ, Rel G N μ σ H ρ S ∧ Out G W σ μ H (m ρ S) fun v _ μ' H' => ∀ cls d, ER G μ' H' cls d v → Q cls d H'
theorem fs_raise {pos : Pos} (hc : X.calm = true) (tk : Takes X W) (he : PMk X e (tMk G N W me)) : PS X (.Raise (some e) none pos) (tS G N W ex μ0 H0 (sRaise me)) :=
  ps_imp (ps_raise hc tk he) fun D σ H ⟨ρ, S, μ, R, o⟩ => ⟨ρ, S, μ, R.rel, (stm_go R o).mono fun x S1 μ1 H1 st sr k cls d er => k.1 cls d μ1 σ H1 k.2 Kp.refl er⟩

/-! ### what is walked -/
def ItAt (G : GP) (μ : List Addr) (H : Hp) (xs : List Val) (J : It) : Prop := (∀ (i : Nat) (x : Val), xs[i]? = some x → J.go i H ∧ ∀ u H3, J.yld i H u H3 → (∀ a o, H a = some o → H3 a = some o) ∧ VR G μ H3 x u) ∧ J.stop xs.length H
/-- for good -/
def ItF (G : GP) (μ : List Addr) (H : Hp) (xs : List Val) (J : It) : Prop := ∀ μ2 H2, Kp G μ H μ2 H2 → ItAt G μ2 H2 xs J
/-- while nothing but new objects and shared things change -/
def ItB (G : GP) (μ : List Addr) (H : Hp) (xs : List Val) (J : It) : Prop := ∀ μ2 H2, Step μ H μ2 H2 → Kp G μ H μ2 H2 → ItAt G μ2 H2 xs J
abbrev MdI := List Addr → Hp → List Val → It → Prop
def tI (G : GP) (N : Fns) (W : WX) (L : MdI) (m : E (List Val)) : TI := fun σ H R => ∃ ρ S μ, Rel G N μ σ H ρ S ∧ Out G W σ μ H (m ρ S) fun xs _ μ' H' => ∀ J, L μ' H' xs J → R J H'
theorem pi_imp {tg e : Expr} {t t' : TI} (h : PI X tg e t) (i : ∀ σ H Q, t' σ H Q → t σ H Q) : PI X tg e t' := ⟨fun pins s σ H Q I q => h.run pins s σ H Q I (i σ H Q q)⟩
theorem fi_fb {tg : Expr} {mi : E (List Val)} (h : PI X tg e (tI G N W (ItF G) mi)) : PI X tg e (tI G N W (ItB G) mi) :=
  pi_imp h fun σ H Q ⟨ρ, S, μ, R, o⟩ => ⟨ρ, S, μ, R, o.mono fun xs S1 μ1 H1 st sr k J hJ => k J fun μ2 H2 _ k2 => hJ μ2 H2 k2⟩

/-! ### for -/
def forG (g : Val → C) (b : C) : List Val → C
  | [] => fun ρ S => .go .nx ρ S
  | x :: xs => fun ρ S => (g x ρ S).nxo.then fun ρ1 S1 => match b ρ1 S1 with
    | .go .nx ρ2 S2 => forG g b xs ρ2 S2
    | .go .ct ρ2 S2 => forG g b xs ρ2 S2
    | .go .bk ρ2 S2 => .go .nx ρ2 S2
    | r => r
def sForG (it : E (List Val)) (g : Val → C) (b : C) : C := fun ρ S => (it ρ S).stm ρ fun xs S1 => forG g b xs ρ S1
theorem nxo_go {r : RS} {f : Env → Store → RS} {D : Ends} (h : OutS G N W ex μ0 H0 μ H D (r.nxo.then f)) :
    OutS G N W ex μ0 H0 μ H (nxE fun σ' H' => ∃ ρ' S' μ', RelS G N ex μ0 H0 μ' σ' H' ρ' S' ∧ Kp G μ H μ' H' ∧ OutS G N W ex μ0 H0 μ' H' D (f ρ' S')) r := by
  cases r with
  | sk => exact h
  | er e ρ' S' => exact h
  | go fl ρ' S' =>
    cases fl with
    | nx => exact fun μ' σ' H' R k => ⟨ρ', S', μ', R, k, OutS.kx (r := f ρ' S') h k⟩
    | bk => exact False.elim h
    | ct => exact False.elim h
    | rt v => exact False.elim h
theorem OutS.imp {P Q : St → Hp → Prop} {r : RS} (h : OutS G N W ex μ0 H0 μ H (nxE P) r) (i : ∀ σ H, P σ H → Q σ H) : OutS G N W ex μ0 H0 μ H (nxE Q) r := by
  cases r with
  | sk => exact h
  | er e ρ' S' => exact h
  | go fl ρ' S' =>
    cases fl with
    | nx => exact fun μ' σ' H' R k => i _ _ (h μ' σ' H' R k)
    | bk => exact h
    | ct => exact h
    | rt v => exact h
/-- a turn's outcome -/
theorem turn_go {r : RS} {f : Env → Store → RS} {D : Ends} (h : OutS G N W ex μ0 H0 μ H D (match r with
      | .go .nx ρ2 S2 => f ρ2 S2
      | .go .ct ρ2 S2 => f ρ2 S2
      | .go .bk ρ2 S2 => .go .nx ρ2 S2
      | r => r)) {Nx : St → Hp → Prop} (hn : ∀ ρ' S' μ' σ' H', RelS G N ex μ0 H0 μ' σ' H' ρ' S' → Kp G μ H μ' H' → OutS G N W ex μ0 H0 μ' H' D (f ρ' S') → Nx σ' H') :
    OutS G N W ex μ0 H0 μ H { D with nx := Nx, ct := Nx, bk := D.nx } r := by
  cases r with
  | sk => exact h
  | er e ρ' S' => exact h
  | go fl ρ' S' =>
    cases fl with
    | nx => exact fun μ' σ' H' R k => hn ρ' S' μ' σ' H' R k (OutS.kx (r := f ρ' S') h k)
    | ct => exact fun μ' σ' H' R k => hn ρ' S' μ' σ' H' R k (OutS.kx (r := f ρ' S') h k)
    | bk => exact h
    | rt v => exact h
theorem fs_for {tg iter : Expr} {body : List Stmt} {mi : E (List Val)} {g : Val → C} {mb : C} (hp : PassesOwn (model X.prog X.w) X.A X.env X.xe) (hc : X.calm = true) (hi : PI X tg iter (tI G N W (ItF G) mi)) (hg : PG X tg (tG G N W ex μ0 H0 g)) (hb : PSs X body (tS G N W ex μ0 H0 mb))
    (hs : ∀ x, foldedSetIterable iter X.env x = pure x := by intro _; rfl) : PS X (.For tg iter body [] pos) (tS G N W ex μ0 H0 (sForG mi g mb)) :=
  ps_imp (ps_for hp hc hi hg hb hs) fun D σ H ⟨ρ, S, μ, R, o⟩ => ⟨ρ, S, μ, R.rel, (stm_go R o).mono fun xs S1 μ1 H1 st sr k J hJ => by
    obtain ⟨k1, k2⟩ := k
    refine ⟨fun i n σ H => n = xs.length - i ∧ i ≤ xs.length ∧ ∃ ρ S μ, RelS G N ex μ0 H0 μ σ H ρ S ∧ Kp G μ1 H1 μ H ∧ OutS G N W ex μ0 H0 μ H D (forG g mb (xs.drop i) ρ S), ⟨xs.length, rfl, Nat.zero_le _, ρ, S1, μ1, k2, Kp.refl, k1⟩, ?_⟩
    rintro i n σ2 H2 ⟨rfl, hi, ρ2, S2, μ2, R2, kp, o2⟩
    have it := hJ μ2 H2 kp
    by_cases hlt : i < xs.length
    · refine .inr ⟨(it.1 i xs[i] (List.getElem?_eq_getElem hlt)).1, fun σ' H' => ∃ ρ S μ, RelS G N ex μ0 H0 μ σ' H' ρ S ∧ Kp G μ1 H1 μ H' ∧ OutS G N W ex μ0 H0 μ H' D (forG g mb (xs.drop (i + 1)) ρ S), fun σ' H' q => ⟨xs.length - (i + 1), by omega, rfl, hlt, q⟩, fun u H3 y => ?_⟩
      obtain ⟨ext, hu⟩ := (it.1 i xs[i] (List.getElem?_eq_getElem hlt)).2 u H3 y
      have st3 : Step μ2 H2 μ2 H3 := Step.ext ext
      have R3 := R2.step st3 (R2.rel.st.ext ext)
      have kp3 : Kp G μ1 H1 μ2 H3 := kp.trans (st3.kp R2.rel.st)
      rw [List.drop_eq_getElem_cons hlt] at o2
      refine ⟨ρ2, S2, μ2, xs[i], R3, hu, ?_⟩
      have o3 : OutS G N W ex μ0 H0 μ2 H3 D ((g xs[i] ρ2 S2).nxo.then _) := OutS.kx o2 (st3.kp R2.rel.st)
      have o4 := nxo_go o3
      refine OutS.imp o4 fun σ' H' ⟨ρ', S', μ', R', k', o'⟩ => ⟨ρ', S', μ', R', turn_go (f := fun ρ S => forG g mb (List.drop (i + 1) xs) ρ S) o' fun ρ4 S4 μ4 σ4 H4 R4 k4 o5 => ⟨ρ4, S4, μ4, R4, (kp3.trans k').trans k4, o5⟩⟩
    · have e : i = xs.length := by omega
      subst e
      rw [List.drop_length] at o2
      exact .inl ⟨it.2, o2 μ2 σ2 H2 R2 Kp.refl⟩⟩
end
end KL

set_option linter.all false
set_option maxRecDepth 100000
set_option maxHeartbeats 1000000
/-! KIter: what is walked: sequences, ranges, enumerate, zip; while. -/
namespace PySem
set_option maxHeartbeats 1000000 in
theorem kl_enum_new {v : Value} {o : Obj} {H : Heap → Prop} (B : Begins v o H) :
    Meets (Builtin.«enumerate.__new__» ⟨[.type "enumerate", v], []⟩) (fun _ R s => H s.heap ∧
      R (.ok (.ret (.ref (s.heap.push o).objs.size))) { s with heap := (s.heap.push o).push { cls := .type "enumerate", data := .fields #[.none, .bool false, .ref s.heap.objs.size, rawInt 0, .none, .none] } }) :=
  .of_wp fun prog w A R s h => by
    obtain ⟨hp, g, d, tk, os⟩ := s; obtain ⟨h1, h⟩ := h
    have hsub := sub_enumerate
    have q1 : ∀ {A' : Around} {E : Value → Shared → Prop} {Q : Value → Shared → Prop}, Q (.ref hp.objs.size) ⟨hp.push o, g, d, tk, os⟩ → wpAny (model prog w) A' (pyIter v) Q E ⟨hp, g, d, tk, os⟩ :=
      fun q => B.iter prog w _ _ ⟨hp, g, d, tk, os⟩ _ h1 q
    wp_walk using q1
    refine wpAny_stack_any fun st => wpAny_pure ?_
    split
    · rename_i c _ _ _ _ _
      cases (c == Value.type "enumerate") <;> (wp_walk using q1; exact ⟨_, rfl, h⟩)
    · wp_walk using q1
      exact ⟨_, rfl, h⟩
theorem kl_enum_call {prog : Program} {w : World} {A : Around} {E : Value → Shared → Prop} {s : Shared} {v : Value} {o : Obj} {H : Heap → Prop} {Q : Value → Shared → Prop} (B : Begins v o H) (h1 : H s.heap)
    (h : ∀ h', IsEnum h' (s.heap.objs.size + 1) s.heap.objs.size 0 .none → h'.get? s.heap.objs.size = some o →
      (∀ b o, s.heap.get? b = some o → h'.get? b = some o) → Q (.ref (s.heap.objs.size + 1)) { s with heap := h' }) : wpAny (model prog w) A (call (.type "enumerate") [v]) Q E s := by
  refine callType_new F.called_enumerate (by decide) (F.typeCall_enumerate_1 _) (F.newCall_enumerate_1 _) (fun obj => F.args_object_init_2 obj _) F.entry_enumerate_new (kl_enum_new B) ⟨h1, ?_⟩
  have hz : (s.heap.push o).objs.size = s.heap.objs.size + 1 := Heap.size_push ..
  show _ ∧ _
  rw [hz]
  have he : IsEnum ((s.heap.push o).push { cls := .type "enumerate", data := .fields #[.none, .bool false, .ref s.heap.objs.size, rawInt 0, .none, .none] }) (s.heap.objs.size + 1) s.heap.objs.size 0 .none := by
    have q := Heap.get?_push_size (s.heap.push o) (o := { cls := .type "enumerate", data := .fields #[.none, .bool false, .ref s.heap.objs.size, rawInt 0, .none, .none] }) rfl
    rwa [hz] at q
  exact ⟨⟨_, he, rfl⟩, h _ he (Heap.get?_push_of_some _ (Heap.get?_push_size _ B.free)) fun b o x => Heap.get?_push_of_some _ (Heap.get?_push_of_some _ x)⟩
end PySem
namespace KL
open PySem PySem.Spec PyProof.Rows L2
/-- the tuple at a as it stands, each item in a new pair -/
def IteT (K : PySem.W.Frag) (a : Addr) : It :=
  ⟨fun i H => ∃ (xs : List V) (x : V), SqT K H a xs ∧ xs[i]? = some x, fun i H v H' => ∃ T x, v = .ref T ∧ H T = none ∧ H' = upd H T (.tup [.int (i : Nat), x]) ∧ ∀ xs, SqT K H a xs → xs[i]? = some x, fun i H => ∃ xs : List V, SqT K H a xs ∧ xs.length ≤ i⟩
theorem turn_enumT {P : Program} {w : World} {K : PySem.W.Frag} {elts : List Expr} {kk : Nat} {tpos : Pos} (a e it : Addr) :
    Turn P w K (.Tuple elts kk tpos) (IteT K a) [e, it] e (fun i h => (∃ old, IsEnum h e it ((i : Nat) : Int) old) ∧ h.IsTupleIter it a i ∧ e ≠ it ∧ e ≠ a ∧ a ≠ it) where
  mem := by simp
  obj := fun i h ⟨⟨old, he⟩, ⟨o, ho, hc, hd⟩, _⟩ b hb => by
    rcases List.mem_cons.mp hb with rfl | hb
    · exact ⟨_, he, fun v q => nomatch q⟩
    · cases List.mem_singleton.mp hb
      exact ⟨o, ho, fun v q => by rw [hd] at q; cases q⟩
  keep := fun i h h' ⟨⟨old, he⟩, hi, r⟩ k => ⟨⟨old, k e (by simp) _ he⟩, hi.at fun o q => k it (by simp) o q, r⟩
  item := by
    rintro X rfl rfl rfl hc i pins s σ H E I hf ⟨⟨old, he⟩, hit, n1, n2, n3⟩ ⟨xs, x, hq, hx⟩
    obtain ⟨its, rv, p, _⟩ := I.tuple hq
    obtain ⟨u, hu, ru⟩ := rv.get hx
    have p' : s.heap.IsTuple a its.toArray := p
    have lt : ∀ b ∈ [e, it], b < s.heap.objs.size := fun b hb => by
      rcases List.mem_cons.mp hb with rfl | hb
      · exact Heap.lt_size he
      · cases List.mem_singleton.mp hb
        obtain ⟨_, q, _⟩ := hit
        exact Heap.lt_size q
    have hi : i < its.toArray.size := by
      obtain ⟨g, _⟩ := List.getElem?_eq_some_iff.mp hu
      simpa using g
    refine wpAny_pyNext_enum_itemD (Draws.tuple (A := X.A.in1) (I.ok.hd hc) it a n3 its.toArray) he ⟨hit, p'⟩ hi n1 (by simp [n1, n2]) fun y h' tk hy ho st' hT hsz hk => ?_
    have ey : y = u := by rw [List.getElem?_toArray, hu] at hy; exact (Option.some.inj hy).symm
    subst ey
    refine ⟨_, rfl, wpAny_letOwnedTupleGo_enum (s := { s with heap := h', toks := tk + 1 }) ho fun h'' he' sb => ?_⟩
    have hT2 : h''.get? s.heap.objs.size = some { cls := .type "tuple", data := .seq #[.int i tk, y] } := (sb.2 _ (Nat.ne_of_gt (lt e (by simp)))).trans hT
    have new : ObjOk X.prog X.w (upd H s.heap.objs.size (.tup [.int (i : Nat), x])) h'' s.heap.objs.size (.tup [.int (i : Nat), x]) :=
      ⟨by show 2 ≤ sizeLine; decide, [.int i tk, y], .cons ⟨_, rfl⟩ (.cons ru .nil), ⟨_, hT2, rfl, _, rfl⟩⟩
    have I1 : Inv X pins σ (upd H s.heap.objs.size (.tup [.int (i : Nat), x])) { s with heap := h'', toks := tk + 1 } :=
      I.turnedNew (ch := [e, it]) (fun b ob hb q => by
        simp only [List.mem_cons, List.not_mem_nil, or_false, not_or] at hb
        exact (sb.2 b hb.1).trans (hk b ob hb.1 hb.2 q)) hf (Nat.le_refl _) new
    refine ⟨.ref s.heap.objs.size, _, I1, rfl, ⟨_, x, rfl, I.hok.fresh (Nat.le_refl _), rfl, fun ys hy => by rw [I.tuple_inj hy hq]; exact hx⟩, ⟨⟨y, ?_⟩, st'.1.at fun o q => (sb.2 it (Ne.symm n1)).trans q, n1, n2, n3⟩, fun b hb => ?_⟩
    · have e1 : ((i + 1 : Nat) : Int) = (i : Int) + 1 := by omega
      rw [e1]; exact he'
    · rw [upd_ne (Nat.ne_of_lt (lt b hb))]
      exact (hf b hb).1
  done := by
    rintro X rfl rfl rfl hc i pins s σ H E I hf ⟨⟨old, he⟩, hit, n1, n2, n3⟩ ⟨xs, hq, hx⟩
    obtain ⟨its, rv, p, hz⟩ := I.tuple hq
    have p' : s.heap.IsTuple a its.toArray := p
    obtain ⟨f0, f1, f2, f3, f4, f5⟩ := hf it (by simp)
    have hl := rv.length
    have hT : s.TypeIs (.ref e) "enumerate" := ⟨_, he, rfl⟩
    unfold pyNext
    refine wpAny_bind (wpAny_attempt (wpAny_callSpecial?_slot (name := Str.ofString "__next__") hT F.slot_enumerate_next
      (wpAny_call_entry F.slot_enumerate_next hT F.entry_enumerate_next ?_ (F.args_enumerate_next_1 _))))
    show wpAny _ _ (field (.ref e) 2 >>= _) _ _ _
    refine wpAny_bind (wpAny_field he rfl (x := .ref it) rfl ?_)
    refine wpAny_bind (wpAny_nextOf_tuple_end (I.ok.hd hc) hit p' (by simp; omega) fun h' x he' hx' => ?_)
    obtain ⟨o, ho, hc'⟩ := hx'
    refine wpAny_bind (wpAny_isInstance (T := "StopIteration") (b := true) ⟨o, ho, hc'⟩ isSubtype_stop ?_)
    exact wpAny_pure ⟨rfl, I.turned (t' := s.toks) (fun b o hb q => he' b o hb q) f0 f1 f3 f4 f5⟩
  self := fun A i s Q E ⟨⟨_, he⟩, _⟩ h => wpAny_pyIter_enum he h
def iEnumA (K : PySem.W.Frag) (ta : TA) : TI := fun σ H R => ta σ H fun vs H1 => ∃ a xs, vs = [.ref a] ∧ ((SqL K H1 a xs ∧ R (Ite K a) H1) ∨ (SqT K H1 a xs ∧ R (IteT K a) H1))
theorem pi_enumA {X : Cx} {e : Expr} {ta : TA} {p pos tpos : Pos} {elts : List Expr} {kk : Nat} (hg : Gl X "enumerate") (hm : X.mg "enumerate" = none) (ha : PA X [e] ta) (hs : starEach [e] X.env = [(false, eval e X.env)] := by rfl) :
    PI X (.Tuple elts kk tpos) (.Call (.Name "enumerate" p) [e] [] pos) (iEnumA X.K ta) := by
  refine ⟨fun pins s σ H R I h => ?_⟩
  refine Call_ (ld_blt I hg hm boot_enumerate (PyProof.Rows.callWith_type1 (thn (ha.run pos pins s σ H _ I h) fun us s1 ⟨vs, H1, I1, r1, a, xs, ex, q⟩ => ?_) hs rfl))
  subst ex
  cases r1 with
  | cons r rr =>
    cases rr
    cases r
    have fresh : ∀ b ∈ [s1.heap.objs.size + 1, s1.heap.objs.size], FpOk X pins H1 b := fun b hb => by
      have hle : s1.heap.objs.size ≤ b := by
        simp only [List.mem_cons, List.not_mem_nil, or_false] at hb
        rcases hb with z | z
        · rw [z]; exact Nat.le_add_right _ _
        · rw [z]; exact Nat.le_refl _
      exact I1.fpOk hle (I1.hok.fresh hle)
    rcases q with ⟨hq, q⟩ | ⟨hq, q⟩
    · obtain ⟨its, rv, p', hz⟩ := I1.list hq
      refine call_enumerate_list p'.isList fun h' he hit hsz hk => wpAny_pyIter_enum he ?_
      exact ⟨s1.heap.objs.size + 1, [s1.heap.objs.size + 1, s1.heap.objs.size], _, _, H1, rfl, I1.kept (t' := s1.toks) hk, turn_enum a (s1.heap.objs.size + 1) s1.heap.objs.size, ⟨⟨.none, he⟩, hit, Nat.succ_ne_self _⟩, fresh, q⟩
    · obtain ⟨its, rv, p', hz⟩ := I1.tuple hq
      have la : a < s1.heap.objs.size := by obtain ⟨_, q, _⟩ := id p'; exact Heap.lt_size q
      refine kl_enum_call (begins_tuple a its.toArray) (show s1.heap.IsTuple a its.toArray from p') fun h' he hit hk => wpAny_pyIter_enum he ?_
      exact ⟨s1.heap.objs.size + 1, [s1.heap.objs.size + 1, s1.heap.objs.size], _, _, H1, rfl, I1.kept (t' := s1.toks) hk, turn_enumT a (s1.heap.objs.size + 1) s1.heap.objs.size,
        ⟨⟨.none, he⟩, ⟨_, hit, rfl, rfl⟩, Nat.succ_ne_self _, Nat.ne_of_gt (Nat.lt_succ_of_lt la), Nat.ne_of_lt la⟩, fresh, q⟩
/-- a list or a tuple -/
def iSqA (K : PySem.W.Frag) (tl : TE) : TI := fun σ H R => tl σ H fun x H1 => ∃ a xs, x = .ref a ∧ ((SqL K H1 a xs ∧ R (Itl K a) H1) ∨ (SqT K H1 a xs ∧ R (Itt K a) H1))
theorem pi_seqA {X : Cx} {tg l : Expr} {tl : TE} (hl : PE X l tl) : PI X tg l (iSqA X.K tl) := by
  refine ⟨fun pins s σ H R I h => ?_⟩
  refine thn (hl.run pins s σ H _ I h) fun v s1 ⟨x, H1, I1, r1, a, xs, e, q⟩ => ?_
  subst e
  cases r1
  rcases q with ⟨hq, q⟩ | ⟨hq, q⟩
  · obtain ⟨its, rv, p, hz⟩ := I1.list hq
    exact wpAny_pyIter_list p.isList (pi_one (tk := s1.toks) I1 _ (turn_list a _) ⟨_, Heap.get?_push_size _ rfl, rfl, rfl⟩ q)
  · obtain ⟨its, rv, p, hz⟩ := I1.tuple hq
    exact wpAny_pyIter_tuple (show s1.heap.IsTuple a its.toArray from p) (pi_one (tk := s1.toks) I1 _ (turn_tuple a _) ⟨_, Heap.get?_push_size _ rfl, rfl, rfl⟩ q)
end KL
namespace KL
open PySem L2
section
variable {G : GP} {N : Fns} {W : WX} {X : Cx} {ex μ0 μ μ' : List Addr} {H0 H H' : Hp} {σ : St} {ρ : Env} {S S' : Store} {e tg : Expr} {me : E Val} {pos : Pos} {ms : E (List Val)}

/-! ### by values -/
variable {K : PySem.W.Frag} {a : Addr} {xs : List Val} {us : List V}
theorem at_list (q : SqL K H a us) (r : VRs G μ H xs us) : ItAt G μ H xs (Itl K a) :=
  ⟨fun i x hx => by
    obtain ⟨u, h1, h2⟩ := r.get hx
    refine ⟨⟨us, u, q, h1⟩, fun w H3 y => ?_⟩
    obtain ⟨rfl, y⟩ := y
    have z := y us q
    rw [h1] at z; cases z
    exact ⟨fun _ _ h => h, h2⟩, ⟨us, q, by rw [r.length]; exact Nat.le_refl _⟩⟩
theorem at_tup (q : SqT K H a us) (r : VRs G μ H xs us) : ItAt G μ H xs (Itt K a) :=
  ⟨fun i x hx => by
    obtain ⟨u, h1, h2⟩ := r.get hx
    refine ⟨⟨us, u, q, h1⟩, fun w H3 y => ?_⟩
    obtain ⟨rfl, y⟩ := y
    have z := y us q
    rw [h1] at z; cases z
    exact ⟨fun _ _ h => h, h2⟩, ⟨us, q, by rw [r.length]; exact Nat.le_refl _⟩⟩
theorem enumV_len : ∀ (k : Nat) (xs : List Val), (enumV k xs).length = xs.length
  | _, [] => rfl
  | k, _ :: xs => congrArg (· + 1) (enumV_len (k + 1) xs)
theorem enumV_get : ∀ {k : Nat} {xs : List Val} {i : Nat} {x : Val}, (enumV k xs)[i]? = some x → ∃ y, xs[i]? = some y ∧ x = .tup [.int ((k + i : Nat) : Int), y]
  | _, [], i, _, h => by simp [enumV] at h
  | k, y :: xs, 0, x, h => by simp [enumV] at h; exact ⟨y, rfl, h.symm⟩
  | k, y :: xs, i + 1, x, h => by
    obtain ⟨z, h1, h2⟩ := enumV_get (k := k + 1) (xs := xs) (i := i) (x := x) (by simpa [enumV] using h)
    exact ⟨z, by simpa using h1, by rw [h2]; congr 4; omega⟩
theorem vr_pair {T : Addr} {i : Nat} {y : Val} {u : V} (h : H T = none) (r : VR G μ H y u) : (∀ a o, H a = some o → upd H T (.tup [.int (i : Nat), u]) a = some o) ∧ VR G μ (upd H T (.tup [.int (i : Nat), u])) (.tup [.int ((0 + i : Nat) : Int), y]) (.ref T) := by
  have e := ext_upd (o := .tup [.int (i : Nat), u]) h
  refine ⟨e, .tup (us := [.int (i : Nat), u]) (.inl (.inl upd_same)) (.cons ?_ (.cons (r.kx (fun a o h _ => e a o h) (List.prefix_refl _)) .nil))⟩
  rw [Nat.zero_add]; exact .int _
theorem at_enumL (q : SqL K H a us) (r : VRs G μ H xs us) : ItAt G μ H (enumV 0 xs) (Ite K a) :=
  ⟨fun i x hx => by
    obtain ⟨y, h0, rfl⟩ := enumV_get hx
    obtain ⟨u, h1, h2⟩ := r.get h0
    refine ⟨⟨us, u, q, h1⟩, fun w H3 y => ?_⟩
    obtain ⟨T, x', rfl, hT, rfl, y⟩ := y
    have z := y us q
    rw [h1] at z; cases z
    exact vr_pair hT h2, ⟨us, q, by rw [enumV_len, r.length]; exact Nat.le_refl _⟩⟩
theorem at_enumT (q : SqT K H a us) (r : VRs G μ H xs us) : ItAt G μ H (enumV 0 xs) (IteT K a) :=
  ⟨fun i x hx => by
    obtain ⟨y, h0, rfl⟩ := enumV_get hx
    obtain ⟨u, h1, h2⟩ := r.get h0
    refine ⟨⟨us, u, q, h1⟩, fun w H3 y => ?_⟩
    obtain ⟨T, x', rfl, hT, rfl, y⟩ := y
    have z := y us q
    rw [h1] at z; cases z
    exact vr_pair hT h2, ⟨us, q, by rw [enumV_len, r.length]; exact Nat.le_refl _⟩⟩
theorem at_range (lo : Int) (n : Nat) : ItAt G μ H (rngV lo n) (Itr lo n) :=
  ⟨fun i x hx => by
    unfold rngV at hx
    have hi : i < n := by
      obtain ⟨h, _⟩ := List.getElem?_eq_some_iff.mp hx
      simpa using h
    simp [hi] at hx
    subst hx
    refine ⟨hi, fun w H3 y => ?_⟩
    obtain ⟨rfl, rfl⟩ := y
    exact ⟨fun _ _ h => h, .int _⟩, by unfold rngV; simp [Itr]⟩

/-- a list or a tuple, as it is -/
def iSq (a : E Val) : E (List Val) := fun ρ S => (a ρ S).bind fun x S1 => match x with
  | .tup xs => .ok xs S1
  | .lst xs => .ok xs S1
  | .arr xs => .ok xs S1
  | _ => .sk
/-- how a value that is walked lies, for as long as L says -/
theorem walk_f {x : Val} {u : V} (h : VR G μ H x u) {f : List Val → List Val} {xs : List Val} (hx : x = .tup xs ∨ x = .lst xs ∨ x = .arr xs) : ∃ a, u = .ref a ∧
    ((∃ us, SqL G.K H a us ∧ ∀ μ2 H2, Kp G μ H μ2 H2 → SqL G.K H2 a us ∧ VRs G μ2 H2 xs us) ∨ ∃ us, SqT G.K H a us ∧ ∀ μ2 H2, Kp G μ H μ2 H2 → SqT G.K H2 a us ∧ VRs G μ2 H2 xs us) := by
  rcases hx with rfl | rfl | rfl
  · cases h with
    | @tup a _ us t r => exact ⟨a, rfl, .inr ⟨us, t, fun μ2 H2 k => ⟨sqT_kx k.kx t, r.kp k⟩⟩⟩
  · cases h with
    | @lst a o _ us t r => exact ⟨a, rfl, .inl ⟨us, .inl (.inr ⟨o, t⟩), fun μ2 H2 k => ⟨.inl (.inr ⟨o, k.kx _ _ t rfl⟩), r.kp k⟩⟩⟩
  · cases h with
    | @arr a _ us t r => exact ⟨a, rfl, .inl ⟨us, t.sq, fun μ2 H2 k => ⟨(t.kx k.kx).sq, r.kp k⟩⟩⟩
theorem walk_b {x : Val} {u : V} (h : RB G μ H x u) {xs : List Val} (hx : x = .tup xs ∨ x = .lst xs ∨ x = .arr xs) : ∃ a, u = .ref a ∧
    ((∃ us, SqL G.K H a us ∧ ∀ μ2 H2, Step μ H μ2 H2 → Kp G μ H μ2 H2 → SqL G.K H2 a us ∧ VRs G μ2 H2 xs us) ∨ ∃ us, SqT G.K H a us ∧ ∀ μ2 H2, Step μ H μ2 H2 → Kp G μ H μ2 H2 → SqT G.K H2 a us ∧ VRs G μ2 H2 xs us) := by
  rcases h with h | ⟨p, ys, us, rfl, rfl, hp, np, r⟩
  · obtain ⟨a, e, h⟩ := walk_f (f := id) h hx
    refine ⟨a, e, ?_⟩
    rcases h with ⟨us, q, h⟩ | ⟨us, q, h⟩
    · exact .inl ⟨us, q, fun μ2 H2 _ k => h μ2 H2 k⟩
    · exact .inr ⟨us, q, fun μ2 H2 _ k => h μ2 H2 k⟩
  · rcases hx with hx | hx | hx
    · cases hx
    · cases hx
      exact ⟨p, rfl, .inl ⟨us, SqL.of hp, fun μ2 H2 st k => ⟨SqL.of (st.keep p _ hp np rfl), r.kp k⟩⟩⟩
    · cases hx
theorem iSq_is {x : Val} {S : Store} {xs : List Val} {S2 : Store} : (match x with | .tup xs => R.ok xs S | .lst xs => .ok xs S | .arr xs => .ok xs S | _ => .sk) = .ok xs S2 → (x = .tup xs ∨ x = .lst xs ∨ x = .arr xs) ∧ S2 = S := by
  intro h
  split at h
  · cases h; exact ⟨.inl rfl, rfl⟩
  · cases h; exact ⟨.inr (.inl rfl), rfl⟩
  · cases h; exact ⟨.inr (.inr rfl), rfl⟩
  · cases h
theorem sq_imp {x : Val} {S1 : Store} {K : List Val → Store → List Addr → Hp → Prop} (o : Out G W σ μ H (match x with | .tup xs => R.ok xs S1 | .lst xs => .ok xs S1 | .arr xs => .ok xs S1 | _ => .sk) K) (sr : StR G μ H S1) : ∃ xs, (x = .tup xs ∨ x = .lst xs ∨ x = .arr xs) ∧ K xs S1 μ H := by
  cases x with
  | tup xs => exact ⟨xs, .inl rfl, Out.ok o sr⟩
  | lst xs => exact ⟨xs, .inr (.inl rfl), Out.ok o sr⟩
  | arr xs => exact ⟨xs, .inr (.inr rfl), Out.ok o sr⟩
  | _ => exact False.elim o
theorem fi_seqF (hK : X.K = G.K) (he : PE X e (tE G N W (MF G) me)) : PI X tg e (tI G N W (ItF G) (iSq me)) :=
  pi_imp (pi_seqA he) fun σ H R ⟨ρ, S, μ, Rl, o⟩ => ⟨ρ, S, μ, Rl, (Out.bind o).mono fun x S1 μ1 H1 st sr k u hu => by
    obtain ⟨xs, hx, k⟩ := sq_imp k sr
    obtain ⟨a, rfl, h⟩ := walk_f (f := id) hu hx
    rcases h with ⟨us, q, h⟩ | ⟨us, q, h⟩
    · exact ⟨a, us, rfl, .inl ⟨by rw [hK]; exact q, k _ fun μ2 H2 kp => by rw [hK]; exact at_list (h μ2 H2 kp).1 (h μ2 H2 kp).2⟩⟩
    · exact ⟨a, us, rfl, .inr ⟨by rw [hK]; exact q, k _ fun μ2 H2 kp => by rw [hK]; exact at_tup (h μ2 H2 kp).1 (h μ2 H2 kp).2⟩⟩⟩
theorem fi_seqB (hK : X.K = G.K) (he : PE X e (tE G N W (MB G) me)) : PI X tg e (tI G N W (ItB G) (iSq me)) :=
  pi_imp (pi_seqA he) fun σ H R ⟨ρ, S, μ, Rl, o⟩ => ⟨ρ, S, μ, Rl, (Out.bind o).mono fun x S1 μ1 H1 st sr k u hu => by
    obtain ⟨xs, hx, k⟩ := sq_imp k sr
    obtain ⟨a, rfl, h⟩ := walk_b hu hx
    rcases h with ⟨us, q, h⟩ | ⟨us, q, h⟩
    · exact ⟨a, us, rfl, .inl ⟨by rw [hK]; exact q, k _ fun μ2 H2 st kp => by rw [hK]; exact at_list (h μ2 H2 st kp).1 (h μ2 H2 st kp).2⟩⟩
    · exact ⟨a, us, rfl, .inr ⟨by rw [hK]; exact q, k _ fun μ2 H2 st kp => by rw [hK]; exact at_tup (h μ2 H2 st kp).1 (h μ2 H2 st kp).2⟩⟩⟩
/-- enumerate(..) -/
def iEn (a : E Val) : E (List Val) := fun ρ S => (iSq a ρ S).bind fun xs S1 => .ok (enumV 0 xs) S1
theorem en_bind {x : Val} {S1 : Store} {K : List Val → Store → List Addr → Hp → Prop} (o : Out G W σ μ H ((match x with | .tup xs => R.ok xs S1 | .lst xs => .ok xs S1 | .arr xs => .ok xs S1 | _ => .sk : R (List Val)).bind fun xs S2 => .ok (enumV 0 xs) S2) K) (sr : StR G μ H S1) : ∃ xs, (x = .tup xs ∨ x = .lst xs ∨ x = .arr xs) ∧ K (enumV 0 xs) S1 μ H := by
  obtain ⟨xs, h1, h2⟩ := sq_imp (Out.bind o) sr
  exact ⟨xs, h1, Out.ok h2 sr⟩
theorem bind_assoc {α β γ : Type} (m : R α) (f : α → Store → R β) (g : β → Store → R γ) : (m.bind f).bind g = m.bind fun a S => (f a S).bind g := by cases m <;> rfl
theorem fi_enumF {p pos tpos : Pos} {elts : List Expr} {kk : Nat} (hK : X.K = G.K) (hg : Gl X "enumerate") (hm : X.mg "enumerate" = none) (he : PE X e (tE G N W (MF G) me)) (hs : starEach [e] X.env = [(false, eval e X.env)] := by rfl) (hs2 : starEach [e] X.env = (false, eval e X.env) :: starEach [] X.env := by rfl) :
    PI X (.Tuple elts kk tpos) (.Call (.Name "enumerate" p) [e] [] pos) (tI G N W (ItF G) (iEn me)) :=
  pi_imp (pi_enumA hg hm (pa_cons he pa_nil hs2) hs) fun σ H R ⟨ρ, S, μ, Rl, o⟩ => ⟨ρ, S, μ, Rl, (Out.bind (by unfold iEn iSq at o; rw [bind_assoc] at o; exact o)).mono fun x S1 μ1 H1 st sr k u hu => by
    obtain ⟨xs, hx, k⟩ := en_bind k sr
    obtain ⟨a, rfl, h⟩ := walk_f (f := id) hu hx
    rcases h with ⟨us, q, h⟩ | ⟨us, q, h⟩
    · exact ⟨a, us, rfl, .inl ⟨by rw [hK]; exact q, k _ fun μ2 H2 kp => by rw [hK]; exact at_enumL (h μ2 H2 kp).1 (h μ2 H2 kp).2⟩⟩
    · exact ⟨a, us, rfl, .inr ⟨by rw [hK]; exact q, k _ fun μ2 H2 kp => by rw [hK]; exact at_enumT (h μ2 H2 kp).1 (h μ2 H2 kp).2⟩⟩⟩
theorem fi_enumB {p pos tpos : Pos} {elts : List Expr} {kk : Nat} (hK : X.K = G.K) (hg : Gl X "enumerate") (hm : X.mg "enumerate" = none) (he : PE X e (tE G N W (MB G) me)) (hs : starEach [e] X.env = [(false, eval e X.env)] := by rfl) (hs2 : starEach [e] X.env = (false, eval e X.env) :: starEach [] X.env := by rfl) :
    PI X (.Tuple elts kk tpos) (.Call (.Name "enumerate" p) [e] [] pos) (tI G N W (ItB G) (iEn me)) :=
  pi_imp (pi_enumA hg hm (pa_cons he pa_nil hs2) hs) fun σ H R ⟨ρ, S, μ, Rl, o⟩ => ⟨ρ, S, μ, Rl, (Out.bind (by unfold iEn iSq at o; rw [bind_assoc] at o; exact o)).mono fun x S1 μ1 H1 st sr k u hu => by
    obtain ⟨xs, hx, k⟩ := en_bind k sr
    obtain ⟨a, rfl, h⟩ := walk_b hu hx
    rcases h with ⟨us, q, h⟩ | ⟨us, q, h⟩
    · exact ⟨a, us, rfl, .inl ⟨by rw [hK]; exact q, k _ fun μ2 H2 st kp => by rw [hK]; exact at_enumL (h μ2 H2 st kp).1 (h μ2 H2 st kp).2⟩⟩
    · exact ⟨a, us, rfl, .inr ⟨by rw [hK]; exact q, k _ fun μ2 H2 st kp => by rw [hK]; exact at_enumT (h μ2 H2 st kp).1 (h μ2 H2 st kp).2⟩⟩⟩

/-- range(..) -/
def iRa (a : E Val) : E (List Val) := fun ρ S => (a ρ S).bind fun x S1 => match x with
  | .int j => if -(2 ^ 62) ≤ j ∧ j < 2 ^ 62 then .ok (rngV 0 j.toNat) S1 else .sk
  | _ => .sk
def iRb (a b : E Val) : E (List Val) := fun ρ S => (a ρ S).bind fun x S1 => (b ρ S1).bind fun y S2 => match x, y with
  | .int i, .int j => if -(2 ^ 62) ≤ i ∧ i < 2 ^ 62 ∧ -(2 ^ 62) ≤ j ∧ j < 2 ^ 62 then .ok (rngV i (j - i).toNat) S2 else .sk
  | _, _ => .sk
theorem fi_range1 {a : Expr} {ma : E Val} {p pos : Pos} (hg : Gl X "range") (hm : X.mg "range" = none) (ha : PE X a (tE G N W (MB G) ma)) (hs : starEach [a] X.env = [(false, eval a X.env)] := by rfl) (hs2 : starEach [a] X.env = (false, eval a X.env) :: starEach [] X.env := by rfl) :
    PI X tg (.Call (.Name "range" p) [a] [] pos) (tI G N W (ItF G) (iRa ma)) :=
  pi_imp (pi_range1 hg hm (pa_cons ha pa_nil hs2) hs) fun σ H R ⟨ρ, S, μ, Rl, o⟩ => ⟨ρ, S, μ, Rl, (Out.bind o).mono fun x S1 μ1 H1 st sr k u hu => by
    split at k
    · rename_i j
      split at k
      · rename_i hj
        have hu' := hu.dr sr
        cases hu'.int
        exact ⟨j, rfl, hj.1, hj.2, Out.ok k sr _ fun μ2 H2 _ => at_range 0 j.toNat⟩
      · exact False.elim k
    · exact False.elim k⟩
theorem fi_range2 {a b : Expr} {ma mb : E Val} {p pos : Pos} (hg : Gl X "range") (hm : X.mg "range" = none) (ha : PE X a (tE G N W (MB G) ma)) (hb : PE X b (tE G N W (MB G) mb))
    (hs : starEach [a, b] X.env = [(false, eval a X.env), (false, eval b X.env)] := by rfl) (hs2 : starEach [b] X.env = [(false, eval b X.env)] := by rfl) (hs3 : starEach [a, b] X.env = (false, eval a X.env) :: starEach [b] X.env := by rfl) (hs4 : starEach [b] X.env = (false, eval b X.env) :: starEach [] X.env := by rfl) :
    PI X tg (.Call (.Name "range" p) [a, b] [] pos) (tI G N W (ItF G) (iRb ma mb)) :=
  pi_imp (pi_range2 hg hm (pa_cons ha (pa_cons hb pa_nil hs4) hs3) hs hs2) fun σ H R ⟨ρ, S, μ, Rl, o⟩ => ⟨ρ, S, μ, Rl, (Out.bind o).mono fun x S1 μ1 H1 st sr k0 u hu => ⟨ρ, S1, μ1, Rl.step st sr, (Out.bind k0).mono fun y S2 μ2 H2 st2 sr2 k w hw => by
    clear k0
    split at k
    · rename_i i j
      split at k
      · rename_i hj
        have hu' := (hu.step st2 sr).dr sr2
        cases hu'.int
        have hw' := hw.dr sr2
        cases hw'.int
        exact ⟨i, j, rfl, hj, Out.ok k sr2 _ fun μ2 H2 _ => at_range i (j - i).toNat⟩
      · exact False.elim k
    · exact False.elim k⟩⟩

/-! ### while -/
theorem fs_while {c : Expr} {body : List Stmt} {tc : T} {mb : C} (n : Nat) (hp : PassesOwn (model X.prog X.w) X.A X.env X.xe) (hc : PT X c (tT G N W tc)) (hb : PSs X body (tS G N W ex μ0 H0 mb)) : PS X (.While c body [] pos) (tS G N W ex μ0 H0 (sWhl n tc mb)) :=
  ps_imp (ps_while hp hc hb) fun D σ H ⟨ρ, S, μ, R, o⟩ => by
    refine ⟨fun m σ H => ∃ ρ S μ, RelS G N ex μ0 H0 μ σ H ρ S ∧ OutS G N W ex μ0 H0 μ H D (whlL tc mb m ρ S), ⟨n, ρ, S, μ, R, o⟩, ?_⟩
    rintro m σ H ⟨ρ, S, μ, R, o⟩
    cases m with
    | zero => exact False.elim o
    | succ m =>
      refine ⟨ρ, S, μ, R.rel, (stm_go R o).mono fun b S1 μ1 H1 st sr k => ?_⟩
      obtain ⟨k1, k2⟩ := k
      cases b with
      | false => exact k1 μ1 σ H1 k2 Kp.refl
      | true =>
        refine ⟨fun σ' H' => ∃ ρ S μ, RelS G N ex μ0 H0 μ σ' H' ρ S ∧ OutS G N W ex μ0 H0 μ H' D (whlL tc mb m ρ S), fun σ' H' q => ⟨m, Nat.lt_succ_self m, q⟩, ρ, S1, μ1, k2, ?_⟩
        exact turn_go (f := whlL tc mb m) k1 fun ρ4 S4 μ4 σ4 H4 R4 k4 o5 => ⟨ρ4, S4, μ4, R4, o5⟩
end
end KL

set_option linter.all false
set_option maxRecDepth 100000
set_option maxHeartbeats 1000000
/-! KComp: list comprehensions. -/
namespace KL
open PySem L2
/-- an exception is none of what is told -/
def R.ne {α : Type} : R α → R α
  | .er _ _ => .sk
  | m => m
section
variable {G : GP} {N : Fns} {W W' : WX} {X : Cx} {μ μ' μ1 : List Addr} {H H' H1 : Hp} {σ : St} {ρ : Env} {S S' S1 : Store} {e tg : Expr} {me : E Val} {pos : Pos}
theorem Out.ne {α β : Type} {σ' : St} {m : R α} {f : α → Store → R β} {K : β → Store → List Addr → Hp → Prop} (h : Out G W σ μ1 H1 (m.ne.bind f) K) : Out G W' σ' μ H m fun a S _ _ => Out G W σ μ1 H1 (f a S) K := by
  cases m with
  | ok a S => exact fun _ _ _ _ => h
  | er e S => exact False.elim h
  | sk => exact False.elim h
def lcG (tg : Tg) (t : T) (e : E Val) (ρ : Env) : List Val → Store → List Val → R (List Val)
  | [], S, acc => .ok acc S
  | x :: xs, S, acc => match tg x ρ with
    | none => .sk
    | some ρ1 => (t ρ1 S).ne.bind fun b S1 => if b then (e ρ1 S1).ne.bind fun y S2 => if acc.length < big then lcG tg t e ρ xs S2 (acc ++ [y]) else .sk else lcG tg t e ρ xs S1 acc
/-- [e for tg in it if t]; vs the names of its own -/
def cLC (it : E (List Val)) (tg : Tg) (t : T) (e : E Val) (vs : List Nat) : E Val := fun ρ S => (it ρ S).bind fun xs S1 => (lcG tg t e (wip ρ vs) xs S1 []).bind fun ys S2 => .ok (.lst ys) S2

theorem Rel.setUn {i : Nat} (R : Rel G N μ σ H ρ S) : Rel G N μ (σ.set i none) H (ρ.set i .un) S where
  len := by simpa using R.len
  at_ := fun j s o h1 h2 => by
    rcases set_get h1 with ⟨rfl, rfl⟩ | ⟨n1, h1⟩
    · trivial
    · rcases set_get h2 with ⟨n2, _⟩ | ⟨_, h2⟩
      · exact absurd n2 n1
      · exact R.at_ j s o h1 h2
  own := fun j k xs ys p h1 h2 h3 h4 => by
    rcases set_get h1 with ⟨_, e⟩ | ⟨n1, h1⟩
    · cases e
    · rcases set_get h2 with ⟨_, e⟩ | ⟨n2, h2⟩
      · cases e
      · rcases set_get h3 with ⟨e, _⟩ | ⟨_, h3⟩
        · exact absurd e n1
        · rcases set_get h4 with ⟨e, _⟩ | ⟨_, h4⟩
          · exact absurd e n2
          · exact R.own j k xs ys p h1 h2 h3 h4
  st := R.st
theorem Rel.wipe (R : Rel G N μ σ H ρ S) : ∀ vs : List Nat, Rel G N μ (wipe σ vs) H (wip ρ vs) S
  | [] => R
  | _ :: vs => (Rel.wipe R vs).setUn
theorem wipe_at {σ : St} {vs : List Nat} {i : Nat} (h : i ∈ vs) (hl : i < σ.length) : (wipe σ vs)[i]? = some none := by
  induction vs with
  | nil => cases h
  | cons v vs ih =>
    show ((L2.wipe σ vs).set v none)[i]? = some none
    by_cases e : v = i
    · subst e; rw [List.getElem?_set_self (by rw [wipe_length]; exact hl)]
    · rw [List.getElem?_set_ne e]
      rcases List.mem_cons.mp h with h | h
      · exact absurd h.symm e
      · exact ih h
theorem wipe_off {σ : St} {vs : List Nat} {i : Nat} (h : i ∉ vs) : (wipe σ vs)[i]? = σ[i]? := by
  induction vs with
  | nil => rfl
  | cons v vs ih =>
    simp only [List.mem_cons, not_or] at h
    show ((L2.wipe σ vs).set v none)[i]? = _
    rw [List.getElem?_set_ne (Ne.symm h.1)]
    exact ih h.2
theorem wipe_ext {σ σ' : St} {vs : List Nat} (hl : σ.length = σ'.length) (h : ∀ i, i ∉ vs → σ[i]? = σ'[i]?) : wipe σ vs = wipe σ' vs := by
  refine List.ext_getElem? fun i => ?_
  by_cases hi : i ∈ vs
  · by_cases h1 : i < σ.length
    · rw [wipe_at hi h1, wipe_at hi (by omega)]
    · rw [List.getElem?_eq_none (by rw [wipe_length]; omega), List.getElem?_eq_none (by rw [wipe_length]; omega)]
  · rw [wipe_off hi, wipe_off hi, h i hi]
theorem wipe_set {σ : St} {vs : List Nat} {i : Nat} {o : Option V} (h : i ∈ vs) : wipe (σ.set i o) vs = wipe σ vs :=
  wipe_ext (by simp) fun j hj => by rw [List.getElem?_set_ne (fun e => hj (by rw [← e]; exact h))]
theorem wipe_wipe {σ : St} {vs : List Nat} : wipe (wipe σ vs) vs = wipe σ vs :=
  wipe_ext (wipe_length σ vs) fun j hj => wipe_off hj

/-! ### targets that are names, or tuples of such -/
def tGE (G : GP) (vs : List Nat) (tg : Tg) : TG := fun v σ H Q => ∃ (μ : List Addr) (x : Val) (ρ ρ' : Env) (P : St → Env → Prop), P σ ρ ∧ (∀ i, i ∈ vs → ∀ y u σ ρ, P σ ρ → VR G μ H y u → P (σ.set i (some u)) (ρ.set i (.pl y))) ∧ VR G μ H x v ∧ tg x ρ = some ρ' ∧ ∀ σ', P σ' ρ' → Q σ' H
def tGEs (G : GP) (vs : List Nat) (ts : List Tg) : TGs := fun us σ H Q => ∃ (μ : List Addr) (xs : List Val) (ρ ρ' : Env) (P : St → Env → Prop), P σ ρ ∧ (∀ i, i ∈ vs → ∀ y u σ ρ, P σ ρ → VR G μ H y u → P (σ.set i (some u)) (ρ.set i (.pl y))) ∧ VRs G μ H xs us ∧ tgAll ts xs ρ = some ρ' ∧ ∀ σ', P σ' ρ' → Q σ' H
variable {vs : List Nat}
theorem fge_name (i : Nat) {x : Str} (hN : X.N.Nodup) (hi : X.N[i]? = some x) (hx : Loc X.env.scope x) (hv : i ∈ vs := by decide) (hf : X.fn x = true ∨ X.env.scope.names.lookup x = some .local := by first | exact .inl rfl | exact .inr rfl | assumption) : PG X (.Name x pos) (tGE G vs (tgName i)) :=
  pg_imp (pg_name hN hi hx hf) fun v σ H Q ⟨μ, x, ρ, ρ', P, h1, h2, h3, h4, h5⟩ => by
    cases h4
    exact h5 _ (h2 i hv x v σ ρ h1 h3)
theorem fges_nil : PGs X [] (tGEs G vs []) :=
  pgs_imp pgs_nil fun v σ H Q ⟨μ, x, ρ, ρ', P, h1, h2, h3, h4, h5⟩ => by
    cases h3 with
    | nil => cases h4; exact ⟨rfl, h5 _ h1⟩
    | cons _ _ => cases h4
theorem fges_cons {es : List Expr} {t : Tg} {ts : List Tg} (h1 : PG X e (tGE G vs t)) (h2 : PGs X es (tGEs G vs ts))
    (hs : (assignEach (e :: es) X.env).map (·.2) = assign e X.env :: (assignEach es X.env).map (·.2) := by rfl) : PGs X (e :: es) (tGEs G vs (t :: ts)) :=
  pgs_imp (pgs_cons h1 h2 hs) fun v σ H Q ⟨μ, xs, ρ, ρ', P, h1, h2, h3, h4, h5⟩ => by
    cases h3 with
    | nil => cases h4
    | @cons x u xs us hx r =>
      have h4' : (t x ρ).bind (fun ρ1 => tgAll ts xs ρ1) = some ρ' := h4
      cases q : t x ρ with
      | none => rw [q] at h4'; cases h4'
      | some ρ1 =>
        rw [q] at h4'
        exact ⟨u, us, rfl, μ, x, ρ, ρ1, P, h1, h2, hx, q, fun σ1 p1 => ⟨μ, xs, ρ1, ρ', P, p1, h2, r, h4', h5⟩⟩
theorem tgAll_len : ∀ {ts : List Tg} {xs : List Val} {ρ ρ' : Env}, tgAll ts xs ρ = some ρ' → xs.length = ts.length
  | [], [], _, _, _ => rfl
  | [], _ :: _, _, _, h => by cases h
  | _ :: _, [], _, _, h => by cases h
  | t :: ts, x :: xs, ρ, ρ', h => by
    have h' : (t x ρ).bind (fun ρ1 => tgAll ts xs ρ1) = some ρ' := h
    cases q : t x ρ with
    | none => rw [q] at h'; cases h'
    | some ρ1 => rw [q] at h'; exact congrArg (· + 1) (tgAll_len h')
theorem fge_tup {es : List Expr} {k : Nat} {ts : List Tg} (hK : X.K = G.K) (hc : X.calm = true) (h : PGs X es (tGEs G vs ts)) (hn : (assignEach es X.env).length = ts.length := by rfl) (hst : (assignEach es X.env).findIdx? (·.1) = none := by rfl) :
    PG X (.Tuple es k pos) (tGE G vs (tgTup ts)) :=
  pg_imp (pg_tup (n := ts.length) hc h hn hst) fun v σ H Q ⟨μ, x, ρ, ρ', P, h1, h2, h3, h4, h5⟩ => by
    unfold tgTup at h4
    split at h4
    · rename_i xs
      cases h3 with
      | @tup a _ us t r => exact ⟨a, us, rfl, by rw [hK]; exact t, by rw [← r.length]; exact tgAll_len h4, μ, xs, ρ, ρ', P, h1, h2, r, h4, h5⟩
    · cases h4

/-! ### one clause -/
theorem pts_imp {ifs : List Expr} {t t' : TT} (h : PTs X ifs t) (i : ∀ σ H Q, t' σ H Q → t σ H Q) : PTs X ifs t' := ⟨fun pins s σ H Q I q => h.run pins s σ H Q I (i σ H Q q)⟩
theorem fpts_nil : PTs X [] (tT G N W cYes) := pts_imp pts_nil fun σ H Q ⟨ρ, S, μ, R, o⟩ => o.ok R.st
theorem fpts_one {c : Expr} {t : T} (h : PT X c (tT G N W t)) : PTs X [c] (tT G N W t) := pts_one h
abbrev W0 : WX := fun _ _ _ _ => False
theorem lc_walk {mi : E (List Val)} {g : Tg} {t : T} {Q : VK} (h : tE G N W (MN G) (cLC mi g t me vs) σ H Q) : tLc (tI G N W (ItB G) mi) (tGE G vs g) (tT G N W0 t) (tE G N W0 (MF G) me) vs σ H Q := by
  obtain ⟨ρ, S, μ, R, o⟩ := h
  refine ⟨ρ, S, μ, R, (Out.bind o).mono fun xs S1 μ1 H1 st1 sr1 k1 J hJ D hD => ?_⟩
  have R1 := (R.step st1 sr1).wipe vs
  have hD0 : H D = none := st1.fresh sr1 hD
  have npD : D ∉ μ1 := np_of sr1.there hD
  refine ⟨fun i m H2 => m = xs.length - i ∧ i ≤ xs.length ∧ ∃ (S2 : Store) (μ2 : List Addr) (acc : List Val) (us : List V), StR G μ2 H2 S2 ∧ Step μ1 H1 μ2 H2 ∧ H2 D = some (.lst us) ∧ VRs G μ2 H2 acc us ∧ D ∉ μ2 ∧
    Out G W σ μ1 H1 ((lcG g t me (wip ρ vs) (xs.drop i) S2 acc).bind fun ys S2 => KL.R.ok (Val.lst ys) S2) (fun v _ μ' H' => ∀ u, MN G μ' H H' v u → Q u H'),
    ⟨xs.length, rfl, Nat.zero_le _, S1, μ1, [], [], sr1.ext (ext_upd hD), Step.made hD, upd_same, .nil, npD, k1⟩, ?_⟩
  rintro i m H2 ⟨rfl, hi, S2, μ2, acc, us, sr2, st2, hl, ra, np, o2⟩
  have it := hJ μ2 H2 st2 (st2.kp sr1)
  by_cases hlt : i < xs.length
  · refine .inr ⟨(it.1 i xs[i] (List.getElem?_eq_getElem hlt)).1, fun H3 => ∃ (S2 : Store) (μ2 : List Addr) (acc : List Val) (us : List V), StR G μ2 H3 S2 ∧ Step μ1 H1 μ2 H3 ∧ H3 D = some (.lst us) ∧ VRs G μ2 H3 acc us ∧ D ∉ μ2 ∧
      Out G W σ μ1 H1 ((lcG g t me (wip ρ vs) (xs.drop (i + 1)) S2 acc).bind fun ys S2 => KL.R.ok (Val.lst ys) S2) (fun v _ μ' H' => ∀ u, MN G μ' H H' v u → Q u H'), fun H3 q => ⟨xs.length - (i + 1), by omega, rfl, hlt, q⟩, fun u H3 y => ?_⟩
    obtain ⟨ext, hu⟩ := (it.1 i xs[i] (List.getElem?_eq_getElem hlt)).2 u H3 y
    have st3 : Step μ2 H2 μ2 H3 := Step.ext ext
    have sr3 := sr2.ext ext
    have R3 := R1.step (st2.trans st3) sr3
    rw [List.drop_eq_getElem_cons hlt] at o2
    unfold lcG at o2
    cases hg : g xs[i] (wip ρ vs) with
    | none => rw [hg] at o2; exact False.elim o2
    | some ρ1 =>
      rw [hg] at o2
      refine ⟨μ2, xs[i], wip ρ vs, ρ1, fun σ2 ρ2 => Rel G N μ2 σ2 H3 ρ2 S2 ∧ wipe σ2 vs = wipe σ vs, ⟨R3, wipe_wipe⟩, fun j hj y u σ2 ρ2 ⟨p1, p2⟩ hy => ⟨p1.setPl hy, by rw [wipe_set hj]; exact p2⟩, hu, hg, fun σ2 ⟨p1, p2⟩ => ⟨p2, ?_⟩⟩
      simp only [bind_assoc] at o2
      refine ⟨ρ1, S2, μ2, p1, (Out.ne (W' := W0) o2).mono fun b S4 μ4 H4 st4 sr4 k4 => ?_⟩
      have st14 := (st2.trans st3).trans st4
      have hl4 : H4 D = some (.lst us) := st4.keep D _ (ext _ _ hl) np rfl
      have np4 : D ∉ μ4 := fun z => (st4.new D z).elim np fun q => by rw [ext _ _ hl] at q; cases q
      have ra4 := (ra.kp (st3.kp sr2)).kp (st4.kp sr3)
      cases b with
      | false => exact ⟨S4, μ4, acc, us, sr4, st14, hl4, ra4, np4, k4⟩
      | true =>
        simp only [if_true, bind_assoc] at k4
        refine ⟨ρ1, S4, μ4, p1.step st4 sr4, (Out.ne (W' := W0) k4).mono fun y S5 μ5 H5 st5 sr5 k5 w hw => ?_⟩
        have st15 := st14.trans st5
        have hl5 : H5 D = some (.lst us) := st5.keep D _ hl4 np4 rfl
        have np5 : D ∉ μ5 := fun z => (st5.new D z).elim np4 fun q => by rw [hl4] at q; cases q
        have ra5 := ra4.kp (st5.kp sr4)
        have nf : ∀ u, H5 D = some u → fixdT G u = false := fun u q => by rw [hl5] at q; cases q; rfl
        split at k5
        · rename_i hb
          refine ⟨us, hl5, by rw [← ra5.length]; exact hb, S5, μ5, acc ++ [y], us ++ [w], sr5.upd np5 nf, st15.upd hD, upd_same, (ra5.snoc hw).kx (kx_upd nf) (List.prefix_refl _), np5, k5⟩
        · exact False.elim k5
  · have e : i = xs.length := by omega
    subst e
    rw [List.drop_length] at o2
    refine .inl ⟨it.2, ?_⟩
    exact o2 μ2 H2 st2 sr2 _ (.inl ⟨D, acc, us, rfl, rfl, hD0, np, hl, ra⟩)
theorem fe_lc {elt iter : Expr} {ifs : List Expr} {scope : Scope} {own : List (Str × Nat)} {mi : E (List Val)} {g : Tg} {t : T} (hc : X.calm = true) (hN : X.N.Nodup) (hi : PI X tg iter (tI G N W (ItB G) mi)) (ok : BlkOk X.N X.env.scope scope own)
    (hg : ∀ (s : Shared) (H : Hp) (C : Addr) (cl : List (Str × Addr)) (fp : List Addr), PG (X.blk s H scope (compEnvC scope cl C X.env) fp) tg (tGE G (own.map (·.2)) g)) (ht : ∀ (s : Shared) (H : Hp) (C : Addr) (cl : List (Str × Addr)) (fp : List Addr), PTs (X.blk s H scope (compEnvC scope cl C X.env) fp) ifs (tT G N W0 t))
    (he : ∀ (s : Shared) (H : Hp) (C : Addr) (cl : List (Str × Addr)) (fp : List Addr), PE (X.blk s H scope (compEnvC scope cl C X.env) fp) elt (tE G N W0 (MF G) me)) (hs : ∀ x, foldedSetIterable iter X.env x = pure x := by intro _; rfl) :
    PE X (.ListComp elt [⟨tg, iter, ifs, 0⟩] scope pos) (tE G N W (MN G) (cLC mi g t me (own.map (·.2)))) :=
  pe_imp (pe_lc hc hN hi ok hg ht he hs) fun σ H Q q => lc_walk q
variable {ex μ0 : List Addr} {H0 : Hp}
/-- a name = [..] on one line -/
theorem fs_newLc (i : Nat) {y : Str} {py : Pos} {elt iter : Expr} {ifs : List Expr} {scope : Scope} {own : List (Str × Nat)} {spos : Pos} {mi : E (List Val)} {g : Tg} {t : T} (hc : X.calm = true) (hN : X.N.Nodup) (hy : X.N[i]? = some y) (hyl : X.env.scope.names.lookup y = some .local)
    (hsw : swapsWith (.ListComp elt [⟨tg, iter, ifs, 0⟩] scope pos) (some (.Name y py)) spos.line X.env = pure true) (hi : PI X tg iter (tI G N W (ItB G) mi)) (ok : BlkOk X.N X.env.scope scope own)
    (hg : ∀ (s : Shared) (H : Hp) (C : Addr) (cl : List (Str × Addr)) (fp : List Addr), PG (X.blk s H scope (compEnvC scope cl C X.env) fp) tg (tGE G (own.map (·.2)) g)) (ht : ∀ (s : Shared) (H : Hp) (C : Addr) (cl : List (Str × Addr)) (fp : List Addr), PTs (X.blk s H scope (compEnvC scope cl C X.env) fp) ifs (tT G N W0 t))
    (he : ∀ (s : Shared) (H : Hp) (C : Addr) (cl : List (Str × Addr)) (fp : List Addr), PE (X.blk s H scope (compEnvC scope cl C X.env) fp) elt (tE G N W0 (MF G) me)) (hs : ∀ x, foldedSetIterable iter X.env x = pure x := by intro _; rfl) :
    PS X (.Assign [.Name y py] (.ListComp elt [⟨tg, iter, ifs, 0⟩] scope pos) spos) (tS G N W ex μ0 H0 (sNew i (cLC mi g t me (own.map (·.2))))) :=
  ps_imp (ps_setLc hc hN hy hyl hsw hi ok hg ht he hs) fun D σ H ⟨ρ, S, μ, R, o⟩ => lc_walk ⟨ρ, S, μ, R.rel, new_imp R o⟩
theorem ps_ghost {st : Stmt} {t : TS} (h : PS X st t) : PS X st (fun D σ H => t { D with nx := fun σ1 H1 => D.nx σ1 H1 ∨ ∃ p us, H1 p = some (.lst us) ∧ ∀ o, D.nx σ1 (upd H1 p (.frz o (.lst us))) } σ H) := by
  refine ⟨fun pins s σ H D I q => thn (h.run pins s σ H _ I q) fun f s1 q1 => ?_⟩
  cases f with
  | next =>
    obtain ⟨σ', H', I1, q1⟩ := q1
    rcases q1 with q1 | ⟨p, us, hp, q1⟩
    · exact ⟨σ', H', I1, q1⟩
    · obtain ⟨o, I2⟩ := freeze I1 hp
      exact ⟨σ', _, I2, q1 o⟩
  | brk => exact q1
  | cont => exact q1
  | ret v => exact q1
/-- .. kept as it is -/
theorem fs_keep {i : Nat} {st : Stmt} {a : E Val} (h : PS X st (tS G N W ex μ0 H0 (sNew i a))) : PS X st (tS G N W ex μ0 H0 (sAsgL i a)) :=
  ps_imp (ps_ghost h) fun D σ H ⟨ρ, S, μ, R, o⟩ => ⟨ρ, S, μ, R, by
    unfold sAsgL at o
    unfold sNew
    cases ha : a ρ S with
    | sk => rw [ha] at o; exact o
    | er e S1 => rw [ha] at o; exact o
    | ok x S1 =>
      rw [ha] at o
      cases x with
      | lst xs =>
        intro μ' σ' H' R' k
        by_cases hi : i < ρ.length
        · have hx : (ρ.set i (.ow xs))[i]? = some (.ow xs) := List.getElem?_set_self hi
          obtain ⟨p, us, e, hp, r, np⟩ := R'.rel.ow_at hx
          refine .inr ⟨p, us, hp, fun ob => ?_⟩
          have R2 := R'.frz (o := ob) hx e hp r np
          rw [List.set_set] at R2
          exact o μ' σ' _ R2 (k.trans (.of (kx_upd (R'.rel.ow_nf hx e))))
        · rw [List.set_eq_of_length_le (by omega)] at R'
          refine .inl (o μ' σ' H' ?_ k)
          rw [List.set_eq_of_length_le (by omega)]
          exact R'
      | _ => exact o⟩
end
end KL

set_option linter.all false
set_option maxRecDepth 100000
set_option maxHeartbeats 1000000
/-! KFn: defs, calls of defs, methods, instances that are made. -/
namespace KL
open PySem L2

/-- what is raised, as a wish that does not look at the slots -/
abbrev WE0 (E : XK) : WX := fun cls d _ H => E cls d H
/-- a def's promise, by what it does with values -/
def spF (G : GP) (f : F) : Sp := fun vs H Q E => ∃ xs S μ, StR G μ H S ∧ VRs G μ H xs vs ∧ Out G (WE0 E) [] μ H (f xs S) fun v _ μ' H' => ∀ u, VR G μ' H' v u → Q u H'
/-- n parameters, m names, its body -/
def defF (n m : Nat) (b : C) : F := fun vs S => if vs.length = n then (match b (start m (vs.map .pl)) S with
  | .go (.rt v) _ S1 => .ok v S1
  | .go .nx _ S1 => .ok .non S1
  | .er e _ S1 => .er e S1
  | _ => .sk) else .sk
/-- as FnOk, where no guard is up -/
structure FnG (P : Program) (w : World) (K : PySem.W.Frag) (mg : Str → Option Value) (base : Heap) (k : Nat) (f : Addr) (fd : FuncData) (ps : List Str) (sp : Sp) : Prop where
  len : ∀ vs H Q E, sp vs H Q E → vs.length = ps.length
  run : ∀ (A : Around) (outer : List PySem.Env) (s : Shared) (H : Hp) (args : Args) (us : List Value) (vs : List V) (Q : VK) (E : XK), A.guards = some [] → Room k A → Env0 P w K mg base A outer s H → BindsTo s fd args (ps.zip us) → Vals vs us → sp vs H Q E →
    codeAny (model P w) A (.call (.ref f) args) (CR (L2.CX P w) outer P w H s Q E) s
section
variable {P : Program} {w : World} {K : PySem.W.Frag} {mg : Str → Option Value} {base : Heap} {G : GP}
theorem FnG.of {k : Nat} {f : Addr} {fd : FuncData} {ps : List Str} {sp : Sp} (F : FnOk P w K mg base (L2.CX P w) k f fd ps sp) : FnG P w K mg base k f fd ps sp :=
  ⟨F.len, fun A outer s H args us vs Q E _ => F.run A outer s H args us vs Q E⟩
theorem FnG.mono {j k : Nat} {f : Addr} {fd : FuncData} {ps : List Str} {sp : Sp} (F : FnG P w K mg base j f fd ps sp) (h : j ≤ k) : FnG P w K mg base k f fd ps sp :=
  ⟨F.len, fun A outer s H args us vs Q E g hr => F.run A outer s H args us vs Q E g (hr.mono h)⟩
theorem start_rel {xs : List Val} {vs : List V} {μ : List Addr} {H : Hp} {S : Store} (N : List Str) (hl : vs.length ≤ N.length) (sr : StR G μ H S) (r : VRs G μ H xs vs) : RelS G Fns.none [] μ H μ (L2.start N vs) H (KL.start N.length (xs.map .pl)) S := by
  have hxl := r.length
  have get : ∀ (i : Nat) (s : Slot), (KL.start N.length (xs.map .pl))[i]? = some s → s = .un ∨ ∃ x, s = .pl x ∧ xs[i]? = some x := fun i s h => by
    unfold KL.start at h
    by_cases hi : i < xs.length
    · rw [List.getElem?_append_left (by simpa using hi), List.getElem?_map] at h
      cases e : xs[i]? with
      | none => rw [e] at h; cases h
      | some x => rw [e] at h; cases h; exact .inr ⟨x, rfl, rfl⟩
    · rw [List.getElem?_append_right (by simpa using hi), List.getElem?_replicate] at h
      split at h
      · cases h; exact .inl rfl
      · cases h
  refine ⟨⟨?_, fun i s o h1 h2 => ?_, fun i j xs' ys p h1 h2 _ _ => ?_, sr⟩, Step0.entry (by simp) (by simp), by simp, fun i xs' p h1 _ => ?_, fun i c xs' p h1 _ => ?_⟩
  · unfold KL.start L2.start
    simp; omega
  · rcases get i s h1 with rfl | ⟨x, rfl, hx⟩
    · trivial
    · obtain ⟨u, e, v⟩ := r.get hx
      have hi : i < vs.length := (List.getElem?_eq_some_iff.mp e).1
      unfold L2.start at h2
      rw [List.getElem?_append_left (by simpa using hi), List.getElem?_map, e] at h2
      cases h2
      exact ⟨u, rfl, v⟩
  · rcases get i _ h1 with e | ⟨x, e, _⟩ <;> cases e
  · rcases get i _ h1 with e | ⟨x, e, _⟩ <;> cases e
  · rcases get i _ h1 with e | ⟨x, e, _⟩ <;> cases e
theorem defF_len {n m : Nat} {b : C} {W : WX} {σ : St} {μ : List Addr} {H : Hp} {xs : List Val} {S : Store} {K : Val → Store → List Addr → Hp → Prop} (o : Out G W σ μ H (defF n m b xs S) K) : xs.length = n := by
  unfold defF at o
  split at o
  · assumption
  · exact False.elim o
theorem defF_out {n : Nat} {N : List Str} {b : C} {E : XK} {μ : List Addr} {H : Hp} {xs : List Val} {S : Store} {Q : VK} (o : Out G (WE0 E) [] μ H (defF n N.length b xs S) fun v _ μ' H' => ∀ u, VR G μ' H' v u → Q u H') :
    OutS G Fns.none (WE0 E) [] μ H μ H { nx := fun _ H' => Q .non H', rt := Q } (b (KL.start N.length (xs.map .pl)) S) := by
  have hl := defF_len o
  unfold defF at o
  rw [if_pos hl] at o
  cases q : b (KL.start N.length (xs.map .pl)) S with
  | sk => rw [q] at o; exact o
  | er e ρ' S' => rw [q] at o; exact fun cls d μ' σ' H' R k er => o cls d μ' H' R.st0.to R.rel.st er
  | go f ρ' S' =>
    rw [q] at o
    cases f with
    | nx => exact fun μ' σ' H' R k => o μ' H' R.st0.to R.rel.st _ .non
    | rt v => exact fun μ' σ' H' R k => o μ' H' R.st0.to R.rel.st
    | bk => exact False.elim o
    | ct => exact False.elim o
/-- what a def's body must be shown to do -/
def BodyOk (P : Program) (w : World) (K : PySem.W.Frag) (mg : Str → Option Value) (base : Heap) (G : GP) (gd : Prop) (k : Nat) (qual : Str) (st : Stmt) (f : Addr) (N : List Str) (b : C) : Prop :=
  ∀ (cdv : Value) (A : Around) (outer : List PySem.Env) (s : Shared) (H : Hp) (E : XK) (μ : List Addr), (gd → A.guards = some []) → Room k (A.deeper (PyProof.Rows.envOfC qual (defScope st) s.heap.objs.size f cdv)) →
    PSs (cxOf (L2.CX P w) P w K mg base N qual (defScope st) f cdv A outer s H E) (defBody st) (tS G Fns.none (WE0 E) [] μ H b)
theorem fnOk_of {x qual : Str} {st : Stmt} {f : Addr} {fd : FuncData} {N ps : List Str} {k : Nat} {b : C} (F : Fun K x qual st f fd) (S : FnScope N ps (defScope st)) (h : BodyOk P w K mg base G False k qual st f N b) : FnOk P w K mg base (L2.CX P w) (k + 1) f fd ps (spF G (defF ps.length N.length b)) := by
  have hpl : ps.length ≤ N.length := by have := congrArg List.length S.pre; rw [List.length_take] at this; omega
  refine F.okX S (fun vs H Q E ⟨xs, St, μ, sr, r, o⟩ => by rw [← r.length]; exact defF_len o) fun cdv A outer s H vs Q E hr ⟨xs, St, μ, sr, r, o⟩ => ?_
  have hl : vs.length ≤ N.length := by rw [← r.length, defF_len o]; exact hpl
  exact ⟨_, h cdv A outer s H E μ (fun z => z.elim) hr, _, St, μ, start_rel N hl sr r, defF_out o⟩
theorem fnG_of {x qual : Str} {st : Stmt} {f : Addr} {fd : FuncData} {N ps : List Str} {k : Nat} {b : C} (F : Fun K x qual st f fd) (S : FnScope N ps (defScope st)) (h : BodyOk P w K mg base G True k qual st f N b) : FnG P w K mg base (k + 1) f fd ps (spF G (defF ps.length N.length b)) := by
  have hpl : ps.length ≤ N.length := by have := congrArg List.length S.pre; rw [List.length_take] at this; omega
  have len : ∀ vs H Q E, spF G (defF ps.length N.length b) vs H Q E → vs.length = ps.length := fun vs H Q E ⟨xs, St, μ, sr, r, o⟩ => by rw [← r.length]; exact defF_len o
  obtain ⟨oc, od, kV, doc, pm, an, cdv, ct, osl, rfl, lk, hcd⟩ := F.ex
  refine ⟨len, fun A outer s H args us vs Q E g hr e0 hb r hsp => ?_⟩
  have hl := len _ _ _ _ hsp
  obtain ⟨xs, St, μ, sr, rr, o⟩ := hsp
  exact LamX.run_ofS lk hcd S hr e0 hb r hl fun hr' => ⟨_, h cdv A outer s H E μ (fun _ => g) hr', _, St, μ, start_rel N (by omega) sr rr, defF_out o⟩
end

/-! ### calls -/
section
variable {G : GP} {N : Fns} {W : WX} {X : Cx} {μ μ' : List Addr} {H H' : Hp} {σ : St} {ρ : Env} {S S' : Store} {e a : Expr} {es : List Expr} {pos p : Pos} {ms : E (List Val)} {ma : E Val} {k : Nat} {f : Addr} {fd : FuncData} {ps : List Str} {x : Str} {g : F}
/-- f, called by place, does g -/
def CalF (X : Cx) (G : GP) (W : WX) (f : Value) (g : F) : Prop := ∀ (pins : List (Addr × Obj)) (s : Shared) (σ : St) (H : Hp) (us : List Value) (vs : List V) (Q : VK), Inv X pins σ H s → Vals vs us →
  (∃ xs S μ, StR G μ H S ∧ VRs G μ H xs vs ∧ Out G W σ μ H (g xs S) fun v _ μ' H' => ∀ u, VR G μ' H' v u → Q u H') → wpAny (model X.prog X.w) X.A (call f us) (EP X pins σ Q) X.xe s
theorem Out.we {σ : St} {r : R Val} {K : Val → Store → List Addr → Hp → Prop} (o : Out G W σ μ H r K) : Out G (WE0 (WE W σ)) [] μ H r K := by
  cases r with
  | ok v S => exact o
  | er e S => exact o
  | sk => exact o
theorem cal_fn (F : FnG X.prog X.w X.K X.mg X.base k f fd ps (spF G g)) (hg : X.A.guards = some []) (hr : Room k X.A) (hb : Binds X.K fd ps []) (tk : Takes X W) : CalF X G W (.ref f) g := by
  intro pins s σ H us vs Q I r ⟨xs, S, μ, sr, rr, o⟩
  have h : spF G g vs H Q (WE W σ) := ⟨xs, S, μ, sr, rr, o.we⟩
  have hl : us.length = ps.length := by rw [← r.length]; exact F.len _ _ _ _ h
  have b := hb s us I.kIn (by rw [List.append_nil]; exact hl)
  rw [List.append_nil] at b
  refine wpAny_call (codeAny_mono (F.run X.A X.stack s H ⟨us, []⟩ us vs Q (WE W σ) hg hr I.env0 b r h) fun r s' hq => ?_)
  cases r with
  | error e => exact passAt tk σ pins H s e s' I hq
  | ok fl =>
    cases fl with
    | ret u => exact I.after hq
    | next => exact False.elim hq
    | brk => exact False.elim hq
    | cont => exact False.elim hq
theorem cal_ok (F : FnOk X.prog X.w X.K X.mg X.base (L2.CX X.prog X.w) k f fd ps (spF G g)) (hr : Room k X.A) (hb : Binds X.K fd ps []) (tk : Takes X W) : CalF X G W (.ref f) g :=
  fun pins s σ H us vs Q I r ⟨xs, S, μ, sr, rr, o⟩ => run_fnS F hr hb (passAt tk σ) I r ⟨xs, S, μ, sr, rr, o.we⟩
/-- a call by name -/
theorem call_imp {Q : VK} (h : tE G N W (MF G) (cCall g ms) σ H Q) : tA G N W (MFs G) ms σ H fun vs H1 => ∃ xs S μ, StR G μ H1 S ∧ VRs G μ H1 xs vs ∧ Out G W σ μ H1 (g xs S) fun v _ μ' H' => ∀ u, VR G μ' H' v u → Q u H' := by
  obtain ⟨ρ, S, μ, R, o⟩ := h
  exact ⟨ρ, S, μ, R, (Out.bind o).mono fun xs S1 μ1 H1 st1 sr1 k1 us hus => ⟨xs, S1, μ1, sr1, hus, k1⟩⟩
theorem fe_call (c : CalF X G W (.ref f) g) (hg : Gl X x) (hm : X.mg x = some (.ref f)) (hk : PySem.W.keepIn X.K (.ref f) = true) (ha : PA X (e :: es) (tA G N W (MFs G) ms)) (hdb : (x == ("__debug__" : Str)) = false := by decide)
    (he : starEach (e :: es) X.env = (false, eval e X.env) :: starEach es X.env := by rfl) (hpl : (backTo pos (starEach es X.env)).any (·.1) = false := by rfl) : PE X (.Call (.Name x p) (e :: es) [] pos) (tE G N W (MF G) (cCall g ms)) := by
  refine ⟨fun pins s σ H Q I h => ?_⟩
  refine wpAny_Call_Name_kw (ld_glob I hg hm ?_ hdb)
  refine PySem.W.callWith_K (h₀ := X.base) I.ok.mod.kin hk (thn (ha.run pos pins s σ H _ I (call_imp h)) fun us s1 ⟨vs, H1, I1, r, q⟩ => ⟨I1.kIn, ?_⟩) he hpl
  exact c pins s1 σ H1 us vs Q I1 r q
theorem fe_call0 (c : CalF X G W (.ref f) g) (hg : Gl X x) (hm : X.mg x = some (.ref f)) (hk : PySem.W.keepIn X.K (.ref f) = true) (hdb : (x == ("__debug__" : Str)) = false := by decide) : PE X (.Call (.Name x p) [] [] pos) (tE G N W (MF G) (cCall g cNil)) := by
  refine ⟨fun pins s σ H Q I h => ?_⟩
  refine wpAny_Call_Name_kw (ld_glob I hg hm ?_ hdb)
  obtain ⟨ρ, S, μ, R, o⟩ := h
  exact PySem.W.callWith_K0 I.kIn hk (c pins s σ H [] [] Q I .nil ⟨[], S, μ, R.st, .nil, o⟩)

/-! ### methods -/
def isOf (S : Store) (c : Nat) : Val → Bool
  | .obj c' _ => decide (c' = c)
  | .ref n => match S[n]? with
    | some (.ins c' _) => decide (c' = c)
    | _ => false
  | _ => false
def cMeth (c : Nat) (f : F) (o : E Val) (a : E (List Val)) : E Val := fun ρ S => (o ρ S).bind fun x S1 => if isOf S1 c x then (a ρ S1).bind fun xs S2 => f (x :: xs) S2 else .sk
theorem isOf_at {c : Nat} {x : Val} {u : V} (sr : StR G μ H S) (h : VR G μ H x u) (hi : isOf S c x = true) : ∃ a dx fs, u = .ref a ∧ H a = some (.ins (G.cm c) dx fs) ∧ fs.map (·.1) = G.cf c := by
  unfold isOf at hi
  split at hi
  · have e := of_decide_eq_true hi
    subst e
    cases h with
    | obj h n m r => exact ⟨_, _, _, rfl, h, n⟩
  · split at hi
    · rename_i hS
      have e := of_decide_eq_true hi
      subst e
      cases h with
      | ref hm =>
        obtain ⟨dx, fs, h1, h2, _⟩ := sr.at_ _ _ _ hS hm
        exact ⟨_, _, _, rfl, h1, h2⟩
    · cases hi
  · cases hi
theorem lookup_none {fs : List (Str × V)} {m : Str} (h : m ∉ fs.map (·.1)) : fs.lookup m = none := by
  induction fs with
  | nil => rfl
  | cons f fs ih =>
    obtain ⟨n, v⟩ := f
    simp only [List.map_cons, List.mem_cons, not_or] at h
    have : (m == n) = false := by simpa using h.1
    simp [List.lookup, this, ih h.2]
variable {o : Expr} {mo : E Val} {c : Nat} {m : Str} {apos : Pos}
theorem fe_meth {pl : Sem Bool} (cf : CalF X G W (.ref f) g) (hc : Cls X.K (G.cm c)) (hm : Meth X.K (G.cm c) m f) (hn : m ∉ G.cf c) (ho : PE X o (tE G N W (MF G) mo)) (ha : PA X (e :: es) (tA G N W (MFs G) ms))
    (hst : starEach (e :: es) X.env = (false, eval e X.env) :: starEach es X.env := by rfl) (hpl : (backTo pos (starEach es X.env)).any (·.1) = false := by rfl)
    (ht : eval (.Call (.Attribute o m apos) (e :: es) [] pos) X.env = (do
      let ov ← eval o X.env
      standAt apos.atName
      let (f, first) ← holding [ov] (getMethod ov m pl)
      callWith pos f first (backTo pos (starEach (e :: es) X.env)) (backToKw pos (keywordEach [] X.env))) := by rfl) : PE X (.Call (.Attribute o m apos) (e :: es) [] pos) (tE G N W (MF G) (cMeth c g mo ms)) := by
  refine ⟨fun pins s σ H Q I ⟨ρ, S, μ, R, h⟩ => ?_⟩
  refine PySem.W.methodCall_KW (pl := pl) (thn (ho.run pins s σ H (fun x H1 => ∃ a dx fs, x = .ref a ∧ H1 a = some (.ins (G.cm c) dx fs) ∧ fs.lookup m = none ∧ tA G N W (MFs G) ms σ H1 fun vs H2 => ∃ xs S μ, StR G μ H2 S ∧ VRs G μ H2 xs (x :: vs) ∧ Out G W σ μ H2 (g xs S) fun v _ μ' H' => ∀ u, VR G μ' H' v u → Q u H') I
    ⟨ρ, S, μ, R, (Out.bind h).mono fun x S1 μ1 H1 st1 sr1 k1 u hu => ?_⟩) fun u s1 ⟨x, H1, I1, rx, a, dx, fs, ex, ea, l, q⟩ => ?_) ht
  · split at k1
    · rename_i hi
      obtain ⟨a, dx, fs, e1, e2, e3⟩ := isOf_at sr1 hu hi
      exact ⟨a, dx, fs, e1, e2, lookup_none (by rw [e3]; exact hn), ρ, S1, μ1, R.step st1 sr1, (Out.bind k1).mono fun xs S2 μ2 H2 st2 sr2 k2 us hus => ⟨x :: xs, S2, μ2, sr2, .cons (hu.kx (st2.kx sr1) st2.pre) hus, k2⟩⟩
    · exact False.elim k1
  · subst ex
    obtain rfl : u = Value.ref a := rx
    refine getmeth_ok I1 ea hc hm l ?_
    refine PySem.W.callWith_K (first := [.ref a]) (h₀ := X.base) I.ok.mod.kin hm.kp (thn (ha.run pos pins s1 σ H1 _ I1 q) fun us s2 ⟨vs, H2, I2, r, q2⟩ => ⟨I2.kIn, ?_⟩) hst hpl
    exact cf pins s2 σ H2 (.ref a :: us) (.ref a :: vs) Q I2 (.cons rfl r) q2
theorem fe_meth0 {pl : Sem Bool} (cf : CalF X G W (.ref f) g) (hc : Cls X.K (G.cm c)) (hm : Meth X.K (G.cm c) m f) (hn : m ∉ G.cf c) (ho : PE X o (tE G N W (MF G) mo))
    (ht : eval (.Call (.Attribute o m apos) [] [] pos) X.env = (do
      let ov ← eval o X.env
      standAt apos.atName
      let (f, first) ← holding [ov] (getMethod ov m pl)
      callWith pos f first (backTo pos (starEach [] X.env)) (backToKw pos (keywordEach [] X.env))) := by rfl) : PE X (.Call (.Attribute o m apos) [] [] pos) (tE G N W (MF G) (cMeth c g mo cNil)) := by
  refine ⟨fun pins s σ H Q I ⟨ρ, S, μ, R, h⟩ => ?_⟩
  refine PySem.W.methodCall_KW (pl := pl) (thn (ho.run pins s σ H (fun x H1 => ∃ a dx fs, x = .ref a ∧ H1 a = some (.ins (G.cm c) dx fs) ∧ fs.lookup m = none ∧ ∃ xs S μ, StR G μ H1 S ∧ VRs G μ H1 xs [x] ∧ Out G W σ μ H1 (g xs S) fun v _ μ' H' => ∀ u, VR G μ' H' v u → Q u H') I
    ⟨ρ, S, μ, R, (Out.bind h).mono fun x S1 μ1 H1 st1 sr1 k1 u hu => ?_⟩) fun u s1 ⟨x, H1, I1, rx, a, dx, fs, ex, ea, l, q⟩ => ?_) ht
  · split at k1
    · rename_i hi
      obtain ⟨a, dx, fs, e1, e2, e3⟩ := isOf_at sr1 hu hi
      exact ⟨a, dx, fs, e1, e2, lookup_none (by rw [e3]; exact hn), [x], S1, μ1, sr1, .cons hu .nil, k1⟩
    · exact False.elim k1
  · subst ex
    obtain rfl : u = Value.ref a := rx
    refine getmeth_ok I1 ea hc hm l ?_
    exact PySem.W.callWith_K0 (first := [.ref a]) I1.kIn hm.kp (cf pins s1 σ H1 [.ref a] [.ref a] Q I1 (.cons rfl .nil) q)
end
end KL

set_option linter.all false
set_option maxRecDepth 100000
set_option maxHeartbeats 1000000
/-! KInit: instances as they are made; exceptions as they are made. -/
namespace KL
open PySem L2
section
variable {G : GP} {N : Fns} {W : WX} {X : Cx} {ex μ0 μ μ' : List Addr} {H0 H H' : Hp} {σ : St} {ρ : Env} {S S' : Store} {e a : Expr} {es : List Expr} {pos p : Pos} {ms : E (List Val)} {me ma : E Val} {f x : Str} {c k : Nat}
theorem putF_new {f : Str} {v : V} : ∀ {fs : List (Str × V)}, f ∉ fs.map (·.1) → putF f v fs = fs ++ [(f, v)]
  | [], _ => rfl
  | (g, y) :: r, h => by
    simp only [List.map_cons, List.mem_cons, not_or] at h
    show (if g = f then (g, v) :: r else (g, y) :: putF f v r) = _
    rw [if_neg (fun z => h.1 z.symm), putF_new h.2]
    rfl
def noOb : Slot → Bool
  | .ob _ _ => false
  | _ => true
/-- self.f = e, the k-th attribute, within __init__ -/
def sFldI (i c k : Nat) (a : E Val) : C := fun ρ S => (a ρ S).stm ρ fun x S1 => match ρ[i]? with
  | some (.ob c' xs) => if c' = c ∧ xs.length = k ∧ (ρ.set i .un).all noOb then .go .nx (ρ.set i (.ob c (xs ++ [x]))) S1 else .sk
  | _ => .sk
/-- an attribute that is laid by __init__: its place among the class's -/
structure FieldI (G : GP) (K : PySem.W.Frag) (c k : Nat) (f : Str) : Prop where
  fa : FieldAt G K c k f
  im : G.im (G.cm c) ((G.cf c).take k) = false
  le : (G.cf c).length ≤ 900
  imk : k + 1 < (G.cf c).length → G.im (G.cm c) ((G.cf c).take (k + 1)) = false
theorem not_take {l : List Str} {k : Nat} {f : Str} (nd : l.Nodup) (h : l[k]? = some f) : f ∉ l.take k := fun z => by
  obtain ⟨j, hj⟩ := List.mem_iff_getElem?.mp z
  have h1 : j < k := by
    have q := (List.getElem?_eq_some_iff.mp hj).1
    rw [List.length_take] at q
    omega
  rw [List.getElem?_take, if_pos h1] at hj
  obtain ⟨a1, a2⟩ := List.getElem?_eq_some_iff.mp h
  obtain ⟨b1, b2⟩ := List.getElem?_eq_some_iff.mp hj
  have q := (List.getElem_inj (h₀ := b1) (h₁ := a1) nd).mp (by rw [a2, b2])
  omega
theorem fs_fldI (i : Nat) {p' p2 : Pos} (hf : FieldI G X.K c k f) (he : PE X e (tE G N W (MF G) me)) (hN : X.N[i]? = some x := by rfl) (hv : Vis X.env.scope x := by first | exact Or.inl rfl | exact Or.inr (Or.inl rfl) | exact Or.inr (Or.inr rfl)) (hd : (x == ("__debug__" : Str)) = false := by decide)
    (hcd : (x == ("__classdict__" : Str)) = false := by decide) (hs : swapsWith e (some (.Attribute (.Name x p') f p2)) pos.line X.env = pure false := by rfl) : PS X (.Assign [.Attribute (.Name x p') f p2] e pos) (tS G N W ex μ0 H0 (sFldI i c k me)) :=
  ps_imp (ps_fld (pe_var hN hv hd hcd) he hs) fun D σ H ⟨ρ, S, μ, R, o⟩ => ⟨ρ, S, μ, R.rel, (stm_go R o).mono fun y S1 μ1 H1 st sr kk u hu => by
    obtain ⟨k1, R1⟩ := kk
    split at k1
    · rename_i c' xs hi
      split at k1
      · rename_i hc
        obtain ⟨rfl, rfl, hob⟩ := hc
        obtain ⟨o', e1, a, dx, fs, rfl, h1, h2, h3, h4, h5, h6⟩ := R1.rel.slot hi
        have hfk := hf.fa.at_
        have hlt : xs.length < (G.cf c').length := (List.getElem?_eq_some_iff.mp hfk).1
        have hfl : fs.length = xs.length := by
          have q := congrArg List.length h2
          rw [List.length_map, List.length_take] at q
          omega
        have hfe : f ∉ fs.map (·.1) := by rw [h2]; exact not_take hf.fa.nd hfk
        have hp := putF_new (v := u) hfe
        have nf : ∀ u, H1 a = some u → fixdT G u = false := fun u q => by rw [h1] at q; cases q; exact h4 hlt
        have kx := kx_upd (G := G) (o := .ins (G.cm c') dx (fs ++ [(f, u)])) nf
        have hax : a ∈ ex := R1.obj i c' xs a hi e1
        refine ⟨.ref a, e1, a, G.cm c', dx, fs, rfl, h1, hf.fa.cl, hf.fa.no, by have := hf.le; omega, ?_⟩
        rw [hp]
        have names : (fs ++ [(f, u)]).map (·.1) = (G.cf c').take (xs ++ [y]).length := by
          rw [List.map_append, h2, List.length_append, List.length_singleton, List.take_succ, hfk]
          rfl
        have others : ∀ (j : Nat) (d : Nat) (zs : List Val), j ≠ i → ρ[j]? ≠ some (.ob d zs) := fun j d zs hj q => by
          have z : (ρ.set i .un)[j]? = some (.ob d zs) := by rw [List.getElem?_set_ne (Ne.symm hj)]; exact q
          have w := List.all_eq_true.mp hob _ (List.mem_of_getElem? z)
          cases w
        refine k1 μ1 σ _ ⟨⟨by simpa using R1.rel.len, fun j s o g1 g2 => ?_, fun j l ys zs q g1 g2 g3 g4 => ?_, sr.upd h6 nf⟩, R1.st0.upd (.inr hax), R1.exm, fun j ys q g1 g2 => ?_, fun j d ys q g1 g2 => ?_⟩ (.of kx)
        · rcases set_get g1 with ⟨rfl, rfl⟩ | ⟨n1, g1⟩
          · rw [e1] at g2; cases g2
            refine ⟨a, dx, fs ++ [(f, u)], rfl, upd_same, names, by simp; omega, fun hl => ?_, ?_, h6⟩
            · rw [names, List.length_append, List.length_singleton]
              rw [List.length_append, List.length_singleton] at hl
              exact hf.imk hl
            · rw [List.map_append]
              exact (h5.append (.cons hu .nil)).kx kx (List.prefix_refl _)
          · have q := R1.rel.at_ j s o g1 g2
            cases s with
            | un => trivial
            | pl x => obtain ⟨u, e, v⟩ := q; exact ⟨u, e, v.kx kx (List.prefix_refl _)⟩
            | ow ys =>
              obtain ⟨p2, vs, rfl, q3, v, n⟩ := q
              have ne : p2 ≠ a := fun z => by rw [z, h1] at q3; cases q3
              exact ⟨p2, vs, rfl, by rw [upd_ne ne]; exact q3, v.kx kx (List.prefix_refl _), n⟩
            | ob d ys => exact absurd g1 (others j d ys n1)
            | pd n => obtain ⟨u, e, v⟩ := q; exact ⟨u, e, N.pdx _ _ _ _ _ kx v⟩
            | cl n r => obtain ⟨u, e, v⟩ := q; exact ⟨u, e, N.clx _ _ _ _ _ _ _ _ kx (List.prefix_refl _) v⟩
        · rcases set_get g1 with ⟨_, z⟩ | ⟨n1, g1⟩
          · cases z
          · rcases set_get g2 with ⟨_, z⟩ | ⟨n2, g2⟩
            · cases z
            · exact R1.rel.own j l ys zs q g1 g2 g3 g4
        · rcases set_get g1 with ⟨_, z⟩ | ⟨n1, g1⟩
          · cases z
          · exact R1.own j ys q g1 g2
        · rcases set_get g1 with ⟨rfl, z⟩ | ⟨n1, g1⟩
          · rw [e1] at g2; cases g2; exact hax
          · exact R1.obj j d ys q g1 g2
      · exact False.elim k1
    · exact False.elim k1⟩

/-! ### __init__ -/
abbrev FI := List Val → Store → R (List Val)
def startI (m c : Nat) (vs : List Val) : Env := .ob c [] :: (vs.map .pl ++ List.replicate (m - 1 - vs.length) .un)
def initF (n m c l : Nat) (b : C) : FI := fun vs S => if vs.length = n then (match b (startI m c vs) S with
  | .go .nx ρ S1 => (match (ρ[0]? : Option Slot) with
    | some (.ob c' fs) => if c' = c ∧ fs.length = l then .ok fs S1 else .sk
    | _ => .sk)
  | .er e _ S1 => .er e S1
  | _ => .sk) else .sk
/-- what an __init__'s outcome asks -/
def OutI (G : GP) (c : Nat) (x : Addr) (μ : List Addr) (H : Hp) (r : R (List Val)) (Q : VK) (E : XK) : Prop := match r with
  | .ok fs S' => ∀ μ' H', Step0 [x] μ H μ' H' → StR G μ' H' S' → x ∉ μ' → (∃ dx fl, H' x = some (.ins (G.cm c) dx fl) ∧ fl.map (·.1) = G.cf c ∧ VRs G μ' H' fs (fl.map (·.2))) → Q .non H'
  | .er e S' => ∀ cls d μ' H', Step0 [x] μ H μ' H' → StR G μ' H' S' → ER G μ' H' cls d e → E cls d H'
  | .sk => False
def spI (G : GP) (c : Nat) (g : FI) : Sp := fun vs H Q E => ∃ x dx vs' xs S μ, vs = .ref x :: vs' ∧ H x = some (.ins (G.cm c) dx []) ∧ x ∉ μ ∧ StR G μ H S ∧ VRs G μ H xs vs' ∧ OutI G c x μ H (g xs S) Q E
end
section
variable {P : Program} {w : World} {K : PySem.W.Frag} {mg : Str → Option Value} {base : Heap} {G : GP}
def InitOk (P : Program) (w : World) (K : PySem.W.Frag) (mg : Str → Option Value) (base : Heap) (G : GP) (k : Nat) (qual : Str) (st : Stmt) (f : Addr) (N : List Str) (b : C) : Prop :=
  ∀ (cdv : Value) (A : Around) (outer : List PySem.Env) (s : Shared) (H : Hp) (E : XK) (μ : List Addr) (x : Addr), Room k (A.deeper (PyProof.Rows.envOfC qual (defScope st) s.heap.objs.size f cdv)) →
    PSs (cxOf (L2.CX P w) P w K mg base N qual (defScope st) f cdv A outer s H E) (defBody st) (tS G Fns.none (WE0 E) [x] μ H b)
theorem initOk_of {y qual : Str} {st : Stmt} {f : Addr} {fd : FuncData} {N ps : List Str} {k n c : Nat} {b : C} (F : Fun K y qual st f fd) (S : FnScope N ps (defScope st)) (hn : ps.length = n + 1) (him : 0 < (G.cf c).length → G.im (G.cm c) [] = false) (h : InitOk P w K mg base G k qual st f N b) : FnOk P w K mg base (L2.CX P w) (k + 1) f fd ps (spI G c (initF n N.length c (G.cf c).length b)) := by
  have hpl : ps.length ≤ N.length := by have := congrArg List.length S.pre; rw [List.length_take] at this; omega
  have ln : ∀ (xs : List Val) (St : Store) (x : Addr) (μ : List Addr) (H : Hp) (Q : VK) (E : XK), OutI G c x μ H (initF n N.length c (G.cf c).length b xs St) Q E → xs.length = n := fun xs St x μ H Q E o => by
    unfold initF at o
    split at o
    · assumption
    · exact False.elim o
  refine F.okX S (fun vs H Q E ⟨x, dx, vs', xs, St, μ, e, hx, np, sr, r, o⟩ => by rw [e, hn, List.length_cons, ← r.length, ln _ _ _ _ _ _ _ o]) fun cdv A outer s H vs Q E hr ⟨x, dx, vs', xs, St, μ, e, hx, np, sr, r, o⟩ => ?_
  subst e
  have hl := ln _ _ _ _ _ _ _ o
  have hl2 := r.length
  have get : ∀ (i : Nat) (s : Slot), (startI N.length c xs)[i]? = some s → (i = 0 ∧ s = .ob c []) ∨ s = .un ∨ ∃ j y, i = j + 1 ∧ s = .pl y ∧ xs[j]? = some y := fun i s h => by
    unfold startI at h
    cases i with
    | zero => simp at h; exact .inl ⟨rfl, h.symm⟩
    | succ j =>
      rw [List.getElem?_cons_succ] at h
      by_cases hj : j < xs.length
      · rw [List.getElem?_append_left (by simpa using hj), List.getElem?_map] at h
        cases e : xs[j]? with
        | none => rw [e] at h; cases h
        | some y => rw [e] at h; cases h; exact .inr (.inr ⟨j, y, rfl, rfl, e⟩)
      · rw [List.getElem?_append_right (by simpa using hj), List.getElem?_replicate] at h
        split at h
        · cases h; exact .inr (.inl rfl)
        · cases h
  have s0 : (L2.start N (V.ref x :: vs'))[0]? = some (some (V.ref x)) := rfl
  have R : RelS G Fns.none [x] μ H μ (L2.start N (V.ref x :: vs')) H (startI N.length c xs) St := by
    refine ⟨⟨?_, fun i s o h1 h2 => ?_, fun i j xs' ys p h1 h2 _ _ => ?_, sr⟩, Step0.entry (fun a ha => by cases List.mem_singleton.mp ha; rw [hx]; intro z; cases z) (fun a ha o u => by cases List.mem_singleton.mp ha; rw [hx]; intro z; cases z), fun a ha => by cases List.mem_singleton.mp ha; exact np, fun i xs' p h1 _ => ?_, fun i c xs' p h1 h2 => ?_⟩
    · unfold startI L2.start
      simp; omega
    · rcases get i s h1 with ⟨rfl, rfl⟩ | rfl | ⟨j, y, rfl, rfl, hy⟩
      · rw [s0] at h2; cases h2
        exact ⟨x, dx, [], rfl, hx, rfl, Nat.zero_le _, him, .nil, np⟩
      · trivial
      · obtain ⟨u, e, v⟩ := r.get hy
        have hj : j < vs'.length := (List.getElem?_eq_some_iff.mp e).1
        unfold L2.start at h2
        rw [List.getElem?_append_left (by simp; omega), List.getElem?_map, List.getElem?_cons_succ, e] at h2
        cases h2
        exact ⟨u, rfl, v⟩
    · rcases get i _ h1 with ⟨_, e⟩ | e | ⟨j, y, _, e, _⟩ <;> cases e
    · rcases get i _ h1 with ⟨_, e⟩ | e | ⟨j, y, _, e, _⟩ <;> cases e
    · rcases get i _ h1 with ⟨rfl, e⟩ | e | ⟨j, y, _, e, _⟩
      · rw [s0] at h2; cases h2; exact List.mem_singleton.mpr rfl
      · cases e
      · cases e
  refine ⟨_, h cdv A outer s H E μ x hr, _, St, μ, R, ?_⟩
  unfold initF at o
  rw [if_pos hl] at o
  cases q : b (startI N.length c xs) St with
  | sk => rw [q] at o; exact o
  | er e ρ' S' => rw [q] at o; exact fun cls d μ' σ' H' R k er => o cls d μ' H' R.st0 R.rel.st er
  | go fl ρ' S' =>
    rw [q] at o
    cases fl with
    | nx =>
      have o : OutI G c x μ H (match (ρ'[0]? : Option Slot) with
        | some (.ob c' fs) => if c' = c ∧ fs.length = (G.cf c).length then .ok fs S' else .sk
        | _ => .sk) Q E := o
      split at o
      · rename_i c' fs h0
        split at o
        · rename_i hc
          obtain ⟨rfl, hfl⟩ := hc
          intro μ' σ' H' R' k
          obtain ⟨o', e1, a, dx', fl, rfl, g1, g2, g3, g4, g5, g6⟩ := R'.rel.slot h0
          have ha : a = x := List.mem_singleton.mp (R'.obj 0 _ _ a h0 e1)
          subst ha
          exact o μ' H' R'.st0 R'.rel.st g6 ⟨dx', fl, g1, by rw [g2, hfl, List.take_length], g5⟩
        · exact False.elim o
      · exact False.elim o
    | rt v => exact False.elim o
    | bk => exact False.elim o
    | ct => exact False.elim o
end

/-! ### C(..) -/
section
variable {G : GP} {N : Fns} {W : WX} {X : Cx} {μ μ' : List Addr} {H H' : Hp} {σ : St} {ρ : Env} {S S' : Store} {e a : Expr} {es : List Expr} {pos p : Pos} {ms : E (List Val)} {me ma : E Val} {f : Str} {fa : Addr} {fd : FuncData} {ps : List Str} {c k : Nat} {g : FI}
/-- an instance: told by its attributes, or shared -/
def mkF (c : Nat) (im : Bool) (g : FI) : F := fun vs S => (g vs S).bind fun fs S1 => if im then .ok (Val.obj c fs) S1 else .ok (Val.ref S1.length) (S1 ++ [Cell.ins c fs])
theorem Step0.made {x dx : Addr} {o1 o2 : HO} (h : Step0 [x] μ (L2.upd (L2.upd H dx o1) x o2) μ' H') (hx : H x = none) (hd : H dx = none) : Step μ H μ' H' := by
  have e : ∀ a o, H a = some o → L2.upd (L2.upd H dx o1) x o2 a = some o ∧ a ∉ [x] := fun a o q => by
    refine ⟨by rw [upd_ne (ne_of_none q hx), upd_ne (ne_of_none q hd)]; exact q, fun z => ?_⟩
    cases List.mem_singleton.mp z
    rw [hx] at q; cases q
  refine ⟨fun a o q n t => h.keep a o (e a o q).1 n (e a o q).2 t, fun a ps q n => h.tbl a ps (e a _ q).1 n (e a _ q).2, h.pre, fun a ha => ?_, fun a ob u q => h.fz a ob u (e a _ q).1⟩
  rcases h.new a ha with z | z
  · exact .inl z
  · refine .inr ?_
    cases q : H a with
    | none => rfl
    | some o => rw [(e a o q).1] at z; cases z
theorem StR.snoc {x : Addr} {cl : Cell} (sr : StR G μ H S) (np : x ∉ μ) (h : CellR G (μ ++ [x]) H cl x) : StR G (μ ++ [x]) H (S ++ [cl]) := by
  have pr : μ <+: μ ++ [x] := List.prefix_append _ _
  refine ⟨by simp [sr.len], ?_, sr.tb, fun n c a h1 h2 => ?_⟩
  · rw [List.nodup_append]
    exact ⟨sr.nd, by simp, fun b hb d hd z => np (by cases List.mem_singleton.mp hd; rw [← z]; exact hb)⟩
  · have hl := sr.len
    by_cases hn : n < S.length
    · rw [List.getElem?_append_left hn] at h1
      rw [List.getElem?_append_left (by omega)] at h2
      have q := sr.at_ n c a h1 h2
      cases c with
      | lst xs => obtain ⟨us, e, v⟩ := q; exact ⟨us, e, v.kx (Kx.refl H) pr⟩
      | ins c xs => obtain ⟨dx, fs, e, en, em, v⟩ := q; exact ⟨dx, fs, e, en, em, v.kx (Kx.refl H) pr⟩
      | dic kvs => obtain ⟨xs, e, d⟩ := q; exact ⟨xs, e, d.kx (Kx.refl H) pr⟩
      | sdic kvs => obtain ⟨xs, ob, e, d⟩ := q; exact ⟨xs, ob, e, d.kx (Kx.refl H) pr⟩
    · rw [List.getElem?_append_right (by omega)] at h1
      rw [List.getElem?_append_right (by omega)] at h2
      have e : n - S.length = 0 := by
        have q := (List.getElem?_eq_some_iff.mp h1).1
        simp at q; omega
      have e2 : n - μ.length = 0 := by omega
      rw [e] at h1; rw [e2] at h2
      simp at h1 h2
      subst h1 h2
      exact h
theorem cal_make {im : Bool} (M : Mk X.K (G.cm c) fa) (F : FnOk X.prog X.w X.K X.mg X.base (L2.CX X.prog X.w) k fa fd ps (spI G c g)) (him : G.im (G.cm c) (G.cf c) = im) (hr : Room (k + 1) X.A) (hb : Binds X.K fd ps []) (tk : Takes X W) : CalF X G W (.ref (G.cm c)) (mkF c im g) := by
  intro pins s σ H us vs Q I r ⟨xs, S, μ, sr, rr, o⟩
  have nx := I.hok.fresh (Nat.le_succ s.heap.objs.size)
  have nd := I.hok.fresh (Nat.le_refl s.heap.objs.size)
  have ndx : s.heap.objs.size ≠ s.heap.objs.size + 1 := Nat.ne_of_lt (Nat.lt_succ_self _)
  have I2 := Inv.made (C := G.cm c) I
  have e1 : ∀ a o, H a = some o → upd (upd H s.heap.objs.size (.own (s.heap.objs.size + 1))) (s.heap.objs.size + 1) (.ins (G.cm c) s.heap.objs.size []) a = some o := fun a o q => by
    rw [upd_ne (ne_of_none q nx), upd_ne (ne_of_none q nd)]; exact q
  have kx1 : Kx G H (upd (upd H s.heap.objs.size (.own (s.heap.objs.size + 1))) (s.heap.objs.size + 1) (.ins (G.cm c) s.heap.objs.size [])) := fun a o q _ => e1 a o q
  have npx : s.heap.objs.size + 1 ∉ μ := np_of sr.there nx
  have hq : spI G c g (V.ref (s.heap.objs.size + 1) :: vs) (upd (upd H s.heap.objs.size (.own (s.heap.objs.size + 1))) (s.heap.objs.size + 1) (.ins (G.cm c) s.heap.objs.size [])) (fun v H2 => v = .non ∧ Q (.ref (s.heap.objs.size + 1)) H2) (WE W σ) := by
    refine ⟨_, _, vs, xs, S, μ, rfl, upd_same, npx, sr.ext e1, rr.kx kx1 (List.prefix_refl _), ?_⟩
    have ob := o
    unfold mkF at ob
    cases hg : g xs S with
    | sk => rw [hg] at ob; exact ob
    | er e S' =>
      rw [hg] at ob
      exact fun cls d μ' H' st0 sr' er => ob cls d μ' H' (st0.made nx nd) sr' er
    | ok fs S' =>
      rw [hg] at ob
      intro μ' H' st0 sr' np' ⟨dx, fl, h1, h2, h3⟩
      refine ⟨rfl, ?_⟩
      have base := st0.made nx nd
      cases im with
      | true => exact ob μ' H' base sr' _ (.obj h1 h2 him h3)
      | false =>
        have pr : μ' <+: μ' ++ [s.heap.objs.size + 1] := List.prefix_append _ _
        have sr2 := sr'.snoc (cl := .ins c fs) np' ⟨dx, fl, h1, h2, him, h3.kx (Kx.refl H') pr⟩
        have st2 : Step μ H (μ' ++ [s.heap.objs.size + 1]) H' := ⟨base.keep, base.tbl, base.pre.trans pr, fun a ha => by
          rcases List.mem_append.mp ha with z | z
          · exact base.new a z
          · cases List.mem_singleton.mp z; exact .inr nx, base.fz⟩
        refine ob _ H' st2 sr2 _ (.ref ?_)
        rw [← sr'.len, List.getElem?_append_right (Nat.le_refl _)]
        simp
  have r2 : Vals (V.ref (s.heap.objs.size + 1) :: vs) (Value.ref (s.heap.objs.size + 1) :: us) := .cons rfl r
  have hl : (Value.ref (s.heap.objs.size + 1) :: us).length = ps.length := by
    rw [← r2.length]; exact F.len _ _ _ _ hq
  have b := hb _ (Value.ref (s.heap.objs.size + 1) :: us) I2.kIn (by rw [List.append_nil]; exact hl)
  rw [List.append_nil] at b
  refine wpAny_call (make_map (f := fa) I.kIn M.makes M.init (beq_iff_eq.mp M.fn) (codeAny_mono (F.run _ X.stack _ _ ⟨_ :: us, []⟩ _ _ _ _ (hr.make _ us []) (I2.env0.make _ us []) b r2 hq) fun r s' hq' => ?_))
  cases r with
  | error e => exact passAt tk σ pins _ _ e s' I2 hq'
  | ok fl =>
    cases fl with
    | ret u =>
      obtain ⟨v, H', I3, rv, ev, q3⟩ := I2.after hq'
      subst ev
      exact ⟨rv, ⟨V.ref (s.heap.objs.size + 1), H', I3, rfl, q3⟩⟩
    | next => exact False.elim hq'
    | brk => exact False.elim hq'
    | cont => exact False.elim hq'
end
end KL

set_option linter.all false
set_option maxRecDepth 100000
set_option maxHeartbeats 1000000
/-! KExc: own exceptions with one attribute. -/
namespace KL
open PySem L2
section
variable {P : Program} {w : World} {K : PySem.W.Frag} {mg : Str → Option Value} {base : Heap} {G : GP}
/-- the promise of «self.f = y» as an exception's __init__ -/
def spX (C : Addr) (f : Str) : Sp := fun vs H Q _ => ∃ a y, vs = [.ref a, y] ∧ H a = some (exo a C none) ∧ ∀ dx, H dx = none → dx ≠ a → Q .non (upd (upd H dx (exd dx [(f, y)])) a (exo a C (some dx)))
theorem initX_of {qual : Str} {st : Stmt} {fa C : Addr} {fd : FuncData} {y f x0 x1 : Str} {p1 p2 p3 p4 : Pos} (F : Fun K y qual st fa fd) (S : FnScope [x0, x1] [x0, x1] (defScope st)) (hbody : defBody st = [.Assign [.Attribute (.Name x0 p1) f p2] (.Name x1 p3) p4])
    (T : OexC K C) (hno : PySem.W.findIn K (.ref C) f = some none) (v0 : (defScope st).names.lookup x0 = some .local) (v1 : (defScope st).names.lookup x1 = some .local) (d0 : (x0 == ("__debug__" : Str)) = false := by decide) (c0 : (x0 == ("__classdict__" : Str)) = false := by decide)
    (d1 : (x1 == ("__debug__" : Str)) = false := by decide) (c1 : (x1 == ("__classdict__" : Str)) = false := by decide) : FnOk P w K mg base (L2.CX P w) 1 fa fd [x0, x1] (spX C f) := by
  refine F.okX S (fun vs H Q E ⟨a, y, e, _⟩ => by rw [e]; rfl) fun cdv A outer s H vs Q E hr ⟨a, y, e, ha, q⟩ => ?_
  subst e
  rw [hbody]
  refine ⟨_, pss_one (ps_ost (pe_var (i := 0) rfl (.inl v0) d0 c0) (pe_var (i := 1) rfl (.inl v1) d1 c1) rfl), ?_⟩
  exact ⟨y, rfl, .ref a, rfl, a, C, rfl, T, hno, .inl ⟨ha, fun dx h1 h2 => q dx h1 h2⟩⟩
end
section
variable {G : GP} {N : Fns} {W : WX} {X : Cx} {μ μ' : List Addr} {H H' : Hp} {σ : St} {ρ : Env} {S S' : Store} {e : Expr} {pos p : Pos} {me : E Val} {f x : Str} {fa : Addr} {fd : FuncData} {ps : List Str} {c k : Nat}
def cExc (c : Nat) (a : E Val) : E Val := fun ρ S => (a ρ S).bind fun x S1 => .ok (.obj c [x]) S1
theorem fmk_exc (T : OexC X.K (G.cm c)) (iC : PySem.W.findIn X.K (.ref (G.cm c)) "__init__" = some (some (.ref fa))) (tI : PySem.W.typeIn X.K (.ref fa) = some (.type "function")) (hf : G.cf c = [f])
    (F : FnOk X.prog X.w X.K X.mg X.base (L2.CX X.prog X.w) k fa fd ps (spX (G.cm c) f)) (hr : Room (k + 1) X.A) (hb : Binds X.K fd ps []) (hx : Passes (L2.CX X.prog X.w) X (fun _ _ _ => False)) (hg : Gl X x) (hm : X.mg x = some (.ref (G.cm c))) (he : PE X e (tE G N W (MF G) me))
    (hdb : (x == ("__debug__" : Str)) = false := by decide) (hs : starEach [e] X.env = (false, eval e X.env) :: starEach [] X.env := by rfl) (hpl : (backTo pos (starEach [] X.env)).any (·.1) = false := by rfl) :
    PMk X (.Call (.Name x p) [e] [] pos) (tMk G N W (cExc c me)) := by
  intro pins s σ H Q I ⟨ρ, S, μ, R, o⟩
  refine pmk_oex (ds := []) (dvs := []) T iC tI F hr hb .nil hx hg hm (pa_cons he pa_nil hs) hdb hs hpl pins s σ H Q I ?_
  refine ⟨ρ, S, μ, R, (Out.bind o).mono fun v S1 μ1 H1 st1 sr1 k1 u hu => ?_⟩
  refine ⟨by show 1 ≤ 1000; decide, fun a ha => ⟨a, u, rfl, upd_same, fun dx h1 h2 => ⟨rfl, ?_⟩⟩⟩
  have hd : H1 dx = none := by rw [upd_ne h2] at h1; exact h1
  refine ⟨dx, [(f, u)], upd_same, by rw [upd_ne h2, upd_same], hd, ?_⟩
  have eq : upd (del (upd (upd (upd H1 a (exo a (G.cm c) none)) dx (exd dx [(f, u)])) a (exo a (G.cm c) (some dx))) a) dx (.xd [(f, u)]) = upd H1 dx (.xd [(f, u)]) := by
    funext b
    by_cases hb : b = dx
    · subst hb; rw [upd_same, upd_same]
    · rw [upd_ne hb, upd_ne hb]
      by_cases hba : b = a
      · subst hba; rw [del_same, ha]
      · rw [del_ne hba, upd_ne hba, upd_ne hb, upd_ne hba]
  rw [eq]
  have st2 : Step μ1 H1 μ1 (upd H1 dx (.xd [(f, u)])) := Step.made hd
  have sr2 := sr1.ext (ext_upd (o := .xd [(f, u)]) hd)
  exact k1 μ1 _ st2 sr2 _ _ (.own upd_same (by rw [hf]; rfl) (.cons (hu.kx (st2.kx sr1) st2.pre) .nil))
end
end KL

set_option linter.all false
set_option maxRecDepth 100000
set_option maxHeartbeats 1000000
/-! KBi: built-in functions and types, by values. -/
namespace KL
open PySem L2
section
variable {G : GP} {N : Fns} {W : WX} {X : Cx} {μ μ' : List Addr} {H H' : Hp} {σ : St} {ρ : Env} {S S' : Store} {e a : Expr} {es : List Expr} {pos p : Pos} {ms : E (List Val)} {me ma : E Val} {x : Str} {id T : String} {f : List Val → Option Val}
theorem bi_imp {Q : VK} (h : tE G N W (MN G) (cBi f ms) σ H Q) : tCB (rC G f) (tA G N W (MBs G) ms) σ H Q := by
  obtain ⟨ρ, S, μ, R, o⟩ := h
  refine ⟨ρ, S, μ, R, (Out.bind o).mono fun xs S1 μ1 H1 st1 sr1 k1 us hus => ?_⟩
  obtain ⟨z, e, k2⟩ := Out.of k1
  exact ⟨μ1, _, z, sr1.there, hus.dr sr1, e, fun q H2 ex m => k2 μ1 H2 (Step.ext ex) (sr1.ext ex) q (MN.back st1 sr1 m)⟩
theorem fe_bi (hc : CallR X (.builtin id) (rC G f)) (hg : Gl X x) (hm : X.mg x = none) (hv : bootBuiltins x = some (.builtin id)) (ha : PA X (e :: es) (tA G N W (MBs G) ms)) (hn : x ≠ "__name__" := by decide) (hdb : (x == ("__debug__" : Str)) = false := by decide)
    (he : starEach (e :: es) X.env = (false, eval e X.env) :: starEach es X.env := by rfl) (hpl : (backTo pos (starEach es X.env)).any (·.1) = false := by rfl) : PE X (.Call (.Name x p) (e :: es) [] pos) (tE G N W (MN G) (cBi f ms)) :=
  pe_imp (pe_callB hc hg hm hv ha hn hdb he hpl) fun _ _ _ q => bi_imp q
theorem fe_ty (hc : CallR X (.type T) (rC G f)) (hg : Gl X x) (hm : X.mg x = none) (hv : bootBuiltins x = some (.type T)) (ha : PA X (e :: es) (tA G N W (MBs G) ms)) (hn : x ≠ "__name__" := by decide) (hdb : (x == ("__debug__" : Str)) = false := by decide)
    (he : starEach (e :: es) X.env = (false, eval e X.env) :: starEach es X.env := by rfl) (hpl : (backTo pos (starEach es X.env)).any (·.1) = false := by rfl) : PE X (.Call (.Name x p) (e :: es) [] pos) (tE G N W (MN G) (cBi f ms)) :=
  pe_imp (pe_callTy hc hg hm hv ha hn hdb he hpl) fun _ _ _ q => bi_imp q
theorem cr_imp {v : Value} {r r' : List V → Hp → VK → Prop} (h : CallR X v r) (i : ∀ us H Q, r' us H Q → r us H Q) : CallR X v r' := fun pins s σ H us vs Q I rv q => h pins s σ H us vs Q I rv (i _ _ _ q)
theorem same {H : Hp} : ∀ a o, H a = some o → H a = some o := fun _ _ h => h
theorem RDs.one {x : Val} {us : List V} (h : RDs G μ H [x] us) : ∃ u, us = [u] ∧ RD G μ H x u := by
  cases h with
  | cons a r => cases r; exact ⟨_, rfl, a⟩
theorem RDs.two {x y : Val} {us : List V} (h : RDs G μ H [x, y] us) : ∃ u v, us = [u, v] ∧ RD G μ H x u ∧ RD G μ H y v := by
  cases h with
  | cons a r => cases r with
    | cons b r => cases r; exact ⟨_, _, rfl, a, b⟩
/-- a value, looked at, that is a list or a tuple -/
def sqOf : Val → Option (List Val)
  | .tup xs => some xs
  | .lst xs => some xs
  | .arr xs => some xs
  | _ => none
theorem sq_rd {x : Val} {xs : List Val} {u : V} (e : sqOf x = some xs) (h : RD G μ H x u) : ∃ p us, u = .ref p ∧ (SqL G.K H p us ∨ SqT G.K H p us) ∧ VRs G μ H xs us := by
  cases x <;> cases e
  · obtain ⟨a, us, e, t, r⟩ := h.tup; exact ⟨a, us, e, .inr t, r⟩
  · obtain ⟨a, us, e, t, r⟩ := h.sq; exact ⟨a, us, e, .inl t, r⟩
  · obtain ⟨a, us, e, t, r⟩ := h.arr; exact ⟨a, us, e, .inl t, r⟩

def bAbs : List Val → Option Val
  | [.int i] => some (.int (if i < 0 then -i else i))
  | _ => none
theorem cb_abs : CallR X (.builtin "abs") (rC G bAbs) := cr_imp call_abs fun us H Q ⟨μ, xs, z, th, r, e, q⟩ => by
  unfold bAbs at e
  split at e
  · cases e
    obtain ⟨u, rfl, h⟩ := r.one
    cases h.int
    exact ⟨_, rfl, q _ H same (mn_int _)⟩
  · cases e
def bInt : List Val → Option Val
  | [.int i] => some (.int i)
  | [.bl k] => some (.int (if k then 1 else 0))
  | _ => none
theorem cb_int : CallR X (.type "int") (rC G bInt) := cr_imp call_int1 fun us H Q ⟨μ, xs, z, th, r, e, q⟩ => by
  unfold bInt at e
  split at e
  · cases e
    obtain ⟨u, rfl, h⟩ := r.one
    cases h.int
    exact .inl ⟨_, rfl, q _ H same (mn_int _)⟩
  · cases e
    obtain ⟨u, rfl, h⟩ := r.one
    cases h.bl
    exact .inr ⟨_, rfl, q _ H same (mn_int _)⟩
  · cases e
/-- int(e) of a text of digits -/
def bIntT : List Val → Option Val
  | [.str a] => if a.length ≤ 640 then (PySem.intText? a).map Val.int else none
  | _ => none
theorem cb_intT : CallR X (.type "int") (rC G bIntT) := cr_imp call_int_str fun us H Q ⟨μ, xs, z, th, r, e, q⟩ => by
  unfold bIntT at e
  split at e
  · rename_i y
    obtain ⟨u, rfl, h⟩ := r.one
    cases h.str
    split at e
    · rename_i hl
      cases ht : PySem.intText? y with
      | none => rw [ht] at e; cases e
      | some n => rw [ht] at e; cases e; exact ⟨_, n, rfl, ht, hl, q _ H same (mn_int _)⟩
    · cases e
  · cases e
def bStr : List Val → Option Val
  | [.int i] => if i.natAbs.log2 < 1920 then some (.str (toString i)) else none
  | _ => none
theorem cb_str : CallR X (.type "str") (rC G bStr) := cr_imp call_str_int fun us H Q ⟨μ, xs, z, th, r, e, q⟩ => by
  unfold bStr at e
  split at e
  · obtain ⟨u, rfl, h⟩ := r.one
    cases h.int
    split at e
    · rename_i hl
      cases e
      exact ⟨_, rfl, hl, q _ H same (mn_str _)⟩
    · cases e
  · cases e
def bBool : List Val → Option Val
  | [.int i] => some (.bl (i != 0))
  | [.bl k] => some (.bl k)
  | _ => none
theorem cb_bool : CallR X (.type "bool") (rC G bBool) := cr_imp call_bool1 fun us H Q ⟨μ, xs, z, th, r, e, q⟩ => by
  unfold bBool at e
  split at e
  · cases e
    obtain ⟨u, rfl, h⟩ := r.one
    cases h.int
    exact .inl ⟨_, rfl, q _ H same (mn_bl _)⟩
  · cases e
    obtain ⟨u, rfl, h⟩ := r.one
    cases h.bl
    exact .inr ⟨_, rfl, q _ H same (mn_bl _)⟩
  · cases e
def bLen : List Val → Option Val
  | [.str a] => if a.length ≤ big then some (.int (a.length : Nat)) else none
  | [x] => (sqOf x).map fun xs => .int (xs.length : Nat)
  | _ => none
theorem cb_len (hK : X.K = G.K) : CallR X (.builtin "len") (rC G bLen) := cr_imp call_len fun us H Q ⟨μ, xs, z, th, r, e, q⟩ => by
  unfold bLen at e
  split at e
  · obtain ⟨u, rfl, h⟩ := r.one
    cases h.str
    split at e
    · rename_i hl
      cases e
      exact ⟨_, _, rfl, ⟨hl, rfl⟩, q _ H same (mn_int _)⟩
    · cases e
  · rename_i x _
    obtain ⟨u, rfl, h⟩ := r.one
    cases hx : sqOf x with
    | none => rw [hx] at e; cases e
    | some ys =>
      rw [hx] at e; cases e
      obtain ⟨p, us, rfl, t, rr⟩ := sq_rd hx h
      refine ⟨.ref p, us.length, rfl, ?_, by rw [← rr.length]; exact q _ H same (mn_int _)⟩
      rw [← hK] at t
      rcases t with t | t
      · exact .inl ⟨us, t, rfl⟩
      · exact .inr ⟨us, t, rfl⟩
  · cases e
theorem asInts_len : ∀ {xs : List Val} {ns : List Int}, asInts xs = some ns → xs = ns.map Val.int
  | [], _, h => by cases h; rfl
  | x :: xs, ns, h => by
    cases x with
    | int i =>
      have h' : (asInts xs).map (i :: ·) = some ns := h
      cases q : asInts xs with
      | none => rw [q] at h'; cases h'
      | some ms => rw [q] at h'; cases h'; rw [asInts_len q]; rfl
    | _ => cases h
def bSum : List Val → Option Val
  | [.lst xs] => (asInts xs).map fun ns => .int ns.sum
  | _ => none
theorem cb_sum (hK : X.K = G.K) (hc : X.calm = true) : CallR X (.builtin "sum") (rC G bSum) := cr_imp (cr_sum hc) fun us H Q ⟨μ, xs, z, th, r, e, q⟩ => by
  unfold bSum at e
  split at e
  · rename_i ys
    obtain ⟨u, rfl, h⟩ := r.one
    obtain ⟨p, us, rfl, t, rr⟩ := h.sq
    cases hx : asInts ys with
    | none => rw [hx] at e; cases e
    | some ns =>
      rw [hx] at e; cases e
      have := asInts_vr rr hx
      subst this
      rw [← hK] at t
      exact ⟨p, ns, rfl, t, q _ H same (mn_int _)⟩
  · cases e
/-- the greatest, the least of a list that is not empty -/
def maxI : Int → List Int → Int
  | m, [] => m
  | m, n :: ns => maxI (if n > m then n else m) ns
def minI : Int → List Int → Int
  | m, [] => m
  | m, n :: ns => minI (if n < m then n else m) ns
theorem maxI_is : ∀ (ns : List Int) (m : Int), maxI m ns ∈ m :: ns ∧ ∀ y, y ∈ m :: ns → y ≤ maxI m ns
  | [], m => ⟨List.mem_singleton.mpr rfl, fun y h => by rw [List.mem_singleton.mp h]; exact Int.le_refl _⟩
  | n :: ns, m => by
    obtain ⟨h1, h2⟩ := maxI_is ns (if n > m then n else m)
    have z := h2 _ (List.mem_cons_self ..)
    refine ⟨?_, fun y hy => ?_⟩
    · unfold maxI
      rcases List.mem_cons.mp h1 with e | e
      · rw [e]; split
        · exact List.mem_cons_of_mem _ (List.mem_cons_self ..)
        · exact List.mem_cons_self ..
      · exact List.mem_cons_of_mem _ (List.mem_cons_of_mem _ e)
    · unfold maxI
      rcases List.mem_cons.mp hy with e | e
      · rw [e]; refine Int.le_trans ?_ z; split <;> omega
      · rcases List.mem_cons.mp e with e | e
        · rw [e]; refine Int.le_trans ?_ z; split <;> omega
        · exact h2 y (List.mem_cons_of_mem _ e)
theorem minI_is : ∀ (ns : List Int) (m : Int), minI m ns ∈ m :: ns ∧ ∀ y, y ∈ m :: ns → minI m ns ≤ y
  | [], m => ⟨List.mem_singleton.mpr rfl, fun y h => by rw [List.mem_singleton.mp h]; exact Int.le_refl _⟩
  | n :: ns, m => by
    obtain ⟨h1, h2⟩ := minI_is ns (if n < m then n else m)
    have z := h2 _ (List.mem_cons_self ..)
    refine ⟨?_, fun y hy => ?_⟩
    · unfold minI
      rcases List.mem_cons.mp h1 with e | e
      · rw [e]; split
        · exact List.mem_cons_of_mem _ (List.mem_cons_self ..)
        · exact List.mem_cons_self ..
      · exact List.mem_cons_of_mem _ (List.mem_cons_of_mem _ e)
    · unfold minI
      rcases List.mem_cons.mp hy with e | e
      · rw [e]; refine Int.le_trans z ?_; split <;> omega
      · rcases List.mem_cons.mp e with e | e
        · rw [e]; refine Int.le_trans z ?_; split <;> omega
        · exact h2 y (List.mem_cons_of_mem _ e)
def bMin : List Val → Option Val
  | [.int i, .int j] => some (.int (if j < i then j else i))
  | [.lst xs] => match asInts xs with
    | some (m :: ns) => some (.int (minI m ns))
    | _ => none
  | _ => none
def bMax : List Val → Option Val
  | [.int i, .int j] => some (.int (if j > i then j else i))
  | [.lst xs] => match asInts xs with
    | some (m :: ns) => some (.int (maxI m ns))
    | _ => none
  | _ => none
theorem cb_min (hK : X.K = G.K) (hc : X.calm = true) : CallR X (.builtin "min") (rC G bMin) := fun pins s σ H us vs Q I rv ⟨μ, xs, z, th, r, e, q⟩ => by
  unfold bMin at e
  split at e
  · cases e
    obtain ⟨u, v, rfl, h, h2⟩ := r.two
    cases h.int
    cases h2.int
    exact call_min2 hc pins s σ H _ vs Q I rv ⟨_, _, rfl, q _ H same (mn_int _)⟩
  · rename_i ys
    obtain ⟨u, rfl, h⟩ := r.one
    obtain ⟨p, us, rfl, t, rr⟩ := h.sq
    split at e
    · rename_i m ns hx
      cases e
      have := asInts_vr rr hx
      subst this
      rw [← hK] at t
      refine cr_min hc pins s σ H _ vs Q I rv ⟨p, m :: ns, rfl, t, Nat.succ_pos _, fun k h1 h2 => ?_⟩
      obtain ⟨a, b⟩ := minI_is ns m
      have e : k = minI m ns := Int.le_antisymm (h2 _ a) (b k h1)
      subst e
      exact q _ H same (mn_int _)
    · cases e
  · cases e
theorem cb_max (hK : X.K = G.K) (hc : X.calm = true) : CallR X (.builtin "max") (rC G bMax) := fun pins s σ H us vs Q I rv ⟨μ, xs, z, th, r, e, q⟩ => by
  unfold bMax at e
  split at e
  · cases e
    obtain ⟨u, v, rfl, h, h2⟩ := r.two
    cases h.int
    cases h2.int
    exact call_max2 hc pins s σ H _ vs Q I rv ⟨_, _, rfl, q _ H same (mn_int _)⟩
  · rename_i ys
    obtain ⟨u, rfl, h⟩ := r.one
    obtain ⟨p, us, rfl, t, rr⟩ := h.sq
    split at e
    · rename_i m ns hx
      cases e
      have := asInts_vr rr hx
      subst this
      rw [← hK] at t
      refine cr_max hc pins s σ H _ vs Q I rv ⟨p, m :: ns, rfl, t, Nat.succ_pos _, fun k h1 h2 => ?_⟩
      obtain ⟨a, b⟩ := maxI_is ns m
      have e : k = maxI m ns := Int.le_antisymm (b k h1) (h2 _ a)
      subst e
      exact q _ H same (mn_int _)
    · cases e
  · cases e
def asBls : List Val → Option (List Bool)
  | [] => some []
  | .bl i :: r => (asBls r).map (i :: ·)
  | _ :: _ => none
theorem asBls_vr : ∀ {xs : List Val} {us : List V} {ns : List Bool}, VRs G μ H xs us → asBls xs = some ns → us = ns.map V.bl
  | _, _, _, .nil, e => by cases e; rfl
  | _, _, ns, .cons (x := x) (xs := xs) h r, e => by
    cases x with
    | bl b =>
      have e' : (asBls xs).map (b :: ·) = some ns := e
      cases q : asBls xs with
      | none => rw [q] at e'; cases e'
      | some ms =>
        rw [q] at e'; cases e'
        cases h
        rw [asBls_vr r q]; rfl
    | _ => cases e
def bAll : List Val → Option Val
  | [.lst xs] => (asBls xs).map fun ns => .bl (ns.all _root_.id)
  | _ => none
theorem cb_all (hK : X.K = G.K) (hc : X.calm = true) : CallR X (.builtin "all") (rC G bAll) := cr_imp (cr_all hc) fun us H Q ⟨μ, xs, z, th, r, e, q⟩ => by
  unfold bAll at e
  split at e
  · rename_i ys
    obtain ⟨u, rfl, h⟩ := r.one
    obtain ⟨p, us, rfl, t, rr⟩ := h.sq
    cases hx : asBls ys with
    | none => rw [hx] at e; cases e
    | some ns =>
      rw [hx] at e; cases e
      have := asBls_vr rr hx
      subst this
      rw [← hK] at t
      exact ⟨p, ns, rfl, t, q _ H same (mn_bl _)⟩
  · cases e
/-- tuple(e), list(e) -/
def bTup : List Val → Option Val
  | [x] => (sqOf x).map Val.tup
  | _ => none
theorem mn_tupOld {p : Addr} {xs : List Val} {us : List V} (t : SqT G.K H p us) (r : VRs G μ H xs us) : MN G μ H H (.tup xs) (.ref p) := .inr ⟨(fun _ e => by cases e), .tup t r⟩
theorem cb_tup (hK : X.K = G.K) : CallR X (.type "tuple") (rC G bTup) := cr_imp call_tuple_of fun us H Q ⟨μ, xs, z, th, r, e, q⟩ => by
  unfold bTup at e
  split at e
  · rename_i x
    obtain ⟨u, rfl, h⟩ := r.one
    cases hx : sqOf x with
    | none => rw [hx] at e; cases e
    | some ys =>
      rw [hx] at e; cases e
      obtain ⟨p, us, rfl, t, rr⟩ := sq_rd hx h
      refine ⟨p, us, rfl, ?_⟩
      rcases t with t | t
      · rw [hK]; exact .inl ⟨t, fun l hl => q _ _ (ext_upd hl) (mn_tup hl rr)⟩
      · refine .inr ⟨by rw [hK]; exact t, q _ H same (mn_tupOld t rr)⟩
  · cases e
def bLst : List Val → Option Val
  | [x] => (sqOf x).map Val.lst
  | _ => none
theorem cb_lst (hK : X.K = G.K) : CallR X (.type "list") (rC G bLst) := cr_imp call_list_of fun us H Q ⟨μ, xs, z, th, r, e, q⟩ => by
  unfold bLst at e
  split at e
  · rename_i x
    obtain ⟨u, rfl, h⟩ := r.one
    cases hx : sqOf x with
    | none => rw [hx] at e; cases e
    | some ys =>
      rw [hx] at e; cases e
      obtain ⟨p, us, rfl, t, rr⟩ := sq_rd hx h
      exact ⟨p, us, rfl, by rw [hK]; exact t, fun l hl => q _ _ (ext_upd hl) (mn_lst hl (np_of th hl) rr)⟩
  · cases e
/-- list(range(n)), tuple(range(n)) -/
def cLstRg (a : E Val) : E Val := fun ρ S => (a ρ S).bind fun x S1 => match x with
  | .int n => if -(2 ^ 62) ≤ n ∧ n ≤ big then .ok (.lst (rngV 0 n.toNat)) S1 else .sk
  | _ => .sk
def cTupRg (a : E Val) : E Val := fun ρ S => (a ρ S).bind fun x S1 => match x with
  | .int n => if -(2 ^ 62) ≤ n ∧ n ≤ big then .ok (.tup (rngV 0 n.toNat)) S1 else .sk
  | _ => .sk
theorem vrs_rg (n : Int) : VRs G μ H (rngV 0 n.toNat) (rgV 0 n) := by
  unfold rngV rgV
  rw [show (n - 0).toNat = n.toNat by rw [Int.sub_zero]]
  generalize n.toNat = k
  induction k with
  | zero => exact .nil
  | succ k ih =>
    rw [List.range_succ, List.map_append, List.map_append]
    exact ih.append (.cons (.int _) .nil)
theorem fe_lstRg {p2 pos2 : Pos} (hc : X.calm = true) (hg : Gl X "list") (hm : X.mg "list" = none) (hg2 : Gl X "range") (hm2 : X.mg "range" = none) (ha : PE X a (tE G N W (MF G) ma)) (na : starEach [a] X.env = (false, eval a X.env) :: starEach [] X.env := by rfl)
    (na2 : starEach [.Call (.Name "range" p2) [a] [] pos2] X.env = (false, eval (.Call (.Name "range" p2) [a] [] pos2) X.env) :: starEach [] X.env := by rfl) : PE X (.Call (.Name "list" p) [.Call (.Name "range" p2) [a] [] pos2] [] pos) (tE G N W (MN G) (cLstRg ma)) :=
  pe_imp (pe_listRg hc hg hm (prg_1 hg2 hm2 ha na) na2) fun σ H Q ⟨ρ, S, μ, R, o⟩ => ⟨ρ, S, μ, R, (Out.bind o).mono fun x S1 μ1 H1 st1 sr1 k1 u hu => by
    split at k1
    · rename_i n
      split at k1
      · rename_i hn
        cases hu
        have b := hn.2
        simp only [big] at b
        refine ⟨n, rfl, ⟨by omega, by omega, by omega, by omega, by omega⟩, fun q hq => ?_⟩
        exact k1 μ1 _ (Step.made hq) (sr1.ext (ext_upd hq)) _ (MN.back st1 sr1 (mn_lst hq (np_of sr1.there hq) (vrs_rg n)))
      · exact False.elim k1
    · exact False.elim k1⟩
theorem fe_tupRg {p2 pos2 : Pos} (hc : X.calm = true) (hg : Gl X "tuple") (hm : X.mg "tuple" = none) (hg2 : Gl X "range") (hm2 : X.mg "range" = none) (ha : PE X a (tE G N W (MF G) ma)) (na : starEach [a] X.env = (false, eval a X.env) :: starEach [] X.env := by rfl)
    (na2 : starEach [.Call (.Name "range" p2) [a] [] pos2] X.env = (false, eval (.Call (.Name "range" p2) [a] [] pos2) X.env) :: starEach [] X.env := by rfl) : PE X (.Call (.Name "tuple" p) [.Call (.Name "range" p2) [a] [] pos2] [] pos) (tE G N W (MF G) (cTupRg ma)) :=
  pe_imp (pe_tupRg hc hg hm (prg_1 hg2 hm2 ha na) na2) fun σ H Q ⟨ρ, S, μ, R, o⟩ => ⟨ρ, S, μ, R, (Out.bind o).mono fun x S1 μ1 H1 st1 sr1 k1 u hu => by
    split at k1
    · rename_i n
      split at k1
      · rename_i hn
        cases hu
        have b := hn.2
        simp only [big] at b
        refine ⟨n, rfl, ⟨by omega, by omega, by omega, by omega, by omega⟩, fun q hq => ?_⟩
        exact k1 μ1 _ (Step.made hq) (sr1.ext (ext_upd hq)) _ (.tup (.inl (.inl upd_same)) (vrs_rg n))
      · exact False.elim k1
    · exact False.elim k1⟩
def bDivmod : List Val → Option Val
  | [.int i, .int j] => if 0 < j ∧ j < 2 ^ 70 then some (.tup [.int (i / j), .int (i % j)]) else none
  | _ => none
theorem cb_divmod : CallR X (.builtin "divmod") (rC G bDivmod) := cr_imp call_divmodW fun us H Q ⟨μ, xs, z, th, r, e, q⟩ => by
  unfold bDivmod at e
  split at e
  · rename_i i j
    obtain ⟨u, v, rfl, h, h2⟩ := r.two
    cases h.int
    cases h2.int
    split at e
    · rename_i hj
      cases e
      have hl : j.natAbs < 2 ^ 70 := by omega
      refine ⟨i, j, rfl, ⟨hj.1, PyProof.noPylong_of_log2 ?_⟩, fun p hp => q _ _ (ext_upd hp) (mn_tup hp (.cons (.int _) (.cons (.int _) .nil)))⟩
      have : j.natAbs ≠ 0 := by omega
      have := (Nat.log2_lt this).mpr hl
      omega
    · cases e
  · cases e
/-! sorted -/
def insI (x : Int) : List Int → List Int
  | [] => [x]
  | y :: ys => if x ≤ y then x :: y :: ys else y :: insI x ys
def srtI : List Int → List Int
  | [] => []
  | x :: xs => insI x (srtI xs)
theorem insI_perm (x : Int) : ∀ ys : List Int, (insI x ys).Perm (x :: ys)
  | [] => .refl _
  | y :: ys => by
    unfold insI
    split
    · exact .refl _
    · exact ((insI_perm x ys).cons y).trans (.swap x y ys)
theorem srtI_perm : ∀ xs : List Int, (srtI xs).Perm xs
  | [] => .refl _
  | x :: xs => (insI_perm x (srtI xs)).trans ((srtI_perm xs).cons x)
theorem insI_pw (x : Int) : ∀ {ys : List Int}, ys.Pairwise (· ≤ ·) → (insI x ys).Pairwise (· ≤ ·)
  | [], _ => by simp [insI]
  | y :: ys, h => by
    unfold insI
    rw [List.pairwise_cons] at h
    split
    · rename_i hxy
      rw [List.pairwise_cons, List.pairwise_cons]
      exact ⟨fun z hz => by
        rcases List.mem_cons.mp hz with rfl | hz
        · exact hxy
        · have := h.1 z hz; omega, h⟩
    · rename_i hxy
      rw [List.pairwise_cons]
      refine ⟨fun z hz => ?_, insI_pw x h.2⟩
      rcases List.mem_cons.mp ((insI_perm x ys).mem_iff.mp hz) with rfl | hz
      · omega
      · exact h.1 z hz
theorem srtI_pw : ∀ xs : List Int, (srtI xs).Pairwise (· ≤ ·)
  | [] => .nil
  | x :: xs => insI_pw x (srtI_pw xs)
theorem sorted_uniq : ∀ {xs ys : List Int}, xs.Perm ys → xs.Pairwise (· ≤ ·) → ys.Pairwise (· ≤ ·) → xs = ys
  | [], ys, p, _, _ => (List.nil_perm.mp p).symm
  | x :: xs, [], p, _, _ => by have := p.length_eq; simp at this
  | x :: xs, y :: ys, p, hx, hy => by
    rw [List.pairwise_cons] at hx hy
    have e : x = y := by
      have h1 : y ∈ x :: xs := p.mem_iff.mpr (List.mem_cons_self ..)
      have h2 : x ∈ y :: ys := p.mem_iff.mp (List.mem_cons_self ..)
      rcases List.mem_cons.mp h1 with h1 | h1
      · exact h1.symm
      · rcases List.mem_cons.mp h2 with h2 | h2
        · exact h2
        · have := hx.1 y h1
          have := hy.1 x h2
          omega
    subst e
    rw [sorted_uniq (List.Perm.cons_inv p) hx.2 hy.2]
def bSorted : List Val → Option Val
  | [.lst xs] => (asInts xs).map fun ns => .lst ((srtI ns).map Val.int)
  | [.arr xs] => (asInts xs).map fun ns => .lst ((srtI ns).map Val.int)
  | _ => none
theorem vrs_ints : ∀ ns : List Int, VRs G μ H (ns.map Val.int) (ns.map V.int)
  | [] => .nil
  | _ :: ns => .cons (.int _) (vrs_ints ns)
theorem cb_sorted (hK : X.K = G.K) : CallR X (.builtin "sorted") (rC G bSorted) := cr_imp cr_sortedI fun us H Q ⟨μ, xs, z, th, r, e, q⟩ => by
  unfold bSorted at e
  split at e
  · rename_i ys
    obtain ⟨u, rfl, h⟩ := r.one
    obtain ⟨p, us, rfl, t, rr⟩ := h.sq
    cases hx : asInts ys with
    | none => rw [hx] at e; cases e
    | some ns =>
      rw [hx] at e; cases e
      have := asInts_vr rr hx
      subst this
      refine ⟨p, ns, rfl, by rw [hK]; exact t, fun ns' p' hp hs hn => ?_⟩
      rw [sorted_uniq (hp.trans (srtI_perm ns).symm) hs (srtI_pw ns)]
      exact q _ _ (ext_upd hn) (mn_lst hn (np_of th hn) (vrs_ints _))
  · rename_i ys
    obtain ⟨u, rfl, h⟩ := r.one
    obtain ⟨p, us, rfl, t, rr⟩ := h.arr
    cases hx : asInts ys with
    | none => rw [hx] at e; cases e
    | some ns =>
      rw [hx] at e; cases e
      have := asInts_vr rr hx
      subst this
      refine ⟨p, ns, rfl, by rw [hK]; exact t, fun ns' p' hp hs hn => ?_⟩
      rw [sorted_uniq (hp.trans (srtI_perm ns).symm) hs (srtI_pw ns)]
      exact q _ _ (ext_upd hn) (mn_lst hn (np_of th hn) (vrs_ints _))
  · cases e
end
end KL

set_option linter.all false
set_option maxRecDepth 100000
set_option maxHeartbeats 1000000
/-! KIs: isinstance. -/
namespace KL
open PySem L2
inductive Ty where
  | non | bl | int | str | tup | lst | dic
def Ty.nm : Ty → String
  | .non => "NoneType"
  | .bl => "bool"
  | .int => "int"
  | .str => "str"
  | .tup => "tuple"
  | .lst => "list"
  | .dic => "dict"
def isTy : Ty → Ty → Bool
  | .non, .non => true
  | .bl, .bl => true
  | .bl, .int => true
  | .int, .int => true
  | .str, .str => true
  | .tup, .tup => true
  | .lst, .lst => true
  | .dic, .dic => true
  | _, _ => false
theorem kit_isTy (t T : Ty) : kitB t.nm T.nm = some (isTy t T) := by cases t <;> cases T <;> decide +kernel
def tyOf : Val → Option Ty
  | .non => some .non
  | .bl _ => some .bl
  | .int _ => some .int
  | .str _ => some .str
  | .tup _ => some .tup
  | .lst _ => some .lst
  | .arr _ => some .lst
  | .dic _ => some .dic
  | _ => none
def clsOf (S : Store) : Val → Option Nat
  | .obj c _ => some c
  | .ref n => match S[n]? with
    | some (.ins c _) => some c
    | _ => none
  | _ => none
/-- isinstance(a, T), T a built-in type; own: the own classes whose instances may come -/
def cIsT (T : Ty) (own : List Nat) (a : E Val) : E Val := fun ρ S => (a ρ S).bind fun x S1 => match tyOf x with
  | some t => .ok (.bl (isTy t T)) S1
  | none => match clsOf S1 x with
    | some c => if c ∈ own then .ok (.bl false) S1 else .sk
    | none => .sk
/-- isinstance(a, C), C an own class; sub: whether the own classes' instances are its -/
def cIsC (sub : List (Nat × Bool)) (a : E Val) : E Val := fun ρ S => (a ρ S).bind fun x S1 => match tyOf x with
  | some _ => .ok (.bl false) S1
  | none => match clsOf S1 x with
    | some c => match sub.lookup c with
      | some b => .ok (.bl b) S1
      | none => .sk
    | none => .sk
/-- what isinstance asks of an own class -/
structure ClsI (K : PySem.W.Frag) (C : Addr) : Prop where
  cl : Cls K C
  ha : PySem.W.findIn K (.ref C) "__class__" = some (some (.builtin "object.__class__"))
  hn : PySem.W.specialIn K (.builtin "object.__class__") "__get__" = some (some (.builtin "getset_descriptor.__get__"))
  htk : PySem.W.takesIn K (.builtin "object.__class__") = some true
  hm : PySem.W.mroIn K C (.type "object") = some true
section
variable {G : GP} {N : Fns} {W : WX} {X : Cx} {μ : List Addr} {H : Hp} {σ : St} {ρ : Env} {S : Store} {a : Expr} {pos p p2 : Pos} {ma : E Val} {x : Str}
theorem ty_data {x : Val} {u : V} {t : Ty} (h : RB G μ H x u) (e : tyOf x = some t) : TyX G.K H u (.type t.nm) := by
  rcases h with h | ⟨q, xs, us, rfl, rfl, hp, _⟩
  · cases x with
    | non => cases e; cases h; exact .base .non
    | bl b => cases e; cases h; exact .base (.bl b)
    | int b => cases e; cases h; exact .base (.int b)
    | str b => cases e; cases h; exact .base (.str b)
    | tup xs =>
      cases e
      cases h with
      | tup t r =>
        rcases t with (t | ⟨o, t⟩) | ⟨o, its, n, h1, h2, _⟩
        · exact .base (.tup t)
        · exact .fTuple t
        · exact .kTuple h1 h2
    | lst xs =>
      cases e
      cases h with
      | lst t r => exact .base (.frz t)
    | arr xs =>
      cases e
      cases h with
      | arr t r =>
        rcases t with ⟨o, t⟩ | ⟨o, its, n, h1, h2, _⟩
        · exact .base (.frz t)
        · exact .kList h1 h2
    | dic kvs =>
      cases e
      cases h with
      | dic0 h => exact .fDict h
    | _ => cases e
  · cases e
    exact .base (.lst hp)
theorem ty_cls {x : Val} {u : V} {c : Nat} (sr : StR G μ H S) (h : RB G μ H x u) (e : clsOf S x = some c) (ci : ClsI G.K (G.cm c)) : TyX G.K H u (.ref (G.cm c)) := by
  have ins : ∀ {p dx : Addr} {fs : List (Str × V)}, H p = some (.ins (G.cm c) dx fs) → TyX G.K H (.ref p) (.ref (G.cm c)) := fun h => .base (.ins h ci.cl ci.ha ci.hn ci.htk ci.hm)
  rcases h with h | ⟨q, xs, us, rfl, rfl, hp, _⟩
  · cases x with
    | obj c' fs =>
      cases e
      cases h with
      | obj h n m r => exact ins h
    | ref n =>
      have e' : (match S[n]? with | some (.ins c _) => some c | _ => none) = some c := e
      split at e'
      · rename_i c' fs hS
        cases e'
        cases h with
        | ref hm =>
          obtain ⟨dx, fs, h1, _⟩ := sr.at_ _ _ _ hS hm
          exact ins h1
      · cases e'
    | _ => cases e
  · cases e
theorem fe_isT (T : Ty) (own : List Nat) {y : Str} (hK : X.K = G.K) (hg : Gl X "isinstance") (hm : X.mg "isinstance" = none) (hgT : Gl X y) (hmT : X.mg y = none) (hv : bootBuiltins y = some (.type T.nm)) (ho : ∀ c, c ∈ own → ClsI X.K (G.cm c) ∧ PySem.W.kitOne X.K (.ref (G.cm c)) (.type T.nm) = some false) (ha : PE X a (tE G N W (MB G) ma))
    (hn : y ≠ "__name__" := by decide) (hd : (y == ("__debug__" : Str)) = false := by decide) (hs : starEach [a, .Name y p2] X.env = (false, eval a X.env) :: starEach [.Name y p2] X.env := by rfl) (hs2 : starEach [.Name y p2] X.env = (false, eval (.Name y p2) X.env) :: starEach [] X.env := by rfl)
    (hpl : (backTo pos (starEach [.Name y p2] X.env)).any (·.1) = false := by rfl) : PE X (.Call (.Name "isinstance" p) [a, .Name y p2] [] pos) (tE G N W (MN G) (cIsT T own ma)) :=
  pe_imp (pe_callB call_isi hg hm PyProof.Rows.boot_isinstance (pa_cons ha (pa_cons (pe_bltn (v := .ty T.nm) hgT hmT hv rfl hn hd) pa_nil hs2) hs) (by decide) (by decide) hs hpl) fun σ H Q ⟨ρ, S, μ, R, o⟩ => ⟨ρ, S, μ, R, (Out.bind o).mono fun x S1 μ1 H1 st1 sr1 k1 u hu => by
    cases ht : tyOf x with
    | some t =>
      rw [ht] at k1
      exact ⟨u, _, _, _, isTy t T, rfl, .ty T.nm, by rw [hK]; exact ty_data hu ht, kit_ty (kit_isTy t T), Out.ok k1 sr1 _ (mn_bl _)⟩
    | none =>
      rw [ht] at k1
      cases hcl : clsOf S1 x with
      | none => rw [hcl] at k1; exact False.elim k1
      | some c =>
        rw [hcl] at k1
        dsimp only at k1
        split at k1
        · rename_i hc
          obtain ⟨c1, c2⟩ := ho c hc
          exact ⟨u, _, _, _, false, rfl, .ty T.nm, by rw [hK]; rw [hK] at c1; exact ty_cls sr1 hu hcl c1, c2, Out.ok k1 sr1 _ (mn_bl _)⟩
        · exact False.elim k1⟩
theorem fe_isC (sub : List (Nat × Bool)) {c : Nat} {y : Str} (hK : X.K = G.K) (hg : Gl X "isinstance") (hm : X.mg "isinstance" = none) (hgT : Gl X y) (hmT : X.mg y = some (.ref (G.cm c))) (hb : ∀ t : Ty, PySem.W.kitOne X.K (.type t.nm) (.ref (G.cm c)) = some false) (ho : ∀ d b, sub.lookup d = some b → ClsI X.K (G.cm d) ∧ PySem.W.kitOne X.K (.ref (G.cm d)) (.ref (G.cm c)) = some b) (ha : PE X a (tE G N W (MB G) ma))
    (hd : (y == ("__debug__" : Str)) = false := by decide) (hs : starEach [a, .Name y p2] X.env = (false, eval a X.env) :: starEach [.Name y p2] X.env := by rfl) (hs2 : starEach [.Name y p2] X.env = (false, eval (.Name y p2) X.env) :: starEach [] X.env := by rfl)
    (hpl : (backTo pos (starEach [.Name y p2] X.env)).any (·.1) = false := by rfl) : PE X (.Call (.Name "isinstance" p) [a, .Name y p2] [] pos) (tE G N W (MN G) (cIsC sub ma)) :=
  pe_imp (pe_callB call_isi hg hm PyProof.Rows.boot_isinstance (pa_cons ha (pa_cons (pe_glob (v := .ref (G.cm c)) hgT hmT rfl hd) pa_nil hs2) hs) (by decide) (by decide) hs hpl) fun σ H Q ⟨ρ, S, μ, R, o⟩ => ⟨ρ, S, μ, R, (Out.bind o).mono fun x S1 μ1 H1 st1 sr1 k1 u hu => by
    cases ht : tyOf x with
    | some t =>
      rw [ht] at k1
      exact ⟨u, _, _, _, false, rfl, .own _, by rw [hK]; exact ty_data hu ht, hb t, Out.ok k1 sr1 _ (mn_bl _)⟩
    | none =>
      rw [ht] at k1
      cases hcl : clsOf S1 x with
      | none => rw [hcl] at k1; exact False.elim k1
      | some d =>
        rw [hcl] at k1
        dsimp only at k1
        split at k1
        · rename_i b hc
          obtain ⟨c1, c2⟩ := ho d b hc
          exact ⟨u, _, _, _, b, rfl, .own _, by rw [hK]; rw [hK] at c1; exact ty_cls sr1 hu hcl c1, c2, Out.ok k1 sr1 _ (mn_bl _)⟩
        · exact False.elim k1⟩
end
end KL

set_option linter.all false
set_option maxRecDepth 100000
set_option maxHeartbeats 1000000
/-! KOwn: repr of data; len, repr, bool, ==, != of instances with defs of their own. -/
namespace PySem
open Sem (wp)
open Builtin
section
variable {prog : Program} {w : World} {A : Around} {E : Value → Shared → Prop} {s : Shared} {K : W.Frag} {x C L f : Addr} {h₀ : Heap} {m : Str → Option Value} {ox : Obj} {od : Option Obj}
/-- truth by the text's own __len__ -/
theorem kl_truthy {Q : Bool → Shared → Prop} (X : K.In s.heap) (I : W.InstAt s.heap x ox C od) (hb : W.findIn K (.ref C) "__bool__" = some none) (hl : W.findIn K (.ref C) "__len__" = some (some (.ref f))) (hf : W.isFn K (.ref f) = true)
    (h : wpAny (model prog w) A.in1 (call (.ref f) [.ref x]) (fun v s' => ∃ n t, v = .int n t ∧ 0 ≤ n ∧ n < 2 ^ 63 ∧ Q (n != 0) { s' with toks := s'.toks + 1 }) E s) : wpAny (model prog w) A (truthy (.ref x)) Q E s := by
  have key : wpAny (model prog w) A (runValue (.builtin "len" ⟨[.ref x], []⟩)) (fun r s' => ∃ n t, r = .int n t ∧ Q (n != 0) s') E s := by
    refine wpAny_runValue (codeAny_builtin entry_len ?_)
    rw [Around.under_plainId plain_len _]
    unfold Builtin.«len»
    refine wpAny_bind (m := oneArg "len" _) (wpAny_pure ?_)
    refine wpAny_bind (m := callSpecial? (.ref x) (Str.ofString "__len__")) (W.special_fn X I hl (beq_iff_eq.mp hf) (wpAny_mono h (fun r s' hr => ?_) fun _ _ y => y))
    obtain ⟨n, t, rfl, h0, h1, hq⟩ := hr
    refine wpAny_bind (wpAny_holding (wpAny_pure ?_))
    refine wpAny_bind (wpAny_letGo ?_)
    show wpAny _ _ (if n < 0 then _ else _) _ _ _
    rw [if_neg (by omega)]
    show wpAny _ _ (if n ≥ 2 ^ 63 then _ else _) _ _ _
    rw [if_neg (by omega)]
    exact wpAny_bind (wpAny_mkInt (wpAny_pure ⟨n, _, rfl, hq⟩))
  unfold truthy
  refine wpAny_bind (m := callSpecial? (.ref x) (Str.ofString "__bool__")) (wpAny_bind (wpAny_bind (I.type.here ((W.looks_findIn X hb).here (wpAny_pure ?_)))))
  refine wpAny_bind (wpAny_bind (I.type.here ((W.looks_findIn X hl).here ?_)))
  show wpAny _ _ (if (some (Value.ref f)).isNone = true then _ else _) _ _ _
  rw [if_neg (by simp)]
  first
    | exact wpAny_bind (wpAny_mono key (fun r s' h' => by obtain ⟨n, t, rfl, hq⟩ := h'; exact wpAny_pure hq) fun _ _ e => e)
    | exact wpAny_bind (wpAny_pure (wpAny_bind (wpAny_mono key (fun r s' h' => by obtain ⟨n, t, rfl, hq⟩ := h'; exact wpAny_pure hq) fun _ _ e => e)))
theorem kl_tryB {M : Model} {id : String} {name : Str} {args : List Value} {Q : Option Value → Shared → Prop} (X : K.In s.heap) (I : W.InstAt s.heap x ox C od) (hs : W.findIn K (.ref C) name = some (some (.builtin id)))
    (hb : ∀ self, bindSpecial (.builtin id) self = pure (.builtin id, [self])) (h : wpAny M A (call (.builtin id) (.ref x :: args)) (fun v => Q (some v)) E s) : wpAny M A (callSpecialIfBound? (.ref x) name args) Q E s := by
  simp only [callSpecialIfBound?, bindSpecialIfBound?]
  refine wpAny_holding (wpAny_bind (wpAny_bind (wpAny_bind (I.type.here ((W.looks_findIn X hs).here ?_)))))
  simp only [hb]
  refine wpAny_bind (wpAny_askSetting (wpAny_ite ?_))
  have fin : wpAny M A (call (.builtin id) ([.ref x] ++ args) >>= fun v => pure (some v)) Q E s := wpAny_bind (wpAny_mono h (fun v s' h' => wpAny_pure h') fun _ _ h' => h')
  split
  · exact wpAny_bind (wpAny_pure (wpAny_pure fin))
  · exact wpAny_tryCatch (wpAny_bind (wpAny_pure (wpAny_pure fin)))
/-- != by object's __ne__, by the text's own __eq__ -/
theorem kl_ne {b tb : Value} {Q : Value → Shared → Prop} (hu : A.units + 1 < cLine) (X : K.In s.heap) (I : W.InstAt s.heap x ox C od) (hb : W.Looks (model prog w) s.heap (typeOf b) tb) (hn : W.notFirst K C tb = true)
    (hne : W.findIn K (.ref C) "__ne__" = some (some (.builtin "object.__ne__"))) (hs : W.findIn K (.ref C) "__eq__" = some (some (.ref f))) (hf : W.isFn K (.ref f) = true) (hm : W.mroIn K C (.type "object") = some true)
    (h : wpAny (model prog w) A.in1 (call (.ref f) [.ref x, b]) (fun v s' => ∃ k, v = .bool k ∧ Q (.bool (!k)) s') E s) : wpAny (model prog w) A (richCompare .NotEq (.ref x) b) Q E s := by
  have one : wpAny (model prog w) A (tryCompare (.ref x) "__ne__" b) (fun r s' => ∃ v, r = some v ∧ Q v s') E s := by
    unfold tryCompare
    refine wpAny_bind (kl_tryB X I hne F.cmp_object.ne.bind (wpAny_call (codeAny_call_builtin F.cmp_object.ne.plain F.cmpEntry_ne
      (W.check_slot F.cmpKind_ne F.cmpSplit_ne (I.type.andThen (W.looks_mroIn X hm)) (F.cmpArgs_ne _ _) ?_))))
    unfold Builtin.«object.__ne__»
    refine wpAny_bind (m := slotArgs "__ne__" 1 _) (wpAny_pure ?_)
    refine wpAny_bind (m := cRoomFor _ _) (wpAny_cRoomFor hu ?_)
    refine wpAny_bind (m := callSpecialIfBound? (.ref x) (Str.ofString "__eq__") [b]) (W.ifBound_K X I hs hf (wpAny_mono h (fun r s' hq => ?_) fun _ _ y => y))
    obtain ⟨k, rfl, hq⟩ := hq
    refine wpAny_bind (m := truthy (.bool _)) (wpAny_truthy_bool ?_)
    first | exact wpAny_pure (wpAny_pure ⟨_, rfl, hq⟩) | exact wpAny_pure ⟨_, rfl, wpAny_pure ⟨_, rfl, hq⟩⟩
  unfold richCompare
  simp only [oneThing_ref]
  refine wpAny_holding (wpAny_bind (wpAny_cRoomFor (Nat.lt_of_succ_lt hu) ?_))
  rw [cmpInfo_NotEq]
  dsimp only
  refine wpAny_bind (I.type.here (wpAny_bind (hb.here ?_)))
  split
  · rename_i q
    have e : W.subIn K tb (.ref C) = some false := by
      rcases Bool.or_eq_true_iff.mp hn with e | e
      · rw [beq_iff_eq.mp e] at q; simp at q
      · exact beq_iff_eq.mp e
    refine wpAny_bind ((W.looks_subIn X e).here ?_)
    simp only [Bool.false_eq_true, if_false]
    refine wpAny_bind (wpAny_mono one (fun r s' z => ?_) fun _ _ e => e)
    obtain ⟨v, rfl, hq⟩ := z
    exact wpAny_pure hq
  · refine wpAny_bind (wpAny_pure ?_)
    simp only [Bool.false_eq_true, if_false]
    refine wpAny_bind (wpAny_mono one (fun r s' z => ?_) fun _ _ e => e)
    obtain ⟨v, rfl, hq⟩ := z
    exact wpAny_pure hq
theorem kl_bool {x : Value} {Q : Value → Shared → Prop} (h : wpAny (model prog w) A.in1.in1 (truthy x) (fun b s' => Q (.bool b) s') E s) : wpAny (model prog w) A (call (.type "bool") [x]) Q E s := by
  refine callType_codes (T := "bool") (Bi := Builtin.«object.__init__») (Q₁ := fun r s₁ => ∃ b, r = Value.bool b ∧ Q r s₁) PySem.F.called_bool (PySem.F.typeCall_bool_1 _) PySem.F.entry_object_init ?_ ?_
  · refine codeAny_of_tree ?_
    show wpAny _ A.in1.in1 (do checkBuiltinCall "bool.__new__" ⟨[.type "bool", x], []⟩; again (.builtin "bool.__new__" ⟨[.type "bool", x], []⟩)) _ _ s
    refine wpAny_bind (wpAny_of_eq (PySem.F.newCall_bool_1 _) (wpAny_pure ⟨plainId_quiet (by decide +kernel) _, codeAny_builtin PySem.F.entry_bool_new ?_⟩))
    rw [Around.under_plainId (by decide +kernel) _]
    have f1 := F.conv_sub_bool
    repeat (any_goals (first | assumption | (refine wpAny_bind (m := truthy _) (wpAny_mono h (fun b s' hb => ?_) fun _ _ e => e)) | wp_step))
    all_goals exact ⟨_, rfl, hb⟩
  · rintro obj s₁ ⟨b, rfl, hq⟩
    exact ⟨typeIs_bool _ _, PySem.F.args_object_init_2 _ _, object_init_meets PySem.F.called_bool.init.lookup PySem.F.called_bool.made (by decide) prog w A.in1 _ s₁ ⟨typeIs_bool _ _, rfl, hq⟩⟩
end
end PySem
namespace KL
open PySem L2
section
variable {G : GP} {N : Fns} {W : WX} {X : Cx} {μ : List Addr} {H : Hp} {σ : St} {ρ : Env} {S : Store} {a b : Expr} {pos p p2 : Pos} {ma mb : E Val} {x : Str} {c n : Nat} {f : Addr} {g : F} {fd : FuncData} {ps : List Str}
/-! ### repr of data -/
def bRepr : List Val → Option Val
  | [x] => match x.toD with
    | some d => if d.showable && decide (d.depth ≤ 32) && decide (d.shown.length ≤ big) then some (.str d.shown) else none
    | none => none
  | _ => none
section
variable {prog : Program} {w : World} {h₀ : Heap} {o : Obj} {vs : Array Value} {n : Nat} {ds : List PyData} {as bs : List Addr} {k : Nat} {a : Addr}
theorem list_shows (h1 : h₀.get? a = some o) (h2 : o.cls = .type "list") (h3 : o.data = .seq vs n) (hna : a ∉ bs) (h4 : ReadsAll h₀ vs.toList ds as) (hk : ReprAllK prog w bs h₀ k vs.toList (PyData.shownAll ds)) : ReprK prog w (a :: bs) h₀ (k + 1) (.ref a) (listText (PyData.shownAll ds)) := by
  obtain ⟨l⟩ := vs
  cases l with
  | nil =>
    have h4' : ReadsAll h₀ [] ds _ := h4
    cases h4'
    simp only [PyData.shownAll, listText_nil]
    exact ReprK.listEmpty h1 h2 h3
  | cons x l => exact ReprK.list h1 h2 h3 hna (by simpa using hk.length_eq) (fun i y e => hk.item i y (by simpa using e))
theorem list_repr {A : Around} {E : Value → Shared → Prop} {s : Shared} {Q : Value → Shared → Prop} (h1 : s.heap.get? a = some o) (h2 : o.cls = .type "list") (h3 : o.data = .seq vs n) (hna : a ∉ bs) (h4 : ReadsAll s.heap vs.toList ds as) (hk : ReprAllK prog w bs s.heap k vs.toList (PyData.shownAll ds)) (hg : A.guards = some []) (hu : A.units + (k + 2) < cLine)
    (hQ : ∀ h' u tk, (∀ b o, s.heap.get? b = some o → h'.get? b = some o) → Q (.str (listText (PyData.shownAll ds)) u) { s with heap := h', toks := tk }) (hsz : (listText (PyData.shownAll ds)).length ≤ sizeLine) : wpAny (model prog w) A (call (.builtin "repr") [.ref a]) Q E s := by
  refine call_repr_slot (T := "list") (idr := "list.__repr__") (by omega) ⟨o, h1, h2⟩ F.slot_list_repr.toG ?_
  obtain ⟨l⟩ := vs
  cases l with
  | nil =>
    have h4' : ReadsAll s.heap [] ds _ := h4
    cases h4'
    simp only [PyData.shownAll, listText_nil] at hQ
    exact call_list_repr_empty ⟨o, h1, h2⟩ h1 h3 ⟨_, _, rfl, hQ s.heap _ _ fun _ _ e => e⟩
  | cons x l => exact call_list_reprK (h₀ := s.heap) h1 h2 h3 hna (by simpa using hk.length_eq) (fun i y e => hk.item i y (by simpa using e)) hg (fun b _ => Clear.nil b) (by show A.units + 1 + (k + 1) < cLine; omega) (fun _ _ e => e) (fun h' u tk hh => ⟨_, _, rfl, hQ h' u tk hh⟩) hsz
theorem tuple_repr {A : Around} {E : Value → Shared → Prop} {s : Shared} {Q : Value → Shared → Prop} (h1 : s.heap.get? a = some o) (h2 : o.cls = .type "tuple") (h3 : o.data = .seq vs n) (hna : a ∉ bs) (hk : ReprAllK prog w bs s.heap k vs.toList (PyData.shownAll ds)) (hg : A.guards = some []) (hu : A.units + (k + 2) < cLine)
    (hQ : ∀ h' u tk, (∀ b o, s.heap.get? b = some o → h'.get? b = some o) → Q (.str (tupleText (PyData.shownAll ds)) u) { s with heap := h', toks := tk }) (hsz : (tupleText (PyData.shownAll ds)).length ≤ sizeLine) : wpAny (model prog w) A (call (.builtin "repr") [.ref a]) Q E s :=
  call_repr_slot (T := "tuple") (idr := "tuple.__repr__") (by omega) ⟨o, h1, h2⟩ F.slot_tuple_repr (call_tuple_reprK (h₀ := s.heap) h1 h2 h3 hna hk hg (fun b _ => Clear.nil b) (by show A.units + 1 + (k + 1) < cLine; omega) (fun _ _ e => e) (fun h' u tk hh => ⟨_, _, rfl, hQ h' u tk hh⟩) hsz)
end
section
variable {pins : List (Addr × Obj)} {s : Shared}
mutual
theorem VR.shows (hK : X.K = G.K) (I : Inv X pins σ H s) : ∀ {x : Val} {u : V} {d : PyData} {v : Value}, VR G μ H x u → x.toD = some d → RelV u v → d.showable = true → d.shown.length ≤ sizeLine → ∃ bs, ReadAtMost s.heap d.depth bs ∧ ReprK X.prog X.w bs s.heap d.depth v d.shown
  | _, _, _, _, .non, e, r, h, z => by cases e; cases r; exact ReprK.of_reads .none h (fun z => nomatch z) z
  | _, _, _, _, .bl b, e, r, h, z => by cases e; cases r; exact ReprK.of_reads (.bool b) h (fun z => nomatch z) z
  | _, _, _, _, .int b, e, r, h, z => by cases e; obtain ⟨t, rfl⟩ := r; exact ReprK.of_reads (.int b t) h (fun z => nomatch z) z
  | _, _, _, _, .str b, e, r, h, z => by cases e; obtain ⟨t, rfl⟩ := r; exact ReprK.of_reads (.str b t) h (fun z => nomatch z) z
  | .tup xs, _, _, _, .tup h rr, e, r, hs, hz => by
    unfold Val.toD at e
    cases q : toDs xs with
    | none => rw [q] at e; cases e
    | some ds =>
      rw [q] at e; cases e; cases r
      obtain ⟨its, rv, ⟨o, ho, hc, n, hd⟩, _⟩ := I.tuple (by rw [hK]; exact h)
      obtain ⟨as, hr⟩ := rr.reads hK I q rv
      have rd : Reads s.heap (.ref _) (.tuple ds) _ := .tuple ho hc hd hr
      have hz' : (tupleText (PyData.shownAll ds)).length ≤ sizeLine := by simpa only [PyData.shown] using hz
      obtain ⟨bs, hb, hk⟩ := VRs.shows hK I rr q rv (by simpa [PyData.showable] using hs) fun t ht => Nat.le_trans (tupleText_mem_le ht) hz'
      refine ⟨_ :: bs, ReadAtMost.cons rd (by simp only [PyData.depth]; omega) hb, ?_⟩
      simp only [PyData.depth, PyData.shown]
      exact ReprK.tuple ho hc hd (not_mem_of_deeper rd (by simp only [PyData.depth]; omega) hb) hk
  | .lst xs, _, _, _, .lst h rr, e, r, hs, hz => by
    unfold Val.toD at e
    cases q : toDs xs with
    | none => rw [q] at e; cases e
    | some ds =>
      rw [q] at e; cases e; cases r
      obtain ⟨its, rv, ⟨o, n, ho, hc, _, hd⟩, _⟩ := I.list (.inl (.inr ⟨_, h⟩))
      obtain ⟨as, hr⟩ := rr.reads hK I q rv
      have rd : Reads s.heap (.ref _) (.list ds) _ := .list ho hc hd hr
      have hz' : (listText (PyData.shownAll ds)).length ≤ sizeLine := by simpa only [PyData.shown] using hz
      obtain ⟨bs, hb, hk⟩ := VRs.shows hK I rr q rv (by simpa [PyData.showable] using hs) fun t ht => Nat.le_trans (listText_mem_le ht) hz'
      refine ⟨_ :: bs, ReadAtMost.cons rd (by simp only [PyData.depth]; omega) hb, ?_⟩
      simp only [PyData.depth, PyData.shown]
      exact list_shows ho hc hd (not_mem_of_deeper rd (by simp only [PyData.depth]; omega) hb) hr hk
  | _, _, _, _, .arr _ _, e, _, _, _ => by cases e
  | _, _, _, _, .obj _ _ _ _, e, _, _, _ => by cases e
  | _, _, _, _, .ref _, e, _, _, _ => by cases e
  | _, _, _, _, .fn _, e, _, _, _ => by cases e
  | _, _, _, _, .dic0 h, e, r, hs, hz => by
    cases e; cases r
    obtain ⟨h1, o, es, ep, h2, h3, h4, h5⟩ := dic0_at (G := G) I h
    exact ReprK.of_reads (as := _ :: [] ++ []) (.dict h2 h3.1 h4 (by rw [h5]; exact .nil) (by rw [h5]; exact .nil)) hs (fun _ z => by
      rcases List.mem_cons.mp z with z | z
      · rw [← z, beq_self_eq_true] at h1; cases h1
      · cases z) hz
theorem VRs.shows (hK : X.K = G.K) (I : Inv X pins σ H s) : ∀ {xs : List Val} {us : List V} {ds : List PyData} {vs : List Value}, VRs G μ H xs us → toDs xs = some ds → Vals us vs → PyData.showableAll ds = true → (∀ t ∈ PyData.shownAll ds, t.length ≤ sizeLine) →
    ∃ bs, ReadAtMost s.heap (PyData.depthAll ds) bs ∧ ReprAllK X.prog X.w bs s.heap (PyData.depthAll ds) vs (PyData.shownAll ds)
  | _, _, _, _, .nil, e, r, _, _ => by cases e; cases r; exact ReprAllK.of_readsAll .nil rfl (fun z => nomatch z) fun t ht => nomatch ht
  | x :: xs, _, _, _, .cons h rr, e, r, hs, hz => by
    unfold toDs at e
    cases q : x.toD with
    | none => rw [q] at e; cases e
    | some d =>
      cases q2 : toDs xs with
      | none => rw [q, q2] at e; cases e
      | some ds =>
        rw [q, q2] at e; cases e
        cases r with
        | cons r1 r2 =>
          have hs' : d.showable = true ∧ PyData.showableAll ds = true := by simpa [PyData.showableAll] using hs
          obtain ⟨b1, a1, k1⟩ := VR.shows hK I h q r1 hs'.1 (hz _ (by simp only [PyData.shownAll]; exact List.mem_cons_self ..))
          obtain ⟨b2, a2, k2⟩ := VRs.shows hK I rr q2 r2 hs'.2 fun t ht => hz t (by simp only [PyData.shownAll]; exact List.mem_cons_of_mem _ ht)
          simp only [PyData.depthAll, PyData.shownAll]
          exact ⟨b1 ++ b2, (a1.mono (Nat.le_max_left _ _)).append (a2.mono (Nat.le_max_right _ _)), .cons ((k1.more fun b hb => List.mem_append_left _ hb).level_le (Nat.le_max_left _ _)) (k2.more_le (fun b hb => List.mem_append_right _ hb) (Nat.le_max_right _ _))⟩
end
theorem repr_run (hK : X.K = G.K) (I : Inv X pins σ H s) {x : Val} {u : V} {d : PyData} {v : Value} {Q : Value → Shared → Prop} (h : RD G μ H x u) (e : x.toD = some d) (r : RelV u v) (hs : d.showable = true) (hz : d.shown.length ≤ sizeLine) (hg : X.A.guards = some []) (hu : X.A.units + (d.depth + 2) < cLine)
    (fin : ∀ (h' : Heap) (t : Tok) (tk : Nat), (∀ b o, s.heap.get? b = some o → h'.get? b = some o) → Q (.str d.shown t) { s with heap := h', toks := tk }) : wpAny (model X.prog X.w) X.A (call (.builtin "repr") [v]) Q X.xe s := by
  have onList : ∀ {a : Addr} {xs : List Val} {us : List V} {its : List Value} {o : Obj} {n : Nat}, VRs G μ H xs us → Vals us its → s.heap.get? a = some o → o.cls = .type "list" → o.data = .seq its.toArray n → (toDs xs).map .list = some d → wpAny (model X.prog X.w) X.A (call (.builtin "repr") [.ref a]) Q X.xe s := fun {a xs us its o n} rr rv ho hc hd e => by
    cases q : toDs xs with
    | none => rw [q] at e; cases e
    | some ds =>
      rw [q] at e; cases e
      obtain ⟨as, hr⟩ := rr.reads hK I q rv
      have rd : Reads s.heap (.ref a) (.list ds) _ := .list ho hc hd hr
      have hz' : (listText (PyData.shownAll ds)).length ≤ sizeLine := by simpa only [PyData.shown] using hz
      obtain ⟨bs, hb, hk⟩ := VRs.shows hK I rr q rv (by simpa [PyData.showable] using hs) fun t ht => Nat.le_trans (listText_mem_le ht) hz'
      simp only [PyData.depth, PyData.shown] at hu fin
      exact list_repr ho hc hd (not_mem_of_deeper rd (by simp only [PyData.depth]; omega) hb) hr hk hg (by omega) (fun h' t tk k => fin h' t tk k) hz'
  rcases h with h | ⟨p, xs, us, rfl, rfl, hp, rr⟩
  · cases h with
    | non => cases e; cases r; exact P.repr_of_none (fin s.heap _ _ fun _ _ e => e)
    | bl b => cases e; cases r; exact P.repr_of_bool (fin s.heap _ _ fun _ _ e => e)
    | int i => cases e; obtain ⟨t, rfl⟩ := r; exact P.repr_of_int (by simpa [PyData.showable] using hs) (fin s.heap _ _ fun _ _ e => e)
    | str i => cases e; obtain ⟨t, rfl⟩ := r; exact P.repr_of_str (fin s.heap _ _ fun _ _ e => e) hz
    | tup h rr =>
      rename_i a xs us
      unfold Val.toD at e
      cases q : toDs xs with
      | none => rw [q] at e; cases e
      | some ds =>
        rw [q] at e; cases e; cases r
        obtain ⟨its, rv, ⟨o, ho, hc, n, hd⟩, _⟩ := I.tuple (by rw [hK]; exact h)
        obtain ⟨as, hr⟩ := rr.reads hK I q rv
        have rd : Reads s.heap (.ref a) (.tuple ds) _ := .tuple ho hc hd hr
        have hz' : (tupleText (PyData.shownAll ds)).length ≤ sizeLine := by simpa only [PyData.shown] using hz
        obtain ⟨bs, hb, hk⟩ := VRs.shows hK I rr q rv (by simpa [PyData.showable] using hs) fun t ht => Nat.le_trans (tupleText_mem_le ht) hz'
        simp only [PyData.depth, PyData.shown] at hu fin
        exact tuple_repr ho hc hd (not_mem_of_deeper rd (by simp only [PyData.depth]; omega) hb) hk hg (by omega) (fun h' t tk k => fin h' t tk k) hz'
    | lst h rr =>
      unfold Val.toD at e
      cases r
      obtain ⟨its, rv, ⟨o, n, ho, hc, _, hd⟩, _⟩ := I.list (.inl (.inr ⟨_, h⟩))
      exact onList rr rv ho hc hd e
    | arr _ _ => cases e
    | obj _ _ _ _ => cases e
    | ref _ => cases e
    | fn _ => cases e
    | dic0 h =>
      cases e; cases r
      obtain ⟨h1, o, es, ep, h2, h3, h4, h5⟩ := dic0_at (G := G) I h
      exact repr_of_reads' (h₀ := s.heap) (as := _ :: [] ++ []) (.dict h2 h3.1 h4 (by rw [h5]; exact .nil) (by rw [h5]; exact .nil)) hs (fun _ z => by
        rcases List.mem_cons.mp z with z | z
        · rw [← z, beq_self_eq_true] at h1; cases h1
        · cases z) hg (by simp only [PyData.depth] at hu ⊢; omega) (fun _ _ h => h) (fun h' t tk k => fin h' t tk k) hz
  · unfold Val.toD at e
    cases r
    obtain ⟨its, rv, ⟨o, n, ho, hc, _, hd⟩, _⟩ := I.list (.inl (.inl hp))
    exact onList rr rv ho hc hd e
end
theorem cb_repr (hK : X.K = G.K) (hg : X.A.guards = some []) (hu : X.A.units + 64 < cLine) : CallR X (.builtin "repr") (rC G bRepr) := by
  intro pins s σ H us vs Q I rv ⟨μ, xs, z, th, r, e, q⟩
  unfold bRepr at e
  split at e
  · rename_i x
    obtain ⟨u, rfl, h⟩ := r.one
    split at e
    · rename_i d hd
      split at e
      · rename_i hc
        simp only [Bool.and_eq_true, decide_eq_true_eq] at hc
        obtain ⟨⟨h1, h3⟩, h4⟩ := hc
        cases e
        have fin : ∀ (h' : Heap) (t : Tok) (tk : Nat), (∀ b o, s.heap.get? b = some o → h'.get? b = some o) → EP X pins σ Q (.str d.shown t) { s with heap := h', toks := tk } := fun h' t tk k => ⟨.str d.shown, H, I.kept k, ⟨_, rfl⟩, q _ H same (mn_str _)⟩
        cases rv with
        | cons r1 rr =>
          cases rr
          exact repr_run hK I h hd r1 h1 h4 hg (by omega) fin
      · cases e
    · cases e
  · cases e

/-! ### defs called from below -/
/-- f, called by place from anywhere below with room, does g and raises nothing -/
def CalS (X : Cx) (G : GP) (n : Nat) (f : Value) (g : F) : Prop := ∀ (A : Around), Sub X n A → ∀ (pins : List (Addr × Obj)) (s : Shared) (σ : St) (H : Hp) (us : List Value) (vs : List V) (Q : VK), Inv X pins σ H s → Vals vs us →
  (∃ xs S μ, StR G μ H S ∧ VRs G μ H xs vs ∧ Out G W0 [] μ H (g xs S) fun v _ μ' H' => ∀ u, VR G μ' H' v u → Q u H') → wpAny (model X.prog X.w) A (call f us) (EP X pins σ Q) X.xe s
theorem cal_sub (F : FnOk X.prog X.w X.K X.mg X.base (L2.CX X.prog X.w) n f fd ps (spF G g)) (hb : Binds X.K fd ps []) : CalS X G n (.ref f) g := by
  intro A sb pins s σ H us vs Q I r ⟨xs, S, μ, sr, rr, o⟩
  have h : spF G g vs H Q E0 := ⟨xs, S, μ, sr, rr, o⟩
  have hl : us.length = ps.length := by rw [← r.length]; exact F.len _ _ _ _ h
  have b := hb s us I.kIn (by rw [List.append_nil]; exact hl)
  rw [List.append_nil] at b
  have e0 : Env0 X.prog X.w X.K X.mg X.base A X.stack s H := by
    have e := I.env0
    exact ⟨by rw [sb.fr]; exact e.frames, e.mod, e.bs, e.bsz, e.funs, e.frf, e.hok, e.bare⟩
  refine wpAny_call (codeAny_mono (F.run A X.stack s H ⟨us, []⟩ us vs Q E0 sb.room e0 b r h) fun r s' hq => ?_)
  cases r with
  | error e => exact passL pins σ H s e s' I hq
  | ok fl =>
    cases fl with
    | ret u => exact I.after hq
    | next => exact False.elim hq
    | brk => exact False.elim hq
    | cont => exact False.elim hq
/-- a def of the class, found in it -/
structure OwnD (X : Cx) (G : GP) (c n : Nat) (m : Str) (g : F) : Prop where
  ex : ∃ f, PySem.W.findIn X.K (.ref (G.cm c)) m = some (some (.ref f)) ∧ PySem.W.isFn X.K (.ref f) = true ∧ CalS X G n (.ref f) g
/-- g of one instance -/
def rOwn1 (G : GP) (c : Nat) (g : F) (P : Val → VK → Hp → Prop) : List V → Hp → VK → Prop := fun us H Q => ∃ x u S μ, us = [u] ∧ StR G μ H S ∧ VR G μ H x u ∧ isOf S c x = true ∧ Out G W0 [] μ H (g [x] S) fun v _ _ H' => P v Q H'
def PLen : Val → VK → Hp → Prop := fun v Q H' => ∃ i : Int, v = .int i ∧ 0 ≤ i ∧ i < 2 ^ 63 ∧ Q (.int i) H'
def PTru : Val → VK → Hp → Prop := fun v Q H' => ∃ i : Int, v = .int i ∧ 0 ≤ i ∧ i < 2 ^ 63 ∧ Q (.bl (i != 0)) H'
def PStr : Val → VK → Hp → Prop := fun v Q H' => ∃ i : Str, v = .str i ∧ Q (.str i) H'
theorem own_run {P : Val → VK → Hp → Prop} {A : Around} {pins : List (Addr × Obj)} {s : Shared} {σ : St} {H : Hp} {Q : VK} {y u : Addr} {x : Val} {S : Store} {μ : List Addr} (cs : CalS X G n (.ref f) g) (sb : Sub X n A) (I : Inv X pins σ H s) (sr : StR G μ H S) (hx : VR G μ H x (.ref y))
    (o : Out G W0 [] μ H (g [x] S) fun v _ _ H' => P v Q H') (hP : ∀ v u Q H μ, VR G μ H v u → P v Q H → ∃ w, w = u ∧ P v Q H) : wpAny (model X.prog X.w) A (call (.ref f) [.ref y]) (EP X pins σ fun u H' => ∃ v μ', VR G μ' H' v u ∧ P v Q H') X.xe s :=
  cs A sb pins s σ H [.ref y] [.ref y] _ I (.cons rfl .nil) ⟨[x], S, μ, sr, .cons hx .nil, o.mono fun v S1 μ1 H1 st sr k u hu => ⟨v, μ1, hu, k⟩⟩
theorem sub_in1 (hr : Room (n + 1) X.A) : Sub X n X.A.in1 := Sub.in1 ⟨hr, rfl⟩
theorem sub_at (hr : Room n X.A) : Sub X n X.A := ⟨hr, rfl⟩
theorem cr_lenO (d : OwnD X G c n "__len__" g) (hr : Room (n + 1) X.A) : CallR X (.builtin "len") (rOwn1 G c g PLen) := by
  intro pins s σ H us vs Q I rv ⟨x, u, S, μ, e, sr, hx, hi, o⟩
  subst e
  obtain ⟨f, h1, h2, cs⟩ := d.ex
  obtain ⟨y, dx, fs, rfl, hy, _⟩ := isOf_at sr hx hi
  cases rv with
  | cons r1 rr =>
    cases rr
    cases r1
    obtain ⟨mA, J, _⟩ := ins_get I.hok hy
    obtain ⟨od, J, _⟩ := J.look
    obtain ⟨m, hF⟩ := I.fr
    refine PySem.W.len_K hF I.ok.mod.kin J h1 h2 (wpAny_mono (cs X.A.in1 (sub_in1 hr) pins s σ H [.ref y] [.ref y] (fun u H' => ∃ i : Int, u = .int i ∧ 0 ≤ i ∧ i < 2 ^ 63 ∧ Q (.int i) H') I (.cons rfl .nil) ⟨[x], S, μ, sr, .cons hx .nil, o.mono fun v S1 μ1 H1 st sr k u hu => ?_⟩) (fun v s' ⟨w, H', I', rw', i, e, a1, a2, q⟩ => ?_) fun _ _ e => e)
    · obtain ⟨i, rfl, a1, a2, q⟩ := k
      cases hu
      exact ⟨i, rfl, a1, a2, q⟩
    · subst e
      obtain ⟨t, rfl⟩ := rw'
      exact ⟨⟨a1, a2⟩, .int i, H', I'.tok _, ⟨_, rfl⟩, q⟩
theorem cr_reprO (d : OwnD X G c n "__repr__" g) (hr : Room (n + 1) X.A) : CallR X (.builtin "repr") (rOwn1 G c g PStr) := by
  intro pins s σ H us vs Q I rv ⟨x, u, S, μ, e, sr, hx, hi, o⟩
  subst e
  obtain ⟨f, h1, h2, cs⟩ := d.ex
  obtain ⟨y, dx, fs, rfl, hy, _⟩ := isOf_at sr hx hi
  cases rv with
  | cons r1 rr =>
    cases rr
    cases r1
    obtain ⟨mA, J, _⟩ := ins_get I.hok hy
    obtain ⟨od, J, _⟩ := J.look
    obtain ⟨m, hF⟩ := I.fr
    refine PySem.W.repr_K (sub_in1 hr).room.units0 hF I.ok.mod.kin J h1 h2 (wpAny_mono (cs X.A.in1 (sub_in1 hr) pins s σ H [.ref y] [.ref y] (fun u H' => ∃ i : Str, u = .str i ∧ Q (.str i) H') I (.cons rfl .nil) ⟨[x], S, μ, sr, .cons hx .nil, o.mono fun v S1 μ1 H1 st sr k u hu => ?_⟩) (fun v s' ⟨w, H', I', rw', i, e, q⟩ => ?_) fun _ _ e => e)
    · obtain ⟨i, rfl, q⟩ := k
      cases hu
      exact ⟨i, rfl, q⟩
    · subst e
      obtain ⟨t, rfl⟩ := rw'
      exact ⟨.str i, H', I', ⟨_, rfl⟩, q⟩
theorem tru_own (d : OwnD X G c n "__len__" g) (hb : PySem.W.findIn X.K (.ref (G.cm c)) "__bool__" = some none) {A : Around} (sb : Sub X n A.in1) {pins : List (Addr × Obj)} {s : Shared} {σ : St} {H : Hp} {Q : Bool → Hp → Prop} {x : Val} {y : Addr} {S : Store} {μ : List Addr} (I : Inv X pins σ H s) (sr : StR G μ H S) (hx : VR G μ H x (.ref y)) (hi : isOf S c x = true)
    (o : Out G W0 [] μ H (g [x] S) fun v _ _ H' => ∃ i : Int, v = .int i ∧ 0 ≤ i ∧ i < 2 ^ 63 ∧ Q (i != 0) H') : wpAny (model X.prog X.w) A (truthy (.ref y)) (TP X pins σ Q) X.xe s := by
  obtain ⟨f, h1, h2, cs⟩ := d.ex
  obtain ⟨y', dx, fs, e, hy, _⟩ := isOf_at sr hx hi
  cases e
  obtain ⟨mA, J, _⟩ := ins_get I.hok hy
  obtain ⟨od, J, _⟩ := J.look
  refine PySem.kl_truthy I.kIn J hb h1 h2 (wpAny_mono (cs A.in1 sb pins s σ H [.ref y] [.ref y] (fun u H' => ∃ i : Int, u = .int i ∧ 0 ≤ i ∧ i < 2 ^ 63 ∧ Q (i != 0) H') I (.cons rfl .nil) ⟨[x], S, μ, sr, .cons hx .nil, o.mono fun v S1 μ1 H1 st sr k u hu => ?_⟩) (fun v s' ⟨w, H', I', rw', i, e, a1, a2, q⟩ => ?_) fun _ _ e => e)
  · obtain ⟨i, rfl, a1, a2, q⟩ := k
    cases hu
    exact ⟨i, rfl, a1, a2, q⟩
  · subst e
    obtain ⟨t, rfl⟩ := rw'
    exact ⟨i, t, rfl, a1, a2, H', I'.tok _, q⟩
/-- the types that may stand on the right -/
structure RightOf (X : Cx) (G : GP) (c : Nat) (own : List Nat) : Prop where
  ty : ∀ t : Ty, PySem.W.notFirst X.K (G.cm c) (.type t.nm) = true
  cl : ∀ d, d ∈ own → ClsI X.K (G.cm d) ∧ PySem.W.notFirst X.K (G.cm c) (.ref (G.cm d)) = true
def known (S : Store) (own : List Nat) (y : Val) : Bool := match tyOf y with
  | some _ => true
  | none => match clsOf S y with
    | some d => decide (d ∈ own)
    | none => false
theorem known_ty {own : List Nat} {y : Val} {u : V} {S : Store} (ro : RightOf X G c own) (hK : X.K = G.K) (sr : StR G μ H S) (hy : VR G μ H y u) (k : known S own y = true) : ∃ t, TyX X.K H u t ∧ PySem.W.notFirst X.K (G.cm c) t = true := by
  unfold known at k
  cases ht : tyOf y with
  | some t => exact ⟨_, by rw [hK]; exact ty_data hy.rb ht, ro.ty t⟩
  | none =>
    rw [ht] at k
    dsimp only at k
    cases hc : clsOf S y with
    | none => rw [hc] at k; cases k
    | some d =>
      rw [hc] at k
      obtain ⟨c1, c2⟩ := ro.cl d (of_decide_eq_true k)
      rw [hK] at c1
      exact ⟨_, by rw [hK]; exact ty_cls sr hy.rb hc c1, c2⟩
def rOwnEq (G : GP) (c : Nat) (own : List Nat) (g : F) (neg : Bool) : R2 := fun u w H Q => ∃ x y S μ, StR G μ H S ∧ VR G μ H x u ∧ VR G μ H y w ∧ isOf S c x = true ∧ known S own y = true ∧ Out G W0 [] μ H (g [x, y] S) fun v _ _ H' => ∃ k : Bool, v = .bl k ∧ Q (.bl (if neg then !k else k)) H'
theorem op_eqO {own : List Nat} (hK : X.K = G.K) (d : OwnD X G c n "__eq__" g) (ro : RightOf X G c own) (hr : Room n X.A) : OpR X (compareOp .Eq) (rOwnEq G c own g false) := by
  intro pins s σ H u w v1 v2 Q I r1 r2 ⟨x, y, S, μ, sr, hx, hy, hi, hk, o⟩
  obtain ⟨f, h1, h2, cs⟩ := d.ex
  obtain ⟨z, dx, fs, rfl, hz, _⟩ := isOf_at sr hx hi
  cases r1
  obtain ⟨mA, J, _⟩ := ins_get I.hok hz
  obtain ⟨od, J, _⟩ := J.look
  obtain ⟨m, hF⟩ := I.fr
  obtain ⟨t, ty, nf⟩ := known_ty ro hK sr hy hk
  obtain ⟨P, Z, p, _⟩ := kit_of I r2 ty
  refine PySem.W.cmp_K (op := .Eq) hr.units0 hF I.ok.mod.kin J (Z.ty _ _ I.kIn p) nf h1 h2 (wpAny_mono (cs X.A (sub_at hr) pins s σ H [.ref z, v2] [.ref z, w] (fun u H' => ∃ k : Bool, u = .bl k ∧ Q (.bl k) H') I (.cons rfl (.cons r2 .nil)) ⟨[x, y], S, μ, sr, .cons hx (.cons hy .nil), o.mono fun v S1 μ1 H1 st sr k u hu => ?_⟩) (fun v s' ⟨w, H', I', rw', i, e, q⟩ => ?_) fun _ _ e => e)
  · obtain ⟨i, rfl, q⟩ := k
    cases hu
    exact ⟨i, rfl, q⟩
  · subst e
    cases rw'
    exact ⟨.bl i, H', I', rfl, q⟩
theorem op_neO {own : List Nat} (hK : X.K = G.K) (d : OwnD X G c n "__eq__" g) (hne : PySem.W.findIn X.K (.ref (G.cm c)) "__ne__" = some (some (.builtin "object.__ne__"))) (hm : PySem.W.mroIn X.K (G.cm c) (.type "object") = some true) (ro : RightOf X G c own) (hr : Room (n + 1) X.A) : OpR X (compareOp .NotEq) (rOwnEq G c own g true) := by
  intro pins s σ H u w v1 v2 Q I r1 r2 ⟨x, y, S, μ, sr, hx, hy, hi, hk, o⟩
  obtain ⟨f, h1, h2, cs⟩ := d.ex
  obtain ⟨z, dx, fs, rfl, hz, _⟩ := isOf_at sr hx hi
  cases r1
  obtain ⟨mA, J, _⟩ := ins_get I.hok hz
  obtain ⟨od, J, _⟩ := J.look
  obtain ⟨t, ty, nf⟩ := known_ty ro hK sr hy hk
  obtain ⟨P, Z, p, _⟩ := kit_of I r2 ty
  have hu := hr.units
  show wpAny (model X.prog X.w) X.A (richCompare .NotEq (.ref z) v2) _ _ _
  refine PySem.kl_ne (by omega) I.kIn J (Z.ty _ _ I.kIn p) nf hne h1 h2 hm (wpAny_mono (cs X.A.in1 (sub_in1 hr) pins s σ H [.ref z, v2] [.ref z, w] (fun u H' => ∃ k : Bool, u = .bl k ∧ Q (.bl (!k)) H') I (.cons rfl (.cons r2 .nil)) ⟨[x, y], S, μ, sr, .cons hx (.cons hy .nil), o.mono fun v S1 μ1 H1 st sr k u hu => ?_⟩) (fun v s' ⟨w, H', I', rw', i, e, q⟩ => ?_) fun _ _ e => e)
  · obtain ⟨i, rfl, q⟩ := k
    cases hu
    exact ⟨i, rfl, q⟩
  · subst e
    cases rw'
    exact ⟨i, rfl, .bl (!i), H', I', rfl, q⟩

/-! ### as readings -/
def cOwn1 (c : Nat) (g : F) (p : Val → Option Val) (a : E Val) : E Val := fun ρ S => (a ρ S).bind fun x S1 => if isOf S1 c x then (g [x] S1).ne.bind fun v S2 => R.of (p v) S2 else .sk
def pLen : Val → Option Val
  | .int i => if 0 ≤ i ∧ i < 2 ^ 63 then some (.int i) else none
  | _ => none
def pTru : Val → Option Val
  | .int i => if 0 ≤ i ∧ i < 2 ^ 63 then some (.bl (i != 0)) else none
  | _ => none
def pStr : Val → Option Val
  | .str i => some (.str i)
  | _ => none
theorem Out.unit {σ' : St} {W' : WX} {μ1 : List Addr} {H1 : Hp} {r : R Val} {K : Val → Store → List Addr → Hp → Prop} (st : Step μ H μ1 H1) (sr : StR G μ1 H1 S) (o : Out G W σ μ H r K) : Out G W σ μ1 H1 r K := o.step st
theorem own_imp {p : Val → Option Val} {P : Val → VK → Hp → Prop} {Q : VK} (hP : ∀ v z H', p v = some z → (∀ q, VR G [] H' z q → Q q H') → P v Q H') (hz : ∀ v z, p v = some z → (∃ i, z = .int i) ∨ (∃ i, z = .bl i) ∨ ∃ i, z = .str i) (h : tE G N W (MN G) (cOwn1 c g p ma) σ H Q) : tE G N W (MF G) ma σ H fun u H1 => rOwn1 G c g P [u] H1 Q := by
  obtain ⟨ρ, S, μ, R, o⟩ := h
  refine ⟨ρ, S, μ, R, (Out.bind o).mono fun x S1 μ1 H1 st1 sr1 k1 u hu => ?_⟩
  split at k1
  · rename_i hi
    refine ⟨x, u, S1, μ1, rfl, sr1, hu, hi, ?_⟩
    cases hg : g [x] S1 with
    | sk => rw [hg] at k1; exact k1
    | er e S2 => rw [hg] at k1; exact False.elim k1
    | ok v S2 =>
      rw [hg] at k1
      obtain ⟨z, e, k2⟩ := Out.of (o := p v) (S := S2) k1
      intro μ2 H2 st2 sr2
      refine hP v z H2 e fun q hq => k2 μ2 H2 st2 sr2 q ?_
      rcases hz v z e with ⟨i, rfl⟩ | ⟨i, rfl⟩ | ⟨i, rfl⟩
      · cases hq; exact mn_int _
      · cases hq; exact mn_bl _
      · cases hq; exact mn_str _
  · exact False.elim k1
theorem one_arg {Q : VK} {t : TE} {r : List V → Hp → VK → Prop} (h : t σ H fun u H1 => r [u] H1 Q) : tCB r (tCons t tNil) σ H Q := h
theorem fe_lenO (d : OwnD X G c n "__len__" g) (hr : Room (n + 1) X.A) (hg : Gl X "len") (hm : X.mg "len" = none) (ha : PE X a (tE G N W (MF G) ma)) (hs : starEach [a] X.env = (false, eval a X.env) :: starEach [] X.env := by rfl) (hpl : (backTo pos (starEach [] X.env)).any (·.1) = false := by rfl) :
    PE X (.Call (.Name "len" p) [a] [] pos) (tE G N W (MN G) (cOwn1 c g pLen ma)) :=
  pe_imp (pe_callB (cr_lenO d hr) hg hm boot_len (pa_cons ha pa_nil hs) (by decide) (by decide) hs hpl) fun σ H Q q => one_arg (own_imp (fun v z H' e k => by
    cases v <;> simp only [pLen] at e <;> try cases e
    rename_i i
    split at e
    · rename_i hc
      cases e
      exact ⟨i, rfl, hc.1, hc.2, k _ (.int _)⟩
    · cases e) (fun v z e => by
    cases v <;> simp only [pLen] at e <;> try cases e
    split at e
    · cases e; exact .inl ⟨_, rfl⟩
    · cases e) q)
theorem fe_reprO (d : OwnD X G c n "__repr__" g) (hr : Room (n + 1) X.A) (hg : Gl X "repr") (hm : X.mg "repr" = none) (ha : PE X a (tE G N W (MF G) ma)) (hs : starEach [a] X.env = (false, eval a X.env) :: starEach [] X.env := by rfl) (hpl : (backTo pos (starEach [] X.env)).any (·.1) = false := by rfl) :
    PE X (.Call (.Name "repr" p) [a] [] pos) (tE G N W (MN G) (cOwn1 c g pStr ma)) :=
  pe_imp (pe_callB (cr_reprO d hr) hg hm PyProof.Rows.boot_repr (pa_cons ha pa_nil hs) (by decide) (by decide) hs hpl) fun σ H Q q => one_arg (own_imp (fun v z H' e k => by
    cases v <;> simp only [pStr] at e <;> cases e
    exact ⟨_, rfl, k _ (.str _)⟩) (fun v z e => by
    cases v <;> simp only [pStr] at e <;> cases e
    exact .inr (.inr ⟨_, rfl⟩)) q)
theorem cr_boolO (d : OwnD X G c n "__len__" g) (hb : PySem.W.findIn X.K (.ref (G.cm c)) "__bool__" = some none) (hr : Room (n + 3) X.A) : CallR X (.type "bool") (rOwn1 G c g PTru) := by
  intro pins s σ H us vs Q I rv ⟨x, u, S, μ, e, sr, hx, hi, o⟩
  subst e
  obtain ⟨y, dx, fs, rfl, hy, _⟩ := isOf_at sr hx hi
  cases rv with
  | cons r1 rr =>
    cases rr
    cases r1
    refine PySem.kl_bool (wpAny_mono (tru_own d hb (A := X.A.in1.in1) (Q := fun b H' => Q (.bl b) H') (Sub.in1 (Sub.in1 (Sub.in1 ⟨hr, rfl⟩))) I sr hx hi (o.mono fun v S1 μ1 H1 st sr k => k)) (fun b s' ⟨H', I', q⟩ => ⟨.bl b, H', I', rfl, q⟩) fun _ _ e => e)
theorem fe_boolO (d : OwnD X G c n "__len__" g) (hb : PySem.W.findIn X.K (.ref (G.cm c)) "__bool__" = some none) (hr : Room (n + 3) X.A) (hg : Gl X "bool") (hm : X.mg "bool" = none) (ha : PE X a (tE G N W (MF G) ma)) (hs : starEach [a] X.env = (false, eval a X.env) :: starEach [] X.env := by rfl) (hpl : (backTo pos (starEach [] X.env)).any (·.1) = false := by rfl) :
    PE X (.Call (.Name "bool" p) [a] [] pos) (tE G N W (MN G) (cOwn1 c g pTru ma)) :=
  pe_imp (pe_callTy (cr_boolO d hb hr) hg hm PyProof.Rows.boot_bool (pa_cons ha pa_nil hs) (by decide) (by decide) hs hpl) fun σ H Q q => one_arg (own_imp (fun v z H' e k => by
    cases v <;> simp only [pTru] at e <;> try cases e
    rename_i i
    split at e
    · rename_i hc
      cases e
      exact ⟨i, rfl, hc.1, hc.2, k _ (.bl _)⟩
    · cases e) (fun v z e => by
    cases v <;> simp only [pTru] at e <;> try cases e
    split at e
    · cases e; exact .inr (.inl ⟨_, rfl⟩)
    · cases e) q)
/-- a == b, a != b, a an instance with its own == -/
def cOwnEq (c : Nat) (own : List Nat) (g : F) (neg : Bool) (a b : E Val) : E Val := fun ρ S => (a ρ S).bind fun x S1 => (b ρ S1).bind fun y S2 => if isOf S2 c x && known S2 own y then (g [x, y] S2).ne.bind fun v S3 => match v with
  | .bl k => .ok (.bl (if neg then !k else k)) S3
  | _ => .sk else .sk
theorem owneq_imp {own : List Nat} {neg : Bool} {Q : VK} (h : tE G N W (MN G) (cOwnEq c own g neg ma mb) σ H Q) : tOp (rOwnEq G c own g neg) (tE G N W (MF G) ma) (tE G N W (MF G) mb) σ H Q := by
  obtain ⟨ρ, S, μ, R, o⟩ := h
  refine ⟨ρ, S, μ, R, (Out.bind o).mono fun x S1 μ1 H1 st1 sr1 k1 u hu => ⟨ρ, S1, μ1, R.step st1 sr1, (Out.bind k1).mono fun y S2 μ2 H2 st2 sr2 k2 w hw => ?_⟩⟩
  clear k1 o
  split at k2
  · rename_i hc
    simp only [Bool.and_eq_true] at hc
    refine ⟨x, y, S2, μ2, sr2, hu.kx (st2.kx sr1) st2.pre, hw, hc.1, hc.2, ?_⟩
    cases hg : g [x, y] S2 with
    | sk => rw [hg] at k2; exact k2
    | er e S3 => rw [hg] at k2; exact False.elim k2
    | ok v S3 =>
      rw [hg] at k2
      intro μ3 H3 st3 sr3
      cases v with
      | bl k => exact ⟨k, rfl, k2 μ3 H3 st3 sr3 _ (mn_bl _)⟩
      | _ => exact False.elim k2
  · exact False.elim k2
theorem fe_eqO {own : List Nat} (hK : X.K = G.K) (d : OwnD X G c n "__eq__" g) (ro : RightOf X G c own) (hr : Room n X.A) (ha : PE X a (tE G N W (MF G) ma)) (hb : PE X b (tE G N W (MF G) mb)) : PE X (.Compare a [.Eq] [b] pos) (tE G N W (MN G) (cOwnEq c own g false ma mb)) :=
  pe_imp (pe_cmpR (op_eqO hK d ro hr) ha hb (nomark _)) fun σ H Q q => owneq_imp q
theorem fe_neO {own : List Nat} (hK : X.K = G.K) (d : OwnD X G c n "__eq__" g) (hne : PySem.W.findIn X.K (.ref (G.cm c)) "__ne__" = some (some (.builtin "object.__ne__"))) (hm : PySem.W.mroIn X.K (G.cm c) (.type "object") = some true) (ro : RightOf X G c own) (hr : Room (n + 1) X.A) (ha : PE X a (tE G N W (MF G) ma)) (hb : PE X b (tE G N W (MF G) mb)) : PE X (.Compare a [.NotEq] [b] pos) (tE G N W (MN G) (cOwnEq c own g true ma mb)) :=
  pe_imp (pe_cmpR (op_neO hK d hne hm ro hr) ha hb (nomark _)) fun σ H Q q => owneq_imp q
theorem ft_eqO {own : List Nat} (hK : X.K = G.K) (d : OwnD X G c n "__eq__" g) (ro : RightOf X G c own) (hr : Room n X.A) (ha : PE X a (tE G N W (MF G) ma)) (hb : PE X b (tE G N W (MF G) mb)) : PT X (.Compare a [.Eq] [b] pos) (tT G N W (cT (cOwnEq c own g false ma mb))) :=
  pt_imp (pt_cmpR (op_eqO hK d ro hr) ha hb (nomark _)) fun σ H Q q => owneq_imp (test_imp (M := MN G) q)
theorem ft_neO {own : List Nat} (hK : X.K = G.K) (d : OwnD X G c n "__eq__" g) (hne : PySem.W.findIn X.K (.ref (G.cm c)) "__ne__" = some (some (.builtin "object.__ne__"))) (hm : PySem.W.mroIn X.K (G.cm c) (.type "object") = some true) (ro : RightOf X G c own) (hr : Room (n + 1) X.A) (ha : PE X a (tE G N W (MF G) ma)) (hb : PE X b (tE G N W (MF G) mb)) : PT X (.Compare a [.NotEq] [b] pos) (tT G N W (cT (cOwnEq c own g true ma mb))) :=
  pt_imp (pt_cmpR (op_neO hK d hne hm ro hr) ha hb (nomark _)) fun σ H Q q => owneq_imp (test_imp (M := MN G) q)
end
end KL

set_option linter.all false
set_option maxRecDepth 100000
set_option maxHeartbeats 1000000
/-! KKw: calls with keywords; f-strings. -/
namespace KL
open PySem L2
def pm {α : Type} (p : List Nat) (l : List α) : List α := p.filterMap fun i => l[i]?
section
variable {G : GP} {N : Fns} {W : WX} {X : Cx} {μ μ' : List Addr} {H H' : Hp} {σ : St} {ρ : Env} {S S' : Store} {e a : Expr} {es : List Expr} {pos p : Pos} {ms mk : E (List Val)} {me ma : E Val} {f : Str} {fa : Addr} {fd : FuncData} {ps ks : List Str} {c k n : Nat} {g : F} {x : Str} {kws : List Keyword} {pr : List Nat}
theorem VRs.pm {xs : List Val} {us : List V} (h : VRs G μ H xs us) : ∀ pr : List Nat, VRs G μ H (KL.pm pr xs) (KL.pm pr us)
  | [] => .nil
  | i :: pr => by
    unfold KL.pm
    rw [List.filterMap_cons, List.filterMap_cons]
    cases e : xs[i]? with
    | none =>
      have e2 : us[i]? = none := by
        rw [List.getElem?_eq_none_iff] at e ⊢
        rw [← h.length]; exact e
      rw [e2]
      exact VRs.pm h pr
    | some x =>
      obtain ⟨u, e2, r⟩ := h.get e
      rw [e2]
      exact .cons r (VRs.pm h pr)
theorem Vals.get_none {vs : List V} {us : List Value} (h : Vals vs us) {i : Nat} (e : vs[i]? = none) : us[i]? = none := by
  rw [List.getElem?_eq_none_iff] at e ⊢
  rw [← h.length]; exact e
theorem Vals.pm {vs : List V} {us : List Value} (h : Vals vs us) : ∀ pr : List Nat, Vals (KL.pm pr vs) (KL.pm pr us)
  | [] => .nil
  | i :: pr => by
    unfold KL.pm
    rw [List.filterMap_cons, List.filterMap_cons]
    cases e : vs[i]? with
    | none =>
      rw [Vals.get_none h e]
      exact Vals.pm h pr
    | some x =>
      obtain ⟨u, e2, r⟩ := h.get e
      rw [e2]
      exact .cons r (Vals.pm h pr)
/-- f, called with n values by place and the keywords ks, does g with all of them, one behind the other -/
def CalK (X : Cx) (G : GP) (W : WX) (f : Value) (n : Nat) (ks : List Str) (g : F) : Prop := ∀ (pins : List (Addr × Obj)) (s : Shared) (σ : St) (H : Hp) (us ws : List Value) (vs zs : List V) (Q : VK), Inv X pins σ H s → Vals vs us → Vals zs ws → us.length = n → ws.length = ks.length →
  (∃ xs S μ, StR G μ H S ∧ VRs G μ H xs (vs ++ zs) ∧ Out G W σ μ H (g xs S) fun v _ μ' H' => ∀ u, VR G μ' H' v u → Q u H') → wpAny (model X.prog X.w) X.A (call f us (ks.zip ws)) (EP X pins σ Q) X.xe s
/-- how such a call binds -/
def BindK (K : PySem.W.Frag) (fd : FuncData) (ps : List Str) (n : Nat) (ks : List Str) (pr : List Nat) : Prop := ∀ (s : Shared) (us ws : List Value), K.In s.heap → us.length = n → ws.length = ks.length → BindsTo s fd ⟨us, ks.zip ws⟩ (ps.zip (pm pr (us ++ ws)))
theorem bindK_of {K : PySem.W.Frag} {qual y : Str} {st : Stmt} (F : Fun K y qual st fa fd) (h : ∀ (kV doc pm' : Value) (an : Option Addr) (cdv ct : Value) (us ws : List Value), us.length = n → ws.length = ks.length → bindArgs (PySem.W.fnOf y qual (defArgs st) (defBody st) (defScope st) .none kV doc pm' an cdv ct) ⟨us, ks.zip ws⟩ = pure (ps.zip (pm pr (us ++ ws)))) : BindK K fd ps n ks pr := by
  obtain ⟨oc, od, kV, doc, pm', an, cdv, ct, osl, rfl, lk, hcd⟩ := F.ex
  exact fun s us ws X l1 l2 => .of_eq (h kV doc pm' an cdv ct us ws l1 l2)
def pmF (pr : List Nat) (g : F) : F := fun vs S => g (pm pr vs) S
theorem calk_ok (F : FnOk X.prog X.w X.K X.mg X.base (L2.CX X.prog X.w) k fa fd ps (spF G g)) (hr : Room k X.A) (hb : BindK X.K fd ps n ks pr) (tk : Takes X W) : CalK X G W (.ref fa) n ks (pmF pr g) := by
  intro pins s σ H us ws vs zs Q I r rz l1 l2 ⟨xs, S, μ, sr, rr, o⟩
  have h : spF G g (pm pr (vs ++ zs)) H Q (WE W σ) := ⟨pm pr xs, S, μ, sr, rr.pm pr, Out.we o⟩
  refine wpAny_call (codeAny_mono (F.run X.A X.stack s H ⟨us, ks.zip ws⟩ (pm pr (us ++ ws)) (pm pr (vs ++ zs)) Q (WE W σ) hr I.env0 (hb s us ws I.kIn l1 l2) (Vals.pm (r.append rz) pr) h) fun r s' hq => ?_)
  cases r with
  | error e => exact passAt tk σ pins H s e s' I hq
  | ok fl =>
    cases fl with
    | ret u => exact I.after hq
    | next => exact False.elim hq
    | brk => exact False.elim hq
    | cont => exact False.elim hq
/-- C(..): self goes ahead -/
theorem make_hq {g : FI} {im : Bool} {pins : List (Addr × Obj)} {s : Shared} {vs : List V} {Q : VK} (him : G.im (G.cm c) (G.cf c) = im) (I : Inv X pins σ H s) (h : ∃ xs S μ, StR G μ H S ∧ VRs G μ H xs vs ∧ Out G W σ μ H (mkF c im g xs S) fun v _ μ' H' => ∀ u, VR G μ' H' v u → Q u H') :
    spI G c g (V.ref (s.heap.objs.size + 1) :: vs) (upd (upd H s.heap.objs.size (.own (s.heap.objs.size + 1))) (s.heap.objs.size + 1) (.ins (G.cm c) s.heap.objs.size [])) (fun v H2 => v = .non ∧ Q (.ref (s.heap.objs.size + 1)) H2) (WE W σ) := by
  obtain ⟨xs, S, μ, sr, rr, o⟩ := h
  have nx := I.hok.fresh (Nat.le_succ s.heap.objs.size)
  have nd := I.hok.fresh (Nat.le_refl s.heap.objs.size)
  have e1 : ∀ a o, H a = some o → upd (upd H s.heap.objs.size (.own (s.heap.objs.size + 1))) (s.heap.objs.size + 1) (.ins (G.cm c) s.heap.objs.size []) a = some o := fun a o q => by
    rw [upd_ne (ne_of_none q nx), upd_ne (ne_of_none q nd)]; exact q
  have kx1 : Kx G H (upd (upd H s.heap.objs.size (.own (s.heap.objs.size + 1))) (s.heap.objs.size + 1) (.ins (G.cm c) s.heap.objs.size [])) := fun a o q _ => e1 a o q
  have npx : s.heap.objs.size + 1 ∉ μ := np_of sr.there nx
  refine ⟨_, _, vs, xs, S, μ, rfl, upd_same, npx, sr.ext e1, rr.kx kx1 (List.prefix_refl _), ?_⟩
  have ob := o
  unfold mkF at ob
  cases hg : g xs S with
  | sk => rw [hg] at ob; exact ob
  | er e S' =>
    rw [hg] at ob
    exact fun cls d μ' H' st0 sr' er => ob cls d μ' H' (st0.made nx nd) sr' er
  | ok fs S' =>
    rw [hg] at ob
    intro μ' H' st0 sr' np' ⟨dx, fl, h1, h2, h3⟩
    refine ⟨rfl, ?_⟩
    have base := st0.made nx nd
    cases im with
    | true => exact ob μ' H' base sr' _ (.obj h1 h2 him h3)
    | false =>
      have prx : μ' <+: μ' ++ [s.heap.objs.size + 1] := List.prefix_append _ _
      have sr2 := sr'.snoc (cl := .ins c fs) np' ⟨dx, fl, h1, h2, him, h3.kx (Kx.refl H') prx⟩
      have st2 : Step μ H (μ' ++ [s.heap.objs.size + 1]) H' := ⟨base.keep, base.tbl, base.pre.trans prx, fun a ha => by
        rcases List.mem_append.mp ha with z | z
        · exact base.new a z
        · cases List.mem_singleton.mp z; exact .inr nx, base.fz⟩
      refine ob _ H' st2 sr2 _ (.ref ?_)
      rw [← sr'.len, List.getElem?_append_right (Nat.le_refl _)]
      simp
theorem calk_make {g : FI} {im : Bool} (M : Mk X.K (G.cm c) fa) (F : FnOk X.prog X.w X.K X.mg X.base (L2.CX X.prog X.w) k fa fd ps (spI G c g)) (him : G.im (G.cm c) (G.cf c) = im) (hr : Room (k + 1) X.A) (hb : BindK X.K fd ps (n + 1) ks (0 :: pr.map (· + 1))) (tk : Takes X W) : CalK X G W (.ref (G.cm c)) n ks (pmF pr (mkF c im g)) := by
  intro pins s σ H us ws vs zs Q I r rz l1 l2 ⟨xs, S, μ, sr, rr, o⟩
  have I2 := Inv.made (C := G.cm c) I
  have hq := make_hq (vs := pm pr (vs ++ zs)) him I ⟨pm pr xs, S, μ, sr, rr.pm pr, o⟩
  have r2 : Vals (V.ref (s.heap.objs.size + 1) :: pm pr (vs ++ zs)) (Value.ref (s.heap.objs.size + 1) :: pm pr (us ++ ws)) := .cons rfl (Vals.pm (r.append rz) pr)
  have b := hb _ (Value.ref (s.heap.objs.size + 1) :: us) ws I2.kIn (by simp [l1]) l2
  have e : pm (0 :: pr.map (· + 1)) (Value.ref (s.heap.objs.size + 1) :: us ++ ws) = Value.ref (s.heap.objs.size + 1) :: pm pr (us ++ ws) := by
    unfold pm
    simp [List.filterMap_map, Function.comp_def]
  rw [e] at b
  refine wpAny_call (make_map (f := fa) I.kIn M.makes M.init (beq_iff_eq.mp M.fn) (codeAny_mono (F.run _ X.stack _ _ ⟨_ :: us, ks.zip ws⟩ _ _ _ _ (hr.make _ us (ks.zip ws)) (I2.env0.make _ us (ks.zip ws)) b r2 hq) fun r s' hq' => ?_))
  cases r with
  | error e => exact passAt tk σ pins _ _ e s' I2 hq'
  | ok fl =>
    cases fl with
    | ret u =>
      obtain ⟨v, H', I3, rv, ev, q3⟩ := I2.after hq'
      subst ev
      exact ⟨rv, ⟨V.ref (s.heap.objs.size + 1), H', I3, rfl, q3⟩⟩
    | next => exact False.elim hq'
    | brk => exact False.elim hq'
    | cont => exact False.elim hq'
/-- the keywords' values -/
theorem pk_imp {kws : List Keyword} {t t' : TA} (h : PK X kws t) (i : ∀ σ H Q, t' σ H Q → t σ H Q) : PK X kws t' := ⟨fun pos pins s σ H Q I q => h.run pos pins s σ H Q I (i σ H Q q)⟩
theorem fk_nil : PK X [] (tA G N W (MFs G) cNil) := pk_imp pk_nil fun σ H Q ⟨ρ, S, μ, R, o⟩ => o.ok R.st [] VRs.nil
theorem fk_cons {nm : Option Str} {kpos : Pos} (ha : PE X a (tE G N W (MF G) ma)) (hr : PK X kws (tA G N W (MFs G) ms)) : PK X (⟨nm, a, kpos⟩ :: kws) (tA G N W (MFs G) (cCons ma ms)) :=
  pk_imp (pk_cons ha hr) fun σ H Q ⟨ρ, S, μ, R, o⟩ => ⟨ρ, S, μ, R, (Out.bind o).mono fun x S1 μ1 H1 st1 sr1 k1 u hu => ⟨ρ, S1, μ1, R.step st1 sr1, (Out.bind k1).mono fun y S2 μ2 H2 st2 sr2 k2 us hus =>
    k2 μ2 H2 Step.refl sr2 (u :: us) (.cons (hu.kx (st2.kx sr1) st2.pre) hus)⟩⟩
def cCallK (n m : Nat) (g : F) (a b : E (List Val)) : E Val := fun ρ S => (a ρ S).bind fun xs S1 => (b ρ S1).bind fun ys S2 => if xs.length = n ∧ ys.length = m then g (xs ++ ys) S2 else .sk
theorem callk_imp {Q : VK} {m : Nat} (h : tE G N W (MF G) (cCallK n m g ms mk) σ H Q) : tA G N W (MFs G) ms σ H fun vs H1 => tA G N W (MFs G) mk σ H1 fun zs H2 => vs.length = n ∧ zs.length = m ∧ ∃ xs S μ, StR G μ H2 S ∧ VRs G μ H2 xs (vs ++ zs) ∧ Out G W σ μ H2 (g xs S) fun v _ μ' H' => ∀ u, VR G μ' H' v u → Q u H' := by
  obtain ⟨ρ, S, μ, R, o⟩ := h
  refine ⟨ρ, S, μ, R, (Out.bind o).mono fun xs S1 μ1 H1 st1 sr1 k1 us hus => ⟨ρ, S1, μ1, R.step st1 sr1, (Out.bind k1).mono fun ys S2 μ2 H2 st2 sr2 k2 ws hws => ?_⟩⟩
  clear k1 o
  split at k2
  · rename_i hc
    exact ⟨by rw [← VRs.length hus]; exact hc.1, by rw [← VRs.length hws]; exact hc.2, xs ++ ys, S2, μ2, sr2, (VRs.kx (st2.kx sr1) st2.pre hus).append hws, k2⟩
  · exact False.elim k2
theorem fe_callK0 {v : Addr} (cf : CalK X G W (.ref v) 0 ks g) (hg : Gl X x) (hm : X.mg x = some (.ref v)) (hk : PySem.W.keepIn X.K (.ref v) = true) (hkw : PK X kws (tA G N W (MFs G) mk))
    (hall : (backToKw pos (keywordEach kws X.env)).all (·.1.isSome) = true := by rfl) (hks : (backToKw pos (keywordEach kws X.env)).filterMap (·.1) = ks := by rfl) (hdb : (x == ("__debug__" : Str)) = false := by decide)
    (hpl : ((backTo pos (starEach [] X.env)).any (·.1) || (backToKw pos (keywordEach kws X.env)).any (·.1.isNone)) = false := by rfl) : PE X (.Call (.Name x p) [] kws pos) (tE G N W (MF G) (cCallK 0 ks.length g cNil mk)) := by
  refine ⟨fun pins s σ H Q I h => ?_⟩
  refine wpAny_Call_Name_kw (ld_glob I hg hm ?_ hdb)
  refine PySem.W.callWith_KW0 (h₀ := X.base) I.ok.mod.kin hk hall ?_ hpl
  have h2 := callk_imp h
  have h3 : tA G N W (MFs G) mk σ H fun zs H2 => ([] : List V).length = 0 ∧ zs.length = ks.length ∧ ∃ xs S μ, StR G μ H2 S ∧ VRs G μ H2 xs ([] ++ zs) ∧ Out G W σ μ H2 (g xs S) fun v _ μ' H' => ∀ u, VR G μ' H' v u → Q u H' := by
    obtain ⟨ρ, S, μ, R, o⟩ := h2
    exact (Out.ok o R.st) [] .nil
  refine thn (hkw.run pos pins s σ H _ I h3) fun ws s2 ⟨zs, H2, I2, rz, _, l2, q2⟩ => ⟨I2.kIn, ?_⟩
  rw [hks]
  exact cf pins s2 σ H2 [] ws [] zs Q I2 .nil rz rfl (by rw [← rz.length]; exact l2) q2
theorem fe_callK {v : Addr} (cf : CalK X G W (.ref v) n ks g) (hg : Gl X x) (hm : X.mg x = some (.ref v)) (hk : PySem.W.keepIn X.K (.ref v) = true) (ha : PA X (e :: es) (tA G N W (MFs G) ms)) (hkw : PK X kws (tA G N W (MFs G) mk))
    (hall : (backToKw pos (keywordEach kws X.env)).all (·.1.isSome) = true := by rfl) (hks : (backToKw pos (keywordEach kws X.env)).filterMap (·.1) = ks := by rfl) (hdb : (x == ("__debug__" : Str)) = false := by decide)
    (he : starEach (e :: es) X.env = (false, eval e X.env) :: starEach es X.env := by rfl) (hpl : ((backTo pos (starEach (e :: es) X.env)).any (·.1) || (backToKw pos (keywordEach kws X.env)).any (·.1.isNone)) = false := by rfl) :
    PE X (.Call (.Name x p) (e :: es) kws pos) (tE G N W (MF G) (cCallK n ks.length g ms mk)) := by
  refine ⟨fun pins s σ H Q I h => ?_⟩
  refine wpAny_Call_Name_kw (ld_glob I hg hm ?_ hdb)
  refine PySem.W.callWith_KW (h₀ := X.base) I.ok.mod.kin hk hall (thn (ha.run pos pins s σ H _ I (callk_imp h)) fun us s1 ⟨vs, H1, I1, r, q⟩ => ?_) hpl he
  refine thn (hkw.run pos pins s1 σ H1 _ I1 q) fun ws s2 ⟨zs, H2, I2, rz, l1, l2, q2⟩ => ⟨I2.kIn, ?_⟩
  rw [hks]
  exact cf pins s2 σ H2 us ws vs zs Q I2 r rz (by rw [← r.length]; exact l1) (by rw [← rz.length]; exact l2) q2

/-! ### f-strings -/
def fmtV : Val → Option Val
  | .str y => if y.length ≤ big then some (.str y) else none
  | .int i => if i.natAbs.log2 < 1920 then some (.str (toString i)) else none
  | _ => none
theorem fe_fmt (ha : PE X a (tE G N W (MF G) ma)) : PE X (.FormattedValue a (-1) none pos) (tE G N W (MF G) (cUn fmtV ma)) :=
  pe_imp (pe_fmt ha) fun σ H Q ⟨ρ, S, μ, R, o⟩ => ⟨ρ, S, μ, R, (Out.bind o).mono fun x S1 μ1 H1 st1 sr1 k1 u hu => by
    obtain ⟨z, e, k2⟩ := Out.of k1
    have hu' := hu.rb.dr sr1
    unfold fmtV at e
    split at e
    · rename_i y hy
      rw [hy] at hu'
      split at e
      · rename_i hl
        cases e
        cases hu'.str
        exact .inl ⟨y, rfl, hl, k2 μ1 H1 Step.refl sr1 _ (.str _)⟩
      · cases e
    · rename_i i hy
      rw [hy] at hu'
      split at e
      · rename_i hl
        cases e
        cases hu'.int
        exact .inr ⟨i, rfl, hl, k2 μ1 H1 Step.refl sr1 _ (.str _)⟩
      · cases e
    · cases e⟩
inductive FJ (X : Cx) (G : GP) (N : Fns) (W : WX) : List Expr → List (E Val) → Prop where
  | nil : FJ X G N W [] []
  | cons {e : Expr} {m : E Val} {es : List Expr} {ms : List (E Val)} (h : PE X e (tE G N W (MF G) m)) (r : FJ X G N W es ms) : FJ X G N W (e :: es) (m :: ms)
theorem FJ.pj : ∀ {es : List Expr} {ms : List (E Val)}, FJ X G N W es ms → PJ X es (ms.map (tE G N W (MF G)))
  | _, _, .nil => .nil
  | _, _, .cons h r => .cons h (FJ.pj r)
def cJs : List (E Val) → Str → E Str
  | [], acc => fun _ S => .ok acc S
  | m :: ms, acc => fun ρ S => (m ρ S).bind fun x S1 => match x with
    | .str y => if (acc ++ y).length ≤ big then cJs ms (acc ++ y) ρ S1 else .sk
    | _ => .sk
def cJoin (ms : List (E Val)) : E Val := fun ρ S => (cJs ms Str.empty ρ S).bind fun x S1 => .ok (.str x) S1
theorem js_imp {Q : Str → Hp → Prop} : ∀ {ms : List (E Val)} {acc : Str} {H : Hp}, (∃ ρ S μ, Rel G N μ σ H ρ S ∧ Out G W σ μ H (cJs ms acc ρ S) fun out _ _ H' => Q out H') → tJs (ms.map (tE G N W (MF G))) acc σ H Q
  | [], acc, H, ⟨ρ, S, μ, R, o⟩ => Out.ok o R.st
  | m :: ms, acc, H, ⟨ρ, S, μ, R, o⟩ => ⟨ρ, S, μ, R, (Out.bind o).mono fun x S1 μ1 H1 st1 sr1 k1 u hu => by
    cases x with
    | str y =>
      dsimp only at k1
      split at k1
      · rename_i hl
        cases hu
        exact ⟨y, rfl, hl, js_imp ⟨ρ, S1, μ1, R.step st1 sr1, k1⟩⟩
      · exact False.elim k1
    | _ => exact False.elim k1⟩
theorem fe_join {v1 v2 : Expr} {rest : List Expr} {ml : List (E Val)} (h : FJ X G N W (v1 :: v2 :: rest) ml) : PE X (.JoinedStr (v1 :: v2 :: rest) pos) (tE G N W (MF G) (cJoin ml)) :=
  pe_imp (pe_joined h.pj) fun σ H Q ⟨ρ, S, μ, R, o⟩ => js_imp ⟨ρ, S, μ, R, (Out.bind o).mono fun x S1 μ1 H1 st1 sr1 k1 => Out.ok k1 sr1 _ (.str _)⟩
end
end KL

set_option linter.all false
set_option maxRecDepth 100000
set_option maxHeartbeats 1000000
/-! KShare: a new list that is shared from now on; ints of the top. -/
namespace KL
open PySem L2
section
variable {G : GP} {N : Fns} {W : WX} {X : Cx} {μ μ' : List Addr} {H H' : Hp} {σ : St} {ρ : Env} {S S' : Store} {e : Expr} {me : E Val} {pos : Pos}
theorem lookup_mem {β : Type} {d : Nat} {b : β} : ∀ {l : List (Nat × β)}, l.lookup d = some b → (d, b) ∈ l
  | [], h => by cases h
  | (e, y) :: l, h => by
    simp only [List.lookup] at h
    split at h
    · rename_i q
      have q' : d = e := by simpa using q
      cases h; rw [q']; exact List.mem_cons_self ..
    · exact List.mem_cons_of_mem _ (lookup_mem h)
def cShare (a : E Val) : E Val := fun ρ S => (a ρ S).bind fun x S1 => match x with
  | .lst xs => .ok (.ref S1.length) (S1 ++ [.lst xs])
  | _ => .sk
theorem pe_share (h : PE X e (tE G N W (MN G) me)) : PE X e (tE G N W (MF G) (cShare me)) :=
  pe_imp h fun σ H Q ⟨ρ, S, μ, R, o⟩ => ⟨ρ, S, μ, R, by
    unfold cShare at o
    cases hm : me ρ S with
    | sk => rw [hm] at o; exact o
    | er e S1 => rw [hm] at o; exact o
    | ok x S1 =>
      rw [hm] at o
      intro μ' H' st sr u hu
      cases x with
      | lst xs =>
        rcases hu with ⟨p, xs', us, e1, rfl, hn, np, hp, r⟩ | ⟨hu, _⟩
        · cases e1
          have pr : μ' <+: μ' ++ [p] := List.prefix_append _ _
          have sr2 := sr.snoc (cl := .lst xs) np ⟨us, hp, r.kx (Kx.refl H') pr⟩
          have st2 : Step μ H (μ' ++ [p]) H' := ⟨st.keep, st.tbl, st.pre.trans pr, fun a ha => by
            rcases List.mem_append.mp ha with z | z
            · exact st.new a z
            · cases List.mem_singleton.mp z; exact .inr hn, st.fz⟩
          refine o (μ' ++ [p]) H' st2 sr2 _ (.ref ?_)
          rw [← sr.len, List.getElem?_append_right (Nat.le_refl _)]
          simp
        · exact absurd rfl (hu xs)
      | _ => exact False.elim o⟩
theorem fe_gint {x : Str} {i : Int} {pos : Pos} (hg : Gl X x) (hm : ∃ t, X.mg x = some (.int i t)) (hd : (x == ("__debug__" : Str)) = false := by decide) : PE X (.Name x pos) (tE G N W (MF G) (cC (.int i))) := by
  obtain ⟨t, hm⟩ := hm
  exact fe_glob (u := .int i) hg hm ⟨t, rfl⟩ (fun _ _ => .int i) hd
theorem ft_if {c a b : Expr} {tc ta tb : T} (hc : PT X c (tT G N W tc)) (ha : PT X a (tT G N W ta)) (hb : PT X b (tT G N W tb)) : PT X (.IfExp c a b pos) (tT G N W (cIf tc ta tb)) := by
  refine ⟨fun pins s σ H Q I ⟨ρ, S, μ, R, o⟩ => PyProof.Rows.isTrue_IfExp (thn (hc.run pins s σ H (fun k H1 => tT G N W (if k then ta else tb) σ H1 Q) I ⟨ρ, S, μ, R, (Out.bind o).mono fun k S1 μ1 H1 st sr kk => ⟨ρ, S1, μ1, R.step st sr, by cases k <;> exact kk⟩⟩) fun k s1 ⟨H1, I1, q1⟩ => ?_)⟩
  cases k with
  | true => exact ha.run pins s1 σ H1 Q I1 q1
  | false => exact hb.run pins s1 σ H1 Q I1 q1
end
end KL

set_option Elab.async false
set_option linter.all false
set_option maxRecDepth 100000
set_option maxHeartbeats 4000000
/-! KSort: any(..); sorted(..) of a list or tuple of alike data. -/
namespace KL
open PySem L2
section
variable {G : GP} {N : Fns} {W : WX} {X : Cx} {μ : List Addr} {H : Hp}
def bAny : List Val → Option Val
  | [.lst xs] => (asBls xs).map fun ns => .bl (ns.any _root_.id)
  | _ => none
theorem cb_any (hK : X.K = G.K) (hc : X.calm = true) : CallR X (.builtin "any") (rC G bAny) := cr_imp (cr_any hc) fun us H Q ⟨μ, xs, z, th, r, e, q⟩ => by
  unfold bAny at e
  split at e
  · rename_i zs
    obtain ⟨u, rfl, h⟩ := r.one
    obtain ⟨p, us, rfl, t, rr⟩ := h.sq
    cases hx : asBls zs with
    | none => rw [hx] at e; cases e
    | some bs =>
      rw [hx] at e; cases e
      have eu := asBls_vr rr hx
      subst eu
      rw [← hK] at t
      exact ⟨p, bs, rfl, t, q _ H same (mn_bl _)⟩
  · cases e
/-! is, is not of truth values -/
def opIsB : Val → Val → Option Val
  | .bl a, .bl b => some (.bl (decide (a = b)))
  | _, _ => none
def opNtB : Val → Val → Option Val
  | .bl a, .bl b => some (.bl (!decide (a = b)))
  | _, _ => none
theorem op_isBF : OpR X (compareOp .Is) (rO G opIsB) := by
  intro pins s σ H x y v u Q I rx ry ⟨μ, xv, yv, z, th, h1, h2, e, q⟩
  unfold opIsB at e
  split at e
  · cases e; cases h1.bl; cases h2.bl
    exact op_isBl pins s σ H _ _ v u Q I rx ry ⟨_, _, rfl, rfl, q _ H (fun _ _ h => h) (mn_bl _)⟩
  · cases e
theorem op_ntBF : OpR X (compareOp .IsNot) (rO G opNtB) := by
  intro pins s σ H x y v u Q I rx ry ⟨μ, xv, yv, z, th, h1, h2, e, q⟩
  unfold opNtB at e
  split at e
  · cases e; cases h1.bl; cases h2.bl
    exact op_notBl pins s σ H _ _ v u Q I rx ry ⟨_, _, rfl, rfl, q _ H (fun _ _ h => h) (mn_bl _)⟩
  · cases e
end
end KL
namespace KL.So
open PySem PySem.W PySem.Calls PyProof.Rows
section
variable {prog : Program} {w : World} {A : Around} {E : Value → Shared → Prop} {s : Shared} {β : Type} {vs : List Value} {bs : List β} {enc : β → PyData} {R : Value → β → Prop}
/-- sorted(it), it collected as vs -/
theorem sorted_col {it : Value} {Q : Value → Shared → Prop}
    (hcol : ∀ (A' : Around), A'.handled = A.handled → ∀ (Q' : List Value → Shared → Prop) (E' : Value → Shared → Prop), (∀ (h' : Heap) (tk : Nat), (∀ b o, s.heap.get? b = some o → h'.get? b = some o) → Q' vs { s with heap := h', toks := tk }) → wpAny (model prog w) A' (collect it) Q' E' s)
    (e : EachIs R vs bs) (er : EachIs (fun v b => ∃ as, Reads s.heap v (enc b) as) vs bs) (hal : AllAlike (bs.map enc)) (hk : Sortable (bs.map enc)) (hL : bs.length ≤ sizeLine) (hu : ∀ b, b ∈ bs → A.units + 2 + (enc b).depth < cLine)
    (h : ∀ (out : List Value) (a : Addr) (h1 h' : Heap) (c tk : Nat), (∀ b o, s.heap.get? b = some o → h1.get? b = some o) → (∀ b o, h1.get? b = some o → h'.get? b = some o) → h1.objs.size ≤ a → h'.get? a = some (seqObj "list" (List.toArray out) c) → EachIs R out (bs.mergeSort (dataLe false enc)) → Q (.ref a) { s with heap := h', toks := tk }) :
    wpAny (model prog w) A (call (.builtin "sorted") [it]) Q E s := by
  have hv : vs.length ≤ sizeLine := by rw [e.length]; exact hL
  refine call_function_entry kind_sorted plain_sorted entry_sorted (args_sorted1 it) ?_
  unfold Builtin.«sorted»
  refine wpAny_bind (m := checkCount "sorted" 1 1 _) (wpAny_pure (wpAny_bind (hcol A.in1 rfl _ _ fun h1 tk k1 => ?_)))
  refine wpAny_bind (wpAny_newList (items := vs) ?_ hv)
  have at2 : (h1.push (seqObj "list" vs.toArray 0)).get? h1.objs.size = some (seqObj "list" vs.toArray 0) := Heap.get?_push_size _ rfl
  have k2 : ∀ b o, s.heap.get? b = some o → (sortingHeap (h1.push (seqObj "list" vs.toArray 0)) h1.objs.size vs).get? b = some o := fun b o q =>
    sortingHeap_old (Nat.ne_of_lt (Heap.lt_size (k1 b o q))) (Heap.get?_push_of_some _ (k1 b o q))
  have er' : EachIs (fun v b => ∃ as, Reads (sortingHeap (h1.push (seqObj "list" vs.toArray 0)) h1.objs.size vs) v (enc b) as) vs bs := er.mono fun _ _ ⟨as, r⟩ => ⟨as, PyProof.Rows.Reads.keeps k2 r⟩
  refine wpAny_bind (wpAny_holding (wpAny_call_entry slot_list_sort ⟨_, at2, rfl⟩ entry_list_sort (list_sort_vals (s := { s with heap := h1.push (seqObj "list" vs.toArray 0), toks := tk }) at2
    (SortsAt.data (s := { s with heap := sortingHeap (h1.push (seqObj "list" vs.toArray 0)) h1.objs.size vs, toks := tk }) (each_map (R := fun v d => ∃ as, Reads (sortingHeap (h1.push (seqObj "list" vs.toArray 0)) h1.objs.size vs) v d as) enc er') hal hk (bound_map hu)) hv ⟨_, rfl, ?_⟩) (args_list_sort _)))
  refine wpAny_pure ⟨_, rfl, ?_⟩
  obtain ⟨c, hc⟩ := sortedHeap_at (vs := vs) (out := (sortVals (dataKind (sortingHeap (h1.push (seqObj "list" vs.toArray 0)) h1.objs.size vs) (bs.map enc)) false vs vs).toArray) at2
  exact h _ _ h1 _ c _ k1 (fun b o q => by
    rw [sortedHeap_old (Nat.ne_of_lt (Heap.lt_size q)) (by rw [size_push']; exact Nat.lt_succ_of_lt (Heap.lt_size q))]
    exact Heap.get?_push_of_some _ q) (Nat.le_refl _) hc (sortVals_data false e er' hal)
end
end KL.So
namespace KL
open PySem L2
/-- the data of a value -/
def encD (x : Val) : PyData := x.toD.getD .none
def sleD (x y : Val) : Bool := PySem.W.dataLe false encD x y
def tup1 : PyData → Bool
  | .tuple (_ :: _) => true
  | _ => false
def notTN : PyData → Bool
  | .none => false
  | .tuple _ => false
  | _ => true
/-- data that may be sorted -/
def sortOk (xs : List Val) : Bool := xs.all (fun x => x.toD.isSome) && (xs.map encD).all (fun d => (xs.map encD).all fun e => PySem.W.alike d e) && ((xs.map encD).all tup1 || (xs.map encD).all notTN) && (xs.map encD).all (fun d => decide (d.depth ≤ 60))
def bSortD : List Val → Option Val
  | [x] => (sqOf x).bind fun xs => if sortOk xs = true then some (.lst (msrt sleD xs)) else none
  | _ => none
section
variable {G : GP} {N : Fns} {W : WX} {X : Cx} {μ : List Addr} {H : Hp} {σ : St} {s : Shared} {pins : List (Addr × Obj)}
theorem each_of : ∀ {xs : List Val} {us : List V} {its : List Value}, VRs G μ H xs us → Vals us its → PySem.W.EachIs (fun v x => ∃ u, RelV u v ∧ VR G μ H x u) its xs
  | _, _, _, .nil, .nil => .nil
  | _, _, _, .cons h r, .cons q t => .cons ⟨_, q, h⟩ (each_of r t)
theorem of_each : ∀ {xs : List Val} {its : List Value}, PySem.W.EachIs (fun v x => ∃ u, RelV u v ∧ VR G μ H x u) its xs → ∃ us, Vals us its ∧ VRs G μ H xs us
  | _, _, .nil => ⟨[], .nil, .nil⟩
  | _, _, .cons ⟨u, q, h⟩ r => by
    obtain ⟨us, a, b⟩ := of_each r
    exact ⟨u :: us, .cons q a, .cons h b⟩
theorem each_reads (hK : X.K = G.K) (I : Inv X pins σ H s) : ∀ {xs : List Val} {us : List V} {its : List Value}, VRs G μ H xs us → Vals us its → xs.all (fun x => x.toD.isSome) = true → PySem.W.EachIs (fun v x => ∃ as, Reads s.heap v (encD x) as) its xs
  | _, _, _, .nil, .nil, _ => .nil
  | x :: _, _, _, .cons h r, .cons q t, e => by
    rw [List.all_cons, Bool.and_eq_true] at e
    obtain ⟨d, hd⟩ := Option.isSome_iff_exists.mp e.1
    obtain ⟨as, rd⟩ := h.reads hK I hd q
    exact .cons ⟨as, by show Reads _ _ (x.toD.getD .none) as; rw [hd]; exact rd⟩ (each_reads hK I r t e.2)
theorem sortOk_of {xs : List Val} (h : sortOk xs = true) : xs.all (fun x => x.toD.isSome) = true ∧ PySem.W.AllAlike (xs.map encD) ∧ PySem.W.Sortable (xs.map encD) ∧ ∀ x, x ∈ xs → (encD x).depth ≤ 60 := by
  unfold sortOk at h
  simp only [Bool.and_eq_true, Bool.or_eq_true] at h
  obtain ⟨⟨⟨h1, h2⟩, h3⟩, h4⟩ := h
  refine ⟨h1, fun d hd e he => List.all_eq_true.mp (List.all_eq_true.mp h2 d hd) e he, ?_, fun x hx => of_decide_eq_true (List.all_eq_true.mp h4 _ (List.mem_map.mpr ⟨x, hx, rfl⟩))⟩
  rcases h3 with h3 | h3
  · refine .inl fun d hd => ?_
    have := List.all_eq_true.mp h3 d hd
    unfold tup1 at this
    split at this
    · exact ⟨_, _, rfl⟩
    · cases this
  · refine .inr fun d hd => ?_
    have := List.all_eq_true.mp h3 d hd
    unfold notTN at this
    split at this
    · cases this
    · cases this
    · rename_i h1 h2
      exact ⟨h1, h2⟩
theorem cb_sortD (hK : X.K = G.K) (hu : X.A.units + 64 < cLine) : CallR X (.builtin "sorted") (rC G bSortD) := by
  intro pins s σ H us vs Q I rv ⟨μ, zs, z, th, r, e, q⟩
  unfold bSortD at e
  split at e
  · rename_i x
    obtain ⟨u, rfl, h⟩ := r.one
    cases hx : sqOf x with
    | none => rw [hx] at e; cases e
    | some xs =>
      rw [hx] at e
      have e' : (if sortOk xs = true then some (Val.lst (xs.mergeSort sleD)) else none) = some z := by rw [← msrt_eq]; exact e
      obtain ⟨ok, rfl⟩ := of_guard e'
      obtain ⟨o1, o2, o3, o4⟩ := sortOk_of ok
      obtain ⟨p, us, rfl, t, rr⟩ := sq_rd hx h
      obtain ⟨its, rv2, ⟨o, n, T, hT, ho, hc, hd⟩, hz⟩ : ∃ its : List Value, Vals us its ∧ (∃ (o : Obj) (n : Nat) (T : String), (T = "list" ∨ T = "tuple") ∧ s.heap.get? p = some o ∧ o.cls = .type T ∧ o.data = .seq its.toArray n) ∧ us.length ≤ sizeLine := by
        rcases t with t | t
        · rw [← hK] at t
          obtain ⟨its, rv2, pl, hz⟩ := I.list t
          obtain ⟨o, ho, hc, n, hd⟩ := pl.isList
          exact ⟨its, rv2, ⟨o, n, "list", .inl rfl, ho, hc, hd⟩, hz⟩
        · rw [← hK] at t
          obtain ⟨its, rv2, ⟨o, ho, hc, n, hd⟩, hz⟩ := I.tuple t
          exact ⟨its, rv2, ⟨o, n, "tuple", .inr rfl, ho, hc, hd⟩, hz⟩
      cases rv with
      | cons r1 rr1 =>
        cases rr1
        cases r1
        have hl : xs.length = its.length := rr.length.trans rv2.length
        refine So.sorted_col (R := fun v x => ∃ u, RelV u v ∧ VR G μ H x u) (enc := encD) (fun A' _ Q' E' hq => PySem.wpAny_collect_seq p hT ho hc hd (fun h' k => ?_) (by rw [List.size_toArray, ← rv2.length]; exact hz)) (each_of rr rv2) (each_reads hK I rr rv2 o1) o2 o3 (by rw [rr.length]; exact hz) (fun b hb => by have := o4 b hb; omega) fun out a h1 h' c tk k1 k hp ha ho => ?_
        · exact hq h' s.toks k
        · obtain ⟨us', v1, v2⟩ := of_each ho
          have I1 := I.kept (t' := s.toks) k1
          have fresh : H a = none := I1.hok.fresh hp
          have lo : us'.length ≤ sizeLine := by
            rw [← v2.length, List.length_mergeSort, rr.length]; exact hz
          exact ⟨.ref a, upd H a (.lst us'), I1.laid (t' := tk) k hp ⟨lo, out, c, v1, ha⟩, rfl, q _ _ (ext_upd fresh) (mn_lst fresh (np_of th fresh) v2)⟩
  · cases e
/-! sorted, of ints and of rows of ints -/
theorem sleD_int (a b : Int) : sleD (.int a) (.int b) = decide (a ≤ b) := congrFun (congrFun (PySem.W.dataLe_int (fun k : Int => k)) a) b
theorem toD_ints : ∀ ns : List Int, toDs (ns.map Val.int) = some (ns.map PyData.int)
  | [] => rfl
  | n :: ns => by
    rw [List.map_cons]
    unfold toDs
    rw [toD_ints ns]; rfl
theorem encD_row (l : List Int) : encD (.tup (l.map .int)) = .tuple (l.map .int) := by
  unfold encD Val.toD
  rw [toD_ints]; rfl
theorem sleD_row (a b : List Int) : sleD (.tup (a.map .int)) (.tup (b.map .int)) = !decide (b < a) := by
  show (!PySem.W.dataLt (encD (.tup (b.map .int))) (encD (.tup (a.map .int)))) = _
  rw [encD_row, encD_row, PySem.W.dataLt_tuple]
  show (!PySem.W.rowLt (b.map .int) (a.map .int)) = _
  rw [PySem.W.dataLt_ints]
theorem depth_is : ∀ l : List Int, PyData.depthAll (l.map PyData.int) = 0
  | [] => rfl
  | n :: l => by rw [List.map_cons, PyData.depthAll, depth_is l]; rfl
theorem sortOk_int (ns : List Int) : sortOk (ns.map .int) = true := by
  have e : (ns.map Val.int).map encD = ns.map PyData.int := by rw [List.map_map]; rfl
  unfold sortOk
  rw [e]
  simp only [Bool.and_eq_true, Bool.or_eq_true, List.all_eq_true, List.mem_map]
  refine ⟨⟨⟨?_, ?_⟩, .inr ?_⟩, ?_⟩
  · rintro x ⟨n, _, rfl⟩; rfl
  · rintro x ⟨n, _, rfl⟩ y ⟨m, _, rfl⟩; simp [PySem.W.alike]
  · rintro x ⟨n, _, rfl⟩; rfl
  · rintro x ⟨n, _, rfl⟩; rfl
theorem sort_ints (ns : List Int) : (ns.map Val.int).mergeSort sleD = (srtI ns).map Val.int := by
  rw [← List.map_mergeSort (r := fun a b => decide (a ≤ b)) fun a _ b _ => (sleD_int a b).symm]
  congr 1
  refine sorted_uniq ((List.mergeSort_perm _ _).trans (srtI_perm ns).symm) ?_ (srtI_pw ns)
  exact (List.pairwise_mergeSort (le := fun a b : Int => decide (a ≤ b)) (fun a b c h1 h2 => by simp only [decide_eq_true_eq] at *; omega) (fun a b => by simp only [Bool.or_eq_true, decide_eq_true_eq]; omega) ns).imp fun h => of_decide_eq_true h
theorem sortD_lst (ns : List Int) : bSortD [.lst (ns.map .int)] = some (.lst ((srtI ns).map .int)) := by
  show (if _ then _ else _) = _
  rw [if_pos (sortOk_int ns), msrt_eq, sort_ints]
theorem sortD_tup (ns : List Int) : bSortD [.tup (ns.map .int)] = some (.lst ((srtI ns).map .int)) := by
  show (if _ then _ else _) = _
  rw [if_pos (sortOk_int ns), msrt_eq, sort_ints]
def rowV (l : List Int) : Val := .tup (l.map .int)
theorem sortOk_row (ls : List (List Int)) (h : ∀ l, l ∈ ls → l ≠ []) : sortOk (ls.map rowV) = true := by
  have e : (ls.map rowV).map encD = ls.map fun l => PyData.tuple (l.map .int) := by
    rw [List.map_map]
    exact List.map_congr_left fun l _ => encD_row l
  unfold sortOk
  rw [e]
  simp only [Bool.and_eq_true, Bool.or_eq_true, List.all_eq_true, List.mem_map, decide_eq_true_eq]
  refine ⟨⟨⟨?_, ?_⟩, .inl ?_⟩, ?_⟩
  · rintro x ⟨l, _, rfl⟩
    show (Val.toD (.tup (l.map .int))).isSome = true
    unfold Val.toD
    rw [toD_ints]; rfl
  · rintro x ⟨l, _, rfl⟩ y ⟨m, _, rfl⟩
    rw [PySem.W.alike]
    exact PySem.W.alike_ints l m
  · rintro x ⟨l, hl, rfl⟩
    cases l with
    | nil => exact absurd rfl (h [] hl)
    | cons a l => rfl
  · rintro x ⟨l, _, rfl⟩
    rw [PyData.depth, depth_is]; decide
def rowLe (a b : List Int) : Bool := !decide (b < a)
theorem sortD_rows (ls : List (List Int)) (h : ∀ l, l ∈ ls → l ≠ []) : bSortD [.lst (ls.map rowV)] = some (.lst ((ls.mergeSort rowLe).map rowV)) := by
  show (if _ then _ else _) = _
  rw [if_pos (sortOk_row ls h), msrt_eq, ← List.map_mergeSort (f := rowV) (r := rowLe) fun a _ b _ => (sleD_row a b).symm]
/-! a tuple of texts of the top -/
def TupC (K : PySem.W.Frag) (a : Addr) (ss : List Str) : Prop := ∃ (o : Obj) (its : Array Value) (n : Nat), K.lookup a = some o ∧ o.cls = .type "tuple" ∧ o.data = .seq its n ∧ its.size ≤ sizeLine ∧ Vals (ss.map V.str) its.toList
theorem vrs_strs {μ : List Addr} {H : Hp} : ∀ ss : List Str, VRs G μ H (ss.map Val.str) (ss.map V.str)
  | [] => .nil
  | s :: ss => .cons (.str s) (vrs_strs ss)
theorem fe_gtup {x : Str} {ss : List Str} {pos : Pos} (hK : X.K = G.K) (hg : Gl X x) (hm : ∃ a, X.mg x = some (.ref a) ∧ TupC X.K a ss) (hd : (x == ("__debug__" : Str)) = false := by decide) : PE X (.Name x pos) (tE G N W (MF G) (cC (.tup (ss.map .str)))) := by
  obtain ⟨a, hm, o, its, n, h1, h2, h3, h4, h5⟩ := hm
  exact fe_glob (u := .ref a) hg hm rfl (fun μ H => .tup (.inr ⟨o, its, n, by rw [← hK]; exact h1, h2, h3, h4, h5⟩) (vrs_strs ss)) hd
end
end KL

set_option Elab.async false
set_option linter.all false
set_option maxRecDepth 100000
set_option maxHeartbeats 4000000
/-! KDic: dicts whose keys are tuples, nested or not, as shared things. -/
namespace KL
open PySem L2
section
variable {G : GP} {N : Fns} {W : WX} {X : Cx} {pins : List (Addr × Obj)} {σ : St} {s : Shared} {μ μ' : List Addr} {H H' : Hp} {S S' : Store} {ρ : Env}
theorem dicO_ok {P : Program} {w w' : World} {H : Hp} {h : Heap} {a : Addr} {xs : List DE} {o : Obj} {es : Array DictEntry} {ep : Nat} (ns : (a == sysModules) = false) (ho : h.get? a = some o) (ex : o.ExactDict) (hd : o.data = .dict es ep) (he : es.toList = xs.map (entW w)) : ObjOk P w' H h a (DicO a w xs) :=
  ⟨⟨ns, o, es, ep, ho, ex, hd, he⟩, ⟨o, ho⟩, fun h1 h2 ⟨n, o, es, ep, ho, r⟩ k => ⟨n, o, es, ep, k o ho, r⟩⟩
theorem dic_at {w : World} {a : Addr} {xs : List DE} (I : Inv X pins σ H s) (h : H a = some (DicO a w xs)) : (a == sysModules) = false ∧ ∃ (o : Obj) (es : Array DictEntry) (ep : Nat), s.heap.get? a = some o ∧ o.ExactDict ∧ o.data = .dict es ep ∧ es.toList = xs.map (entW w) := (I.hok a _ h).1
mutual
theorem nest_is (hK : X.K = G.K) (I : Inv X pins σ H s) : ∀ {x : Val} {u : V} {v : Value} {k : NestedKey}, VR G μ H x u → RelV u v → vKey x = some k → NestedIs s.heap k v
  | _, _, _, _, .non, r, e => by cases e; cases r; exact .none
  | _, _, _, _, .bl b, r, e => by cases e; cases r; exact .bool rfl
  | _, _, _, _, .int i, r, e => by cases e; obtain ⟨t, rfl⟩ := r; exact .int i t
  | _, _, _, _, .str x, r, e => by cases e; obtain ⟨t, rfl⟩ := r; exact .text x t
  | .tup xs, _, _, _, .tup h q, r, e => by
    have e' : (vKeys xs).map NestedKey.tup = some _ := e
    cases hk : vKeys xs with
    | none => rw [hk] at e'; cases e'
    | some ks =>
      rw [hk] at e'; cases e'; cases r
      rw [← hK] at h
      obtain ⟨its, rv, ⟨o, ho, hc, n, hd⟩, hz⟩ := I.tuple h
      exact .tup ho hc hd (by simpa using nest_all hK I q rv hk)
  | _, _, _, _, .lst h q, r, e => by cases e
  | _, _, _, _, .arr h q, r, e => by cases e
  | _, _, _, _, .obj h a b q, r, e => by cases e
  | _, _, _, _, .ref h, r, e => by cases e
  | _, _, _, _, .fn h, r, e => by cases e
  | _, _, _, _, .dic0 h, r, e => by cases e
theorem nest_all (hK : X.K = G.K) (I : Inv X pins σ H s) : ∀ {xs : List Val} {us : List V} {vs : List Value} {ks : List NestedKey}, VRs G μ H xs us → Vals us vs → vKeys xs = some ks → NestedAll s.heap ks vs
  | _, _, _, _, .nil, .nil, e => by cases e; exact .nil
  | x :: xs, _, _, ks, .cons h q, .cons r t, e => by
    unfold vKeys at e
    cases h1 : vKey x with
    | none => rw [h1] at e; cases e
    | some k =>
      cases h2 : vKeys xs with
      | none => rw [h1, h2] at e; cases e
      | some ks =>
        rw [h1, h2] at e; cases e
        exact .cons (nest_is hK I h r h1) (nest_all hK I q t h2)
end
theorem keys_all (hK : X.K = G.K) (I : Inv X pins σ H s) : ∀ {kvs : List (Val × Val)} {xs : List DE}, kvs.map (fun p => vKey p.1) = xs.map (fun x => some x.1) → VRs G μ H (kvs.map (·.1)) (xs.map fun x => V.ref x.2.1) → ∀ x, x ∈ xs → NestedIs s.heap x.1 (.ref x.2.1)
  | [], [], _, _, x, h => absurd h List.not_mem_nil
  | [], _ :: _, e, _, _, _ => by cases e
  | _ :: _, [], e, _, _, _ => by cases e
  | p :: kvs, y :: xs, e, r, x, h => by
    rw [List.map_cons, List.map_cons, List.cons.injEq] at e
    cases r with
    | cons r1 r2 =>
      rcases List.mem_cons.mp h with z | z
      · subst z; exact nest_is hK I r1 rfl e.1
      · exact keys_all hK I e.2 r2 x z
theorem dic_of (hK : X.K = G.K) (I : Inv X pins σ H s) {a : Addr} {kvs : List (Val × Val)} {xs : List DE} (h : H a = some (DicO a X.w xs)) (d : DicR G μ H kvs xs) : s.heap.DictOfH (nestedKind X.prog X.w) a xs := by
  obtain ⟨_, o, es, ep, ho, ex, hd, he⟩ := dic_at I h
  exact ⟨o, es, ep, ho, ex, hd, he, fun x hx => ⟨keys_all hK I d.keys d.kvr x hx, d.dp x hx⟩, d.nd⟩
/-- what stands under a key -/
def dGet (kvs : List (Val × Val)) (k : Val) : Option Val := (kvs.find? fun p => decide (vKey p.1 = vKey k)).map (·.2)
theorem dGet_at {k : Val} {nk : NestedKey} (hk : vKey k = some nk) : ∀ {kvs : List (Val × Val)} {xs : List DE} {us : List V}, kvs.map (fun p => vKey p.1) = xs.map (fun x => some x.1) → VRs G μ H (kvs.map (·.2)) us → Vals us (xs.map (·.2.2)) →
    (dGet kvs k = none ∧ atKey xs nk = none) ∨ ∃ y u p, dGet kvs k = some y ∧ atKey xs nk = some p ∧ RelV u p.2 ∧ VR G μ H y u
  | [], [], _, _, _, _ => .inl ⟨rfl, rfl⟩
  | [], _ :: _, _, e, _, _ => by cases e
  | _ :: _, [], _, e, _, _ => by cases e
  | p :: kvs, x :: xs, _, e, r, q => by
    rw [List.map_cons, List.map_cons, List.cons.injEq] at e
    cases r with
    | cons r1 r2 =>
      cases q with
      | cons q1 q2 =>
        by_cases h : x.1 = nk
        · refine .inr ⟨p.2, _, x.2, ?_, ?_, q1, r1⟩
          · unfold dGet
            rw [List.find?_cons_of_pos (by rw [e.1, hk, h]; simp)]; rfl
          · unfold atKey
            rw [List.find?_cons_of_pos (by simpa using h)]; rfl
        · have e1 : dGet (p :: kvs) k = dGet kvs k := by
            unfold dGet
            rw [List.find?_cons_of_neg (by rw [e.1, hk]; simpa using h)]
          have e2 : atKey (x :: xs) nk = atKey xs nk := by
            unfold atKey
            rw [List.find?_cons_of_neg (by simpa using h)]
          rw [e1, e2]
          exact dGet_at hk e.2 r2 q2
/-- a tuple that may be a key -/
def keyT : Val → Bool
  | .tup xs => match vKey (.tup xs) with
    | some k => decide (k.depth ≤ 8)
    | none => false
  | _ => false
theorem keyT_of {k : Val} (h : keyT k = true) : ∃ xs nk, k = .tup xs ∧ vKey k = some nk ∧ nk.depth ≤ 8 := by
  unfold keyT at h
  split at h
  · rename_i xs
    split at h
    · rename_i nk e
      exact ⟨xs, nk, rfl, e, of_decide_eq_true h⟩
    · cases h
  · cases h
/-! ### {} -/
def cDNew : E Val := fun _ S => .ok (.ref S.length) (S ++ [.dic []])
theorem pe_dnew {pos : Pos} : PE X (.Dict [] [] pos) (fun _ H Q => ∀ p, H p = none → Q (.ref p) (upd H p (DicO p X.w []))) := ⟨fun pins s σ H Q I h =>
  wpAny_Dict_empty ⟨.ref s.heap.objs.size, _, I.laid (a := s.heap.objs.size) (o := DicO s.heap.objs.size X.w []) (t' := s.toks) (fun _ _ q => Heap.get?_push_of_some _ q) (Nat.le_refl _)
    (dicO_ok (beq_eq_false_iff_ne.mpr (Ne.symm (Nat.ne_of_lt I.big))) (Heap.get?_push_size _ rfl) ⟨rfl, rfl, rfl⟩ rfl rfl), rfl, h _ (I.hok.fresh (Nat.le_refl _))⟩⟩
theorem Step.new1 {p : Addr} (st : Step μ H μ' H') (hn : H p = none) : Step μ H (μ' ++ [p]) H' := ⟨st.keep, st.tbl, st.pre.trans (List.prefix_append _ _), fun a ha => by
  rcases List.mem_append.mp ha with z | z
  · exact st.new a z
  · cases List.mem_singleton.mp z; exact .inr hn, st.fz⟩
theorem dic_new {p : Addr} {o : HO} {c : Cell} (sr : StR G μ H S) (hn : H p = none) (hc : CellR G (μ ++ [p]) (upd H p o) c p) : Step μ H (μ ++ [p]) (upd H p o) ∧ StR G (μ ++ [p]) (upd H p o) (S ++ [c]) ∧ (μ ++ [p])[S.length]? = some p := by
  have np : p ∉ μ := fun z => sr.there p z hn
  refine ⟨Step.new1 (Step.made hn) hn, (sr.upd np (fun u e => by rw [hn] at e; cases e)).snoc np hc, ?_⟩
  rw [← sr.len, List.getElem?_append_right (Nat.le_refl _)]; simp
theorem fe_dnew {pos : Pos} (hw : X.w = G.w) : PE X (.Dict [] [] pos) (tE G N W (MF G) cDNew) :=
  pe_imp pe_dnew fun σ H Q ⟨ρ, S, μ, R, o⟩ p hn => by
    obtain ⟨st, sr, hm⟩ := dic_new (o := DicO p X.w []) (c := .dic []) R.st hn ⟨[], by rw [← hw]; exact upd_same, rfl, .nil, ⟨[], .nil, .nil⟩, .nil, fun x h => absurd h List.not_mem_nil, Nat.zero_le _⟩
    exact o _ _ st sr _ (.ref hm)
/-- {} that nobody changes -/
def cD0 : E Val := fun _ S => .ok (.dic []) S
theorem fe_d0 {pos : Pos} : PE X (.Dict [] [] pos) (tE G N W (MF G) cD0) := by
  refine ⟨fun pins s σ H Q I ⟨ρ, S, μ, R, o⟩ => ?_⟩
  have r := (pe_dnewK (X := X) (pos := pos)).run pins s σ H (fun u H1 => ∃ p, u = .ref p ∧ H p = none ∧ H1 = upd H p (.dK [])) I fun p hn => ⟨p, rfl, hn, rfl⟩
  refine wpAny_mono r ?_ ?_
  · intro v s' hq
    obtain ⟨u, H1, I1, rv, p, hu, hn, hH⟩ := hq
    subst hu hH
    obtain ⟨od, I2⟩ := I1.lock (d := p) upd_same True.intro
    rw [upd_upd] at I2
    have q : Q (.ref p) (upd H p (.frz od (.dK []))) := o μ _ (Step.made hn) (R.st.ext (ext_upd hn)) _ (.dic0 upd_same)
    exact ⟨.ref p, _, I2, rv, q⟩
  · intro _ _ h
    exact h
/-! ### methods -/
/-- an entry more -/
theorem DicR.snoc {kvs : List (Val × Val)} {xs : List DE} {k y : Val} {nk : NestedKey} {kb : Addr} {u : V} {v : Value} (d : DicR G μ H kvs xs) (hk : vKey k = some nk) (hd : nk.depth ≤ 8) (rk : VR G μ H k (.ref kb)) (ry : VR G μ H y u) (rv : RelV u v) (hn : atKey xs nk = none) (hl : xs.length < sizeLine) : DicR G μ H (kvs ++ [(k, y)]) (xs ++ [(nk, kb, v)]) where
  keys := by rw [List.map_append, List.map_append, d.keys]; simp [hk]
  kvr := by rw [List.map_append, List.map_append]; exact d.kvr.append (.cons rk .nil)
  vals := by
    obtain ⟨us, a, b⟩ := d.vals
    refine ⟨us ++ [u], by rw [List.map_append]; exact a.append (.cons ry .nil), ?_⟩
    rw [List.map_append]
    exact b.append (.cons rv .nil)
  nd := by
    rw [List.map_append, List.nodup_append]
    refine ⟨d.nd, by simp, fun a ha b hb e => ?_⟩
    cases List.mem_singleton.mp hb
    subst e
    obtain ⟨x, hx, e⟩ := List.mem_map.mp ha
    unfold atKey at hn
    rw [Option.map_eq_none_iff, List.find?_eq_none] at hn
    exact hn x hx (by simpa using e)
  dp := fun x hx => (List.mem_append.mp hx).elim (d.dp x) fun e => by cases List.mem_singleton.mp e; exact hd
  len := by rw [List.length_append, List.length_singleton]; omega
def rSetd (G : GP) : V → List V → Hp → VK → Prop := fun x us H Q => ∃ μ a kvs xs k nk kb y u, x = .ref a ∧ us = [.ref kb, u] ∧ H a = some (DicO a G.w xs) ∧ DicR G μ H kvs xs ∧ vKey k = some nk ∧ nk.depth ≤ 8 ∧ VR G μ H k (.ref kb) ∧ VR G μ H y u ∧ xs.length < sizeLine ∧
  (∀ z q, dGet kvs k = some z → VR G μ H z q → Q q H) ∧ (dGet kvs k = none → ∀ xs', DicR G μ H (kvs ++ [(k, y)]) xs' → Q u (upd H a (DicO a G.w xs')))
theorem mt_setd (hK : X.K = G.K) (hw : X.w = G.w) (hr : X.A.units + 64 < cLine) : MtR X "dict.setdefault" (rSetd G) := by
  intro pins s σ H x us v vs Q I r rs ⟨μ, a, kvs, xs, k, nk, kb, y, u, ex, eu, hH, d, hk, hd, rk, ry, hl, h1, h2⟩
  subst ex eu
  cases r
  cases rs with
  | cons q1 q2 =>
    cases q1
    cases q2 with
    | cons q3 q4 =>
      cases q4
      have hH' := hH
      rw [← hw] at hH'
      have hm := dic_of hK I hH' d
      obtain ⟨us, a1, a2⟩ := d.vals
      refine call_setdefault_heap (knd := nestedKind X.prog X.w) (k := nk) (by show X.A.in1.units + 8 < cLine; show X.A.units + 1 + 8 < cLine; omega) ⟨nest_is hK I rk rfl hk, hd⟩ (dic_at I hH').1 hm (fun p hp => ?_) (fun hn h' hm' hs => ?_) (Nat.le_of_lt hl)
      · rcases dGet_at hk d.keys a1 a2 with ⟨_, z⟩ | ⟨z, uz, p', e1, e2, e3, e4⟩
        · rw [hp] at z; cases z
        · rw [hp] at e2; cases e2
          exact ⟨uz, H, I.tok _, e3, h1 z uz e1 e4⟩
      · rcases dGet_at hk d.keys a1 a2 with ⟨z, _⟩ | ⟨z, uz, p', e1, e2, e3, e4⟩
        · rw [storedH_new hn] at hm'
          obtain ⟨o, es, ep, ho, ex, hdt, he, _, _⟩ := hm'
          refine ⟨u, _, I.write (x := a) (e := a) (o := DicO a G.w (xs ++ [(nk, kb, _)])) (by rw [hH]; trivial) (.inl rfl) (fun b ob hb hob => (hs.2 b hb).trans hob) ⟨o, ho⟩ (dicO_ok (dic_at I hH').1 ho ex hdt (by rw [← hw]; exact he)), q3, h2 z _ (d.snoc hk hd rk ry q3 hn hl)⟩
        · rw [hn] at e2; cases e2
/-- a method of a dict -/
theorem pe_bmD {r : V → List V → Hp → VK → Prop} {name : Str} {id : String} {o e : Expr} {es : List Expr} {to : TE} {t : TA} {apos cpos : Pos} (slot : PySem.Slot "dict" name id) (hty : typeOf (.builtin id) = pure (.type "method_descriptor")) (hm : MtR X id r) (ho : PE X o to) (ha : PA X (e :: es) t)
    (hbase : attributeBase o name X.env (eval o X.env) = eval o X.env := by rfl)
    (hfew : ((backTo cpos (starEach (e :: es) X.env)).all (fun x => !x.1) && (backToKw cpos (keywordEach [] X.env)).all (fun x => x.1.isSome) && decide ((e :: es).length + ([] : List Keyword).length + (if ([] : List Keyword).isEmpty then 0 else 1) < 30)) = true := by rfl)
    (hline : (apos.endLine == cpos.line) = true := by rfl) (hs : starEach (e :: es) X.env = (false, eval e X.env) :: starEach es X.env := by rfl) (hplain : (backTo cpos (starEach es X.env)).any (·.1) = false := by rfl) :
    PE X (.Call (.Attribute o name apos) (e :: es) [] cpos) (fun σ H Q => to σ H fun x H1 => (∃ a w xs, x = .ref a ∧ H1 a = some (DicO a w xs)) ∧ t σ H1 fun ys H2 => r x ys H2 Q) := by
  refine ⟨fun pins s σ H Q I h => wpAny_Call_method_late hbase hfew hline rfl (thn (ho.run pins s σ H _ I h) fun v s1 ⟨x, H1, I1, r1, ⟨a, w', xs, ex, hH⟩, q1⟩ => ?_)⟩
  subst ex
  have ev : v = .ref a := r1
  obtain ⟨_, ob, es', ep, hob, xd, _, _⟩ := dic_at I1 hH
  refine ⟨"dict", id, PySem.F.plainAttrs_dict, slot, hty, by rw [ev]; exact ⟨ob, hob, xd.1⟩, fun b eb => by rw [ev] at eb; cases eb; exact ⟨ob, hob, xd.2.1⟩, ?_⟩
  have hA := ha.run cpos pins s1 σ H1 _ I1 q1
  rw [hs] at hA ⊢
  refine Calls.callWith_builtin (by show (false || (backTo cpos (starEach es X.env)).any (·.1)) = false; rw [hplain]; rfl) (Calls.evalArgs_plain (thn hA fun us s2 ⟨vs, H2, I2, r2, q2⟩ => hm pins s2 σ H2 _ vs v us Q I2 r1 r2 q2))
/-- d.setdefault(k, v) -/
def setdO (kvs : List (Val × Val)) (n : Nat) (k v : Val) (S : Store) : R Val := if keyT k = true ∧ kvs.length < big then (match dGet kvs k with
    | some z => .ok z S
    | none => .ok v (S.set n (.dic (kvs ++ [(k, v)])))) else .sk
def isDic (S : Store) : Val → Bool
  | .ref n => match S[n]? with
    | some (.dic _) => true
    | _ => false
  | _ => false
theorem isDic_of {x : Val} {u : V} (h : isDic S x = true) (sr : StR G μ H S) (r : VR G μ H x u) : ∃ n a kvs xs, x = .ref n ∧ u = .ref a ∧ μ[n]? = some a ∧ S[n]? = some (.dic kvs) ∧ H a = some (DicO a G.w xs) ∧ DicR G μ H kvs xs := by
  unfold isDic at h
  split at h
  · rename_i n
    split at h
    · rename_i kvs e
      cases r with
      | ref hm =>
        obtain ⟨xs, e1, d⟩ := sr.at_ n _ _ e hm
        exact ⟨n, _, kvs, xs, rfl, rfl, hm, e, e1, d⟩
    · cases h
  · cases h
def withD (n : Val) (S : Store) (f : Nat → List (Val × Val) → R Val) : R Val := match n with
  | .ref n => match S[n]? with
    | some (.dic kvs) => f n kvs
    | _ => .sk
  | _ => .sk
def cSetd (o k v : E Val) : E Val := fun ρ S => (o ρ S).bind fun x S1 => if isDic S1 x = true then (k ρ S1).bind fun y S2 => (v ρ S2).bind fun z S3 => withD x S3 fun n kvs => setdO kvs n y z S3 else .sk
theorem bigEq : big = sizeLine := rfl
theorem fe_setd {o k v : Expr} {mo mk mv : E Val} {apos cpos : Pos} (hK : X.K = G.K) (hw : X.w = G.w) (hr : X.A.units + 64 < cLine) (ho : PE X o (tE G N W (MF G) mo)) (hk : PE X k (tE G N W (MF G) mk)) (hv : PE X v (tE G N W (MF G) mv))
    (hbase : attributeBase o "setdefault" X.env (eval o X.env) = eval o X.env := by rfl)
    (hfew : ((backTo cpos (starEach [k, v] X.env)).all (fun x => !x.1) && (backToKw cpos (keywordEach [] X.env)).all (fun x => x.1.isSome) && decide ([k, v].length + ([] : List Keyword).length + (if ([] : List Keyword).isEmpty then 0 else 1) < 30)) = true := by rfl)
    (hline : (apos.endLine == cpos.line) = true := by rfl) (hs : starEach [k, v] X.env = (false, eval k X.env) :: starEach [v] X.env := by rfl) (hs2 : starEach [v] X.env = (false, eval v X.env) :: starEach [] X.env := by rfl) (hplain : (backTo cpos (starEach [v] X.env)).any (·.1) = false := by rfl) :
    PE X (.Call (.Attribute o "setdefault" apos) [k, v] [] cpos) (tE G N W (MF G) (cSetd mo mk mv)) := by
  refine pe_imp (pe_bmD PySem.F.slot_dict_setdefault PySem.F.type_dict_setdefault (mt_setd hK hw hr) ho (pa_cons hk (pa_cons hv pa_nil hs2) hs) hbase hfew hline hs hplain) fun σ H Q ⟨ρ, S, μ, R, oo⟩ => ⟨ρ, S, μ, R, ?_⟩
  unfold cSetd at oo
  refine (Out.bind oo).mono fun x S1 μ1 H1 st1 sr1 k1 u hu => ?_
  split at k1
  · rename_i hD
    obtain ⟨n, a, kv1, xs1, rfl, rfl, hm1, _, hH1, _⟩ := isDic_of hD sr1 hu
    refine ⟨⟨a, _, xs1, rfl, hH1⟩, ρ, S1, μ1, R.step st1 sr1, (Out.bind k1).mono fun y S2 μ2 H2 st2 sr2 k2 uy hy => ⟨ρ, S2, μ2, (R.step st1 sr1).step st2 sr2, (Out.bind k2).mono fun z S3 μ3 H3 st3 sr3 k3 uz hz => ?_⟩⟩
    show rSetd G (.ref a) [uy, uz] H3 Q
    have hm3 := pre_get st3.pre (pre_get st2.pre hm1)
    have hy3 := hy.kx (st3.kx sr2) st3.pre
    unfold withD at k3
    dsimp only at k3
    split at k3
    · rename_i kvs hS
      obtain ⟨xs, hH, d⟩ := sr3.at_ n _ _ hS hm3
      unfold setdO at k3
      split at k3
      · rename_i hc
        obtain ⟨ks, nk, rfl, hnk, hdp⟩ := keyT_of hc.1
        have hl : kvs.length = xs.length := by
          have := congrArg List.length d.keys
          simpa using this
        cases hy3 with
        | tup ht hr' =>
          refine ⟨μ3, a, kvs, xs, _, nk, _, z, uz, rfl, rfl, hH, d, hnk, hdp, .tup ht hr', hz, by rw [← hl, ← bigEq]; exact hc.2, fun z' q hg rz => ?_, fun hg xs' d' => ?_⟩
          · rw [hg] at k3
            exact Out.ok k3 sr3 q rz
          · rw [hg] at k3
            have st4 : Step μ3 H3 μ3 (upd H3 a (DicO a G.w xs')) := Step.cell hm3 (fun ob u z => by rw [hH] at z; cases z)
            have kx4 : Kx G H3 (upd H3 a (DicO a G.w xs')) := st4.kx sr3
            have sr4 := sr3.set (c := .dic (kvs ++ [(.tup ks, z)])) (o := DicO a G.w xs') hm3 (fun ob u z => by rw [hH] at z; cases z) ⟨xs', upd_same, d'.kx kx4 (List.prefix_refl _)⟩
            exact k3 μ3 _ st4 sr4 uz (hz.kx kx4 (List.prefix_refl _))
      · exact False.elim k3
    · exact False.elim k3
  · exact False.elim k1
end
end KL

set_option Elab.async false
set_option linter.all false
set_option maxRecDepth 100000
set_option maxHeartbeats 4000000
/-! KDic2: a dict that stands still is walked. -/
namespace KL
open PySem L2
open PyProof.Rows hiding St
section
variable {G : GP} {N : Fns} {W : WX} {X : Cx} {pins : List (Addr × Obj)} {σ : St} {s : Shared} {μ μ' : List Addr} {H H' : Hp} {S S' : Store} {ρ : Env}
theorem pe_ghostD {e : Expr} {t : TE} (h : PE X e t) : PE X e (fun σ H Q => t σ H fun u H1 => Q u H1 ∨ ∃ p φ, u = .ref p ∧ H1 p = some (.ext φ) ∧ ∀ od, Q u (upd H1 p (.frz od (.ext φ)))) := by
  refine ⟨fun pins s σ H Q I q => thn (h.run pins s σ H _ I q) fun v s1 ⟨u, H1, I1, r1, q1⟩ => ?_⟩
  rcases q1 with q1 | ⟨p, φ, rfl, hp, q1⟩
  · exact ⟨u, H1, I1, r1, q1⟩
  · obtain ⟨od, I2⟩ := I1.lock hp True.intro
    exact ⟨_, _, I2, r1, q1 od⟩
/-- the dict stands still from now on -/
def fzS (x : Val) (S : Store) : Store := match x with
  | .ref n => match S[n]? with
    | some (.dic kvs) => S.set n (.sdic kvs)
    | _ => S
  | _ => S
def cFz (m : E Val) : E Val := fun ρ S => (m ρ S).bind fun x S1 => .ok x (fzS x S1)
theorem fe_fz {e : Expr} {m : E Val} (h : PE X e (tE G N W (MF G) m)) : PE X e (tE G N W (MF G) (cFz m)) := by
  refine pe_imp (pe_ghostD h) fun σ H Q ⟨ρ, S, μ, R, o⟩ => ⟨ρ, S, μ, R, (Out.bind o).mono fun x S1 μ1 H1 st sr k u hu => ?_⟩
  unfold fzS at k
  split at k
  · rename_i n
    split at k
    · rename_i kvs hS
      cases hu with
      | ref hm =>
        rename_i a
        obtain ⟨xs, hH, d⟩ := sr.at_ n _ _ hS hm
        refine .inr ⟨a, _, rfl, hH, fun od => ?_⟩
        have hz : ∀ ob u, H1 a ≠ some (.frz ob u) := fun ob u z => by rw [hH] at z; cases z
        have st2 : Step μ1 H1 μ1 (upd H1 a (.frz od (DicO a G.w xs))) := Step.cell hm hz
        have k2 := st2.kx sr
        exact k μ1 _ st2 (sr.set (c := .sdic kvs) (o := .frz od (DicO a G.w xs)) hm hz ⟨xs, od, upd_same, d.kx k2 (List.prefix_refl _)⟩) _ (.ref hm)
    · exact .inl (Out.ok k sr u hu)
  · exact .inl (Out.ok k sr u hu)
/-- what stands in a dict that stands still -/
def withS {α : Type} (x : Val) (S : Store) (f : List (Val × Val) → R α) : R α := match x with
  | .ref n => match S[n]? with
    | some (.sdic kvs) => f kvs
    | _ => .sk
  | _ => .sk
theorem with_of {α : Type} {x : Val} {u : V} {f : List (Val × Val) → R α} {K : α → Store → List Addr → Hp → Prop} (h : Out G W σ μ H (withS x S f) K) (sr : StR G μ H S) (r : VR G μ H x u) :
    ∃ a kvs xs od, u = .ref a ∧ H a = some (.frz od (DicO a G.w xs)) ∧ DicR G μ H kvs xs ∧ Out G W σ μ H (f kvs) K := by
  unfold withS at h
  split at h
  · rename_i n
    split at h
    · rename_i kvs hS
      cases r with
      | ref hm =>
        obtain ⟨xs, od, e, d⟩ := sr.at_ n _ _ hS hm
        exact ⟨_, kvs, xs, od, rfl, e, d, h⟩
    · exact False.elim h
  · exact False.elim h
theorem frz_at {d : Addr} {od : Obj} {w : World} {xs : List DE} (I : Inv X pins σ H s) (h : H d = some (.frz od (DicO d w xs))) : (d == sysModules) = false ∧ s.heap.get? d = some od ∧ od.ExactDict ∧ ∃ (es : Array DictEntry) (ep : Nat), od.data = .dict es ep ∧ es.toList = xs.map (entW w) := by
  obtain ⟨hd, ⟨hs, o, es, ep, ho, ex, hdt, he⟩, _⟩ := I.hok d _ h
  rw [hd] at ho; cases ho
  exact ⟨hs, hd, ex, es, ep, hdt, he⟩
theorem ent_at {w : World} {xs : List DE} {es : Array DictEntry} (he : es.toList = xs.map (entW w)) {i : Nat} (hi : i < xs.length) : ∃ (h : i < es.size), es[i] = entW w xs[i] := by
  have hl : es.size = xs.length := by
    have := congrArg List.length he
    simpa using this
  refine ⟨by omega, ?_⟩
  have q : es.toList[i]? = (xs.map (entW w))[i]? := by rw [he]
  rw [Array.getElem?_toList, Array.getElem?_eq_getElem (by omega), List.getElem?_map, List.getElem?_eq_getElem hi] at q
  exact Option.some.inj q
theorem ent_size {w : World} {xs : List DE} {es : Array DictEntry} (he : es.toList = xs.map (entW w)) : es.size = xs.length := by
  have := congrArg List.length he
  simpa using this
/-! ### the pairs -/
def ItmD (d : Addr) (od : Obj) (w : World) (xs : List DE) (us : List V) : It :=
  ⟨fun i H => H d = some (.frz od (DicO d w xs)) ∧ i < xs.length, fun i H x H' => ∃ T e v, xs[i]? = some e ∧ us[i]? = some v ∧ x = .ref T ∧ H T = none ∧ H' = upd H T (.tup [.ref e.2.1, v]), fun i H => H d = some (.frz od (DicO d w xs)) ∧ xs.length ≤ i⟩
theorem dict_same {o : Obj} {es es' : Array DictEntry} {ep ep' : Nat} (h : o.data = .dict es ep) (h' : o.data = .dict es' ep') : es' = es ∧ ep' = ep := by
  rw [h] at h'
  cases h'
  exact ⟨rfl, rfl⟩
theorem turn_itm {P : Program} {w wd : World} {K : PySem.W.Frag} {d : Addr} {od : Obj} {es : Array DictEntry} {ep : Nat} {xs : List DE} {us : List V} {elts : List Expr} {kk : Nat} {tpos : Pos} (it : Addr) (hod : od.data = .dict es ep) (hv : Vals us (xs.map (·.2.2))) :
    Turn P w K (.Tuple elts kk tpos) (ItmD d od wd xs us) [it] it (fun i h => ∃ ok ov, IsItemIter h it d i es.size ep ok ov) where
  mem := by simp
  obj := fun i h st b hb => by
    have e : b = it := by simpa using hb
    subst e
    obtain ⟨ok, ov, e⟩ := st
    exact ⟨_, e, fun v z => nomatch z⟩
  keep := fun i h h' st k => let ⟨ok, ov, e⟩ := st; ⟨ok, ov, k it (by simp) _ e⟩
  item := by
    intro X hP hw hK hc i pins s σ H E I hf st hg
    subst hP hw hK
    obtain ⟨hd, hi⟩ := hg
    obtain ⟨hs, hgd, hx, es', ep', hdt, he'⟩ := frz_at I hd
    obtain ⟨rfl, rfl⟩ := dict_same hod hdt
    obtain ⟨hi', hen⟩ := ent_at he' hi
    obtain ⟨ok, ov, he⟩ := st
    have hlt : it < s.heap.objs.size := Heap.lt_size he
    have hul : us.length = xs.length := by rw [hv.length, List.length_map]
    obtain ⟨u, hu, ru⟩ := hv.get (List.getElem?_eq_getElem (show i < us.length by omega))
    rw [List.getElem?_map, List.getElem?_eq_getElem hi] at hu
    cases hu
    refine wpAny_pyNext_items_item_raw he ⟨od, hgd, hx, hdt⟩ hi' fun h' ho hT hz hk => ?_
    refine ⟨_, rfl, wpAny_letOwnedTupleGo_items (s := { s with heap := h' }) ho fun h'' he' sb => ?_⟩
    have hT2 : h''.get? s.heap.objs.size = some { cls := .type "tuple", data := .seq #[es'[i].key, es'[i].val] } := (sb.2 _ (Nat.ne_of_gt hlt)).trans hT
    rw [hen] at hT2
    have new : ObjOk X.prog X.w (upd H s.heap.objs.size (.tup [.ref xs[i].2.1, us[i]])) h'' s.heap.objs.size (.tup [.ref xs[i].2.1, us[i]]) :=
      ⟨by show 2 ≤ sizeLine; decide, [_, _], .cons rfl (.cons ru .nil), ⟨_, hT2, rfl, _, rfl⟩⟩
    have I1 : Inv X pins σ (upd H s.heap.objs.size (.tup [.ref xs[i].2.1, us[i]])) { s with heap := h'' } :=
      I.turnedNew (t' := s.toks) (ch := [it]) (fun b ob hb e => (sb.2 b (by simpa using hb)).trans (hk b ob (by simpa using hb) e)) hf (Nat.le_refl _) new
    refine ⟨.ref s.heap.objs.size, _, I1, rfl, ⟨_, xs[i], us[i], List.getElem?_eq_getElem hi, List.getElem?_eq_getElem (by omega), rfl, I.hok.fresh (Nat.le_refl _), rfl⟩, ⟨_, _, he'⟩, fun b hb => ?_⟩
    have e : b = it := by simpa using hb
    rw [e, upd_ne (Nat.ne_of_lt hlt)]
    exact (hf it (by simp)).1
  done := by
    intro X hP hw hK hc i pins s σ H E I hf st hg
    subst hP hw hK
    obtain ⟨hd, hi⟩ := hg
    obtain ⟨f0, f1, f2, f3, f4, f5⟩ := hf it (by simp)
    obtain ⟨hs, hgd, hx, es', ep', hdt, he'⟩ := frz_at I hd
    obtain ⟨rfl, rfl⟩ := dict_same hod hdt
    obtain ⟨ok, ov, he⟩ := st
    exact wpAny_pyNext_items_end_raw (I.ok.hd hc) he ⟨od, hgd, hx, hdt⟩ (by rw [ent_size he']; exact hi) fun h' eb => ⟨rfl, I.turned (t' := s.toks) (fun b ob hb e => eb b ob hb e) f0 f1 f3 f4 f5⟩
  self := fun A i s Q E st h => let ⟨_, _, e⟩ := st; PySem.W.kcp_self e h
def iItmT (td : TE) : TI := fun σ H R => td σ H fun x H1 => ∃ d od w xs us, x = .ref d ∧ H1 d = some (.frz od (DicO d w xs)) ∧ Vals us (xs.map (·.2.2)) ∧ R (ItmD d od w xs us) H1
theorem pi_itm {e : Expr} {td : TE} {apos cpos : Pos} {elts : List Expr} {kk : Nat} {tpos : Pos} (he : PE X e td) (hbase : attributeBase e "items" X.env (eval e X.env) = eval e X.env := by rfl) (hline : (apos.endLine == cpos.line) = true := by rfl) :
    PI X (.Tuple elts kk tpos) (.Call (.Attribute e "items" apos) [] [] cpos) (iItmT td) := by
  refine ⟨fun pins s σ H R I h => ?_⟩
  refine wpAny_Call_method (T := "dict") (id := "dict.items") hbase rfl hline F.plainAttrs_dict F.slot_dict_items F.type_dict_items (thn (he.run pins s σ H _ I h) fun u s1 ⟨x, H1, I1, rx, d, od, wd, xs, us, ex, hd, hv, q⟩ => ?_)
  subst ex
  obtain rfl : u = Value.ref d := rx
  obtain ⟨hs, hgd, hx, es, ep, hdt, he'⟩ := frz_at I1 hd
  have raw : s1.heap.DictRaw d es ep := ⟨od, hgd, hx, hdt⟩
  refine ⟨raw.typeIs, fun b q => by cases q; exact ⟨od, hgd, hx.2.1⟩, ?_⟩
  have I2 : Inv X pins σ H1 { s1 with heap := s1.heap.push { cls := .type "dict_items", data := .fields #[.ref d] } } := I1.kept (t' := s1.toks) fun b ob q => Heap.get?_push_of_some _ q
  have fin : wpAny (model X.prog X.w) X.A (pyIter (.ref s1.heap.objs.size)) (PIE X pins σ (.Tuple elts kk tpos) R) X.xe { s1 with heap := s1.heap.push { cls := .type "dict_items", data := .fields #[.ref d] } } := by
    refine wpAny_pyIter_items_raw (d := d) ⟨_, Heap.get?_push_size _ rfl, rfl, rfl⟩ (raw.at fun o e => Heap.get?_push_of_some _ e) (pi_one (tk := s1.toks) I2 _ (turn_itm _ hdt hv) ⟨.none, .none, ?_⟩ q)
    exact Heap.get?_push_size _ rfl
  show wpAny _ _ (callWith cpos (.builtin "dict.items") [.ref d] [] []) _ X.xe s1
  exact method_meetsIn F.slot_dict_items F.entry_dict_items rfl (PySem.evalArgs_none ⟨rfl, raw.typeIs, F.args_dict_items_1 _, _, meets_dict_items_raw d hs, ⟨⟨es, ep, raw⟩, fin⟩⟩)
theorem at_itm {a : Addr} {od : Obj} {kvs : List (Val × Val)} {xs : List DE} {us : List V} (h : H a = some (.frz od (DicO a G.w xs))) (d : DicR G μ H kvs xs) (r : VRs G μ H (kvs.map (·.2)) us) : ItAt G μ H (kvs.map fun p => Val.tup [p.1, p.2]) (ItmD a od G.w xs us) := by
  have hl : kvs.length = xs.length := by
    have := congrArg List.length d.keys
    simpa using this
  refine ⟨fun i x hx => ?_, h, by rw [List.length_map, hl]; exact Nat.le_refl _⟩
  rw [List.getElem?_map] at hx
  cases hp : kvs[i]? with
  | none => rw [hp] at hx; cases hx
  | some p =>
    rw [hp] at hx; cases hx
    have hi : i < kvs.length := (List.getElem?_eq_some_iff.mp hp).1
    refine ⟨⟨h, by omega⟩, fun u H3 ⟨T, e, v, h1, h2, h3, h4, h5⟩ => ?_⟩
    subst h3 h5
    have ex := ext_upd (o := .tup [.ref e.2.1, v]) h4
    obtain ⟨w1, e1, r1⟩ := d.kvr.get (show (kvs.map (·.1))[i]? = some p.1 by rw [List.getElem?_map, hp]; rfl)
    rw [List.getElem?_map, h1] at e1
    cases e1
    obtain ⟨w2, e2, r2⟩ := r.get (show (kvs.map (·.2))[i]? = some p.2 by rw [List.getElem?_map, hp]; rfl)
    rw [h2] at e2
    cases e2
    have kx : Kx G H (upd H T (.tup [.ref e.2.1, v])) := fun a o h _ => ex a o h
    exact ⟨ex, .tup (us := [.ref e.2.1, v]) (.inl (.inl upd_same)) (.cons (r1.kx kx (List.prefix_refl _)) (.cons (r2.kx kx (List.prefix_refl _)) .nil))⟩
/-- d.items() -/
def iItm (o : E Val) : E (List Val) := fun ρ S => (cFz o ρ S).bind fun x S1 => withS x S1 fun kvs => .ok (kvs.map fun p => .tup [p.1, p.2]) S1
theorem fi_itm {e : Expr} {me : E Val} {apos cpos : Pos} {elts : List Expr} {kk : Nat} {tpos : Pos} (he : PE X e (tE G N W (MF G) me)) (hbase : attributeBase e "items" X.env (eval e X.env) = eval e X.env := by rfl) (hline : (apos.endLine == cpos.line) = true := by rfl) :
    PI X (.Tuple elts kk tpos) (.Call (.Attribute e "items" apos) [] [] cpos) (tI G N W (ItF G) (iItm me)) :=
  pi_imp (pi_itm (fe_fz he) hbase hline) fun σ H R ⟨ρ, S, μ, Rl, o⟩ => ⟨ρ, S, μ, Rl, (Out.bind o).mono fun x S1 μ1 H1 st sr k u hu => by
    obtain ⟨a, kvs, xs, od, rfl, hH, d, k⟩ := with_of k sr hu
    obtain ⟨us, v1, v2⟩ := d.vals
    exact ⟨a, od, G.w, xs, us, rfl, hH, v2, Out.ok k sr _ fun μ2 H2 kp => at_itm (kp.kx _ _ hH rfl) (d.kx kp.kx kp.pre) (v1.kp kp)⟩⟩
end
end KL

set_option Elab.async false
set_option linter.all false
set_option maxRecDepth 100000
set_option maxHeartbeats 4000000
/-! KDic3: displays of one pair, comprehensions that make a dict. -/
namespace KL
open PySem L2
open PyProof.Rows hiding St
section
variable {G : GP} {N : Fns} {W : WX} {X : Cx} {pins : List (Addr × Obj)} {σ : St} {s : Shared} {μ μ' : List Addr} {H H' : Hp} {S S' : Store} {ρ : Env}
theorem d_setH {D : Addr} {kvs : List (Val × Val)} {xs : List DE} {k y : Val} {nk : NestedKey} {kb : Addr} {z : V} {r : Value} {Q : Unit → Shared → Prop} {E : Value → Shared → Prop} (hK : X.K = G.K) (hu : X.A.units + 8 < cLine) (I : Inv X pins σ H s) (hD : H D = some (DicO D X.w xs)) (d : DicR G μ H kvs xs)
    (hk : vKey k = some nk) (hd : nk.depth ≤ 8) (rk : VR G μ H k (.ref kb)) (ry : VR G μ H y z) (rv : RelV z r) (hn : dGet kvs k = none) (hl : xs.length < sizeLine)
    (h : ∀ s' xs', Inv X pins σ (upd H D (DicO D X.w xs')) s' → DicR G μ H (kvs ++ [(k, y)]) xs' → Q () s') : wpAny (model X.prog X.w) X.A (dictSet D (.ref kb) r) Q E s := by
  have hm := dic_of hK I hD d
  have hd0 := (dic_at I hD).1
  obtain ⟨us, a1, a2⟩ := d.vals
  have hnone : atKey xs nk = none := by
    rcases dGet_at hk d.keys a1 a2 with ⟨_, e⟩ | ⟨_, _, _, e, _⟩
    · exact e
    · rw [hn] at e; cases e
  refine wpAny_dictSet_heap (knd := nestedKind X.prog X.w) (k := nk) (hsz := Nat.le_of_lt hl) (show X.A.units + 8 < cLine from hu) ⟨nest_is hK I rk rfl hk, hd⟩ hm fun h' hm' hs => ?_
  rw [storedH_new hnone] at hm'
  obtain ⟨o, es, ep, ho, ex, hdt, he, _, _⟩ := hm'
  exact h _ _ (d_write I (by rw [hD]; exact True.intro) hs ⟨o, ho⟩ (dicO_ok hd0 ho ex hdt he)) (d.snoc hk hd rk ry rv hnone hl)
theorem dicO_new (I : Inv X pins σ H s) {Hx : Hp} : ObjOk X.prog X.w Hx (s.heap.push { cls := .type "dict", data := .dict #[] }) s.heap.objs.size (DicO s.heap.objs.size X.w []) :=
  dicO_ok (beq_eq_false_iff_ne.mpr (Ne.symm (Nat.ne_of_lt I.big))) (Heap.get?_push_size _ rfl) ⟨rfl, rfl, rfl⟩ rfl rfl
theorem DicR.nil : DicR G μ H [] [] := ⟨rfl, .nil, ⟨[], .nil, .nil⟩, .nil, fun x h => absurd h List.not_mem_nil, Nat.zero_le _⟩
/-- an entry goes into the dict that is being made -/
def PutD (G : GP) (w : World) (D : Addr) (y z : V) (H : Hp) (Nx : Hp → Prop) : Prop := ∃ μ kvs xs k nk kb v, y = .ref kb ∧ H D = some (DicO D w xs) ∧ DicR G μ H kvs xs ∧ vKey k = some nk ∧ nk.depth ≤ 8 ∧ VR G μ H k (.ref kb) ∧ VR G μ H v z ∧ dGet kvs k = none ∧ xs.length < sizeLine ∧
  ∀ xs', DicR G μ H (kvs ++ [(k, v)]) xs' → Nx (upd H D (DicO D w xs'))
theorem put_run {D : Addr} {y z : V} {u r : Value} {Nx : Hp → Prop} {Q : Unit → Shared → Prop} {E : Value → Shared → Prop} (hK : X.K = G.K) (hu : X.A.units + 8 < cLine) (I : Inv X pins σ H s) (p : PutD G X.w D y z H Nx) (ry : RelV y u) (rz : RelV z r)
    (h : ∀ s' H', Inv X pins σ H' s' → Nx H' → Q () s') : wpAny (model X.prog X.w) X.A (dictSet D u r) Q E s := by
  obtain ⟨μ, kvs, xs, k, nk, kb, v, rfl, hD, d, hk, hd, rk, rv, hn, hl, nx⟩ := p
  cases ry
  exact d_setH hK hu I hD d hk hd rk rv rz hn hl fun s' xs' I' d' => h s' _ I' (nx xs' d')

/-! ### {k: v} -/
def cDisp1 (mk mv : E Val) : E Val := fun ρ S => (mk ρ S).ne.bind fun x S1 => (mv ρ S1).ne.bind fun y S2 => if keyT x = true then .ok (.ref S2.length) (S2 ++ [.dic [(x, y)]]) else .sk
theorem pe_disp1 {k v : Expr} {tk tv : TE} {pos : Pos} (hK : X.K = G.K) (hu : X.A.units + 8 < cLine) (hk : PE X k tk) (hv : PE X v tv) :
    PE X (.Dict [some k] [v] pos) (fun σ H Q => ∀ D, H D = none → tk σ (upd H D (DicO D X.w [])) fun y H1 => tv σ H1 fun z H2 => PutD G X.w D y z H2 (Q (.ref D))) := by
  refine ⟨fun pins s σ H Q I h => ?_⟩
  have hn := I.hok.fresh (Nat.le_refl s.heap.objs.size)
  have I1 := I.laid (a := s.heap.objs.size) (o := DicO s.heap.objs.size X.w []) (h' := s.heap.push { cls := .type "dict", data := .dict #[] }) (t' := s.toks) (fun _ _ q => Heap.get?_push_of_some _ q) (Nat.le_refl _) (dicO_new I)
  rw [arm_eval_Dict, zip_pairTrees [some k] [v] X.env pos rfl rfl, dictDisplay_pairs (pairTrees [some k] [v] X.env pos) (by simp [pairTrees]) (by simp [pairTrees])]
  refine wpAny_bind (wpAny_standAt (wpAny_bind ?_))
  unfold subDict
  refine wpAny_bind (wpAny_alloc ?_)
  refine wpAny_bind (wpAny_holding ?_)
  rw [if_pos (by simp [pairTrees])]
  refine wpAny_bind (pairTrees_cons_walk (thn (hk.run pins _ σ _ _ I1 (h _ hn)) fun u s1 ⟨y, H1, I2, r1, q1⟩ => thn (hv.run pins s1 σ H1 _ I2 q1) fun u2 s2 ⟨z, H2, I3, r2, p⟩ => pairTrees_nil_walk ?_))
  refine wpAny_holding ?_
  refine wpAny_bind ?_
  rw [List.forIn_cons]
  refine wpAny_bind (wpAny_bind (put_run hK hu I3 p r1 r2 fun s3 H3 I4 nx => wpAny_pure ?_))
  dsimp only
  rw [List.forIn_nil]
  exact wpAny_pure (wpAny_pure (wpAny_pure (wpAny_pure ⟨.ref s.heap.objs.size, H3, I4, rfl, nx⟩)))
theorem fe_disp1 {k v : Expr} {mk mv : E Val} {pos : Pos} (hK : X.K = G.K) (hw : X.w = G.w) (hu : X.A.units + 64 < cLine) (hk : PE X k (tE G N W0 (MF G) mk)) (hv : PE X v (tE G N W0 (MF G) mv)) : PE X (.Dict [some k] [v] pos) (tE G N W (MF G) (cDisp1 mk mv)) := by
  refine pe_imp (pe_disp1 (G := G) hK (by omega) hk hv) fun σ H Q ⟨ρ, S, μ, R, o⟩ D hn => ?_
  have st0 : Step μ H μ (upd H D (DicO D X.w [])) := Step.made hn
  have np : D ∉ μ := fun z => R.st.there D z hn
  have sr0 := R.st.ext (ext_upd (o := DicO D X.w []) hn)
  unfold cDisp1 at o
  refine ⟨ρ, S, μ, R.step st0 sr0, (Out.ne (W' := W0) o).mono fun x S1 μ1 H1 st1 sr1 k1 y hx => ⟨ρ, S1, μ1, (R.step st0 sr0).step st1 sr1, (Out.ne (W' := W0) k1).mono fun v S2 μ2 H2 st2 sr2 k2 z hv => ?_⟩⟩
  have np1 : D ∉ μ1 := fun z => (st1.new D z).elim np fun q => by rw [upd_same] at q; cases q
  have h1 : H1 D = some (DicO D X.w []) := st1.keep D _ upd_same np rfl
  have np2 : D ∉ μ2 := fun z => (st2.new D z).elim np1 fun q => by rw [h1] at q; cases q
  have h2 : H2 D = some (DicO D X.w []) := st2.keep D _ h1 np1 rfl
  split at k2
  · rename_i hc
    obtain ⟨ks, nk, rfl, hnk, hdp⟩ := keyT_of hc
    have hx2 := hx.kx (st2.kx sr1) st2.pre
    cases hx2 with
    | tup ht hr =>
      refine ⟨μ2, [], [], _, nk, _, v, rfl, h2, DicR.nil, hnk, hdp, .tup ht hr, hv, rfl, by decide, fun xs' d' => ?_⟩
      have nf : ∀ u, H2 D = some u → fixdT G u = false := fun u q => by rw [h2] at q; cases q; rfl
      have st : Step μ H μ2 (upd H2 D (DicO D X.w xs')) := ((st0.trans st1).trans st2).upd hn
      have sr := sr2.upd np2 (o := DicO D X.w xs') nf
      have pr : μ2 <+: μ2 ++ [D] := List.prefix_append _ _
      have kx : Kx G H2 (upd H2 D (DicO D X.w xs')) := kx_upd nf
      refine k2 _ _ (st.new1 hn) (sr.snoc (cl := .dic [(.tup ks, v)]) np2 ⟨xs', by rw [← hw]; exact upd_same, d'.kx kx pr⟩) _ (.ref ?_)
      rw [← sr2.len, List.getElem?_append_right (Nat.le_refl _)]; simp
  · exact False.elim k2

/-! ### {k: v for ..} -/
def tDcD (G : GP) (w : World) (wi : TI) (g : TG) (tt : TT) (tk tv : TE) (vs : List Nat) : TE := fun σ H Q => wi σ H fun J H1 => ∀ D, H1 D = none → ∃ V : Nat → Nat → Hp → Prop, (∃ m, V 0 m (upd H1 D (DicO D w []))) ∧ ∀ i m H, V i m H →
  (J.stop i H ∧ Q (.ref D) H) ∨ (J.go i H ∧ ∃ Nx : Hp → Prop, (∀ H', Nx H' → ∃ m', m' < m ∧ V (i + 1) m' H') ∧ ∀ x H', J.yld i H x H' → g x (wipe σ vs) H' fun σ2 H2 => wipe σ2 vs = wipe σ vs ∧ tt σ2 H2 fun b H3 =>
    if b = true then tk σ2 H3 fun y H4 => tv σ2 H4 fun z H5 => PutD G w D y z H5 Nx else Nx H3)
theorem pe_dcD {kx vx tg iter : Expr} {ifs : List Expr} {scope : Scope} {own : List (Str × Nat)} {pos : Pos} {wi : TI} {g : TG} {tt : TT} {tk tv : TE} (hK : X.K = G.K) (hu : X.A.units + 8 < cLine) (hc : X.calm = true) (hN : X.N.Nodup) (hi : PI X tg iter wi) (ok : BlkOk X.N X.env.scope scope own)
    (hg : ∀ (s : Shared) (H : Hp) (C : Addr) (cl : List (Str × Addr)) (fp : List Addr), PG (X.blk s H scope (compEnvC scope cl C X.env) fp) tg g) (ht : ∀ (s : Shared) (H : Hp) (C : Addr) (cl : List (Str × Addr)) (fp : List Addr), PTs (X.blk s H scope (compEnvC scope cl C X.env) fp) ifs tt)
    (hk : ∀ (s : Shared) (H : Hp) (C : Addr) (cl : List (Str × Addr)) (fp : List Addr), PE (X.blk s H scope (compEnvC scope cl C X.env) fp) kx tk)
    (he : ∀ (s : Shared) (H : Hp) (C : Addr) (cl : List (Str × Addr)) (fp : List Addr), PE (X.blk s H scope (compEnvC scope cl C X.env) fp) vx tv) (hs : ∀ x, foldedSetIterable iter X.env x = pure x := by intro _; rfl) :
    PE X (.DictComp kx vx [⟨tg, iter, ifs, 0⟩] scope pos) (tDcD G X.w wi g tt tk tv (own.map (·.2))) := by
  refine ⟨fun pins s σ H Q I h => ?_⟩
  rw [arm_eval_DictComp]
  have cells : ∀ y ∈ scope.names, y.2 = .free → ∃ c, X.env.cells.lookup y.1 = some c := fun y hy e => (ok.free y hy e).elim (fun k => I.ok.has _ (.inl k)) fun k => I.ok.has _ (.inr k)
  refine wpAny_comprehension_free rfl hs (closure_ok cells) ok.kind (fun y hy e => by rw [ok.uniq y hy, e]) (thn (hi.run pins s σ H _ I h) fun xv s1 hx => thn hx fun itv s2 ⟨it, fp, tn, J, H2, e, I2, T, st2, f2, q⟩ => ?_)
  subst e
  refine wpAny_newObj_type (newEnv_comp ?_)
  obtain ⟨V, ⟨m0, v0⟩, turn⟩ := q s2.heap.objs.size (I2.hok.fresh (Nat.le_refl _))
  have I3 := I2.laid (a := s2.heap.objs.size) (o := DicO s2.heap.objs.size X.w []) (h' := s2.heap.push { cls := .type "dict", data := .dict #[] }) (t' := s2.toks) (fun _ _ q => Heap.get?_push_of_some _ q) (Nat.le_refl _) (dicO_new I2)
  have sz : ∀ b ∈ fp, b < s2.heap.objs.size := fun b hb => let ⟨o, e, _⟩ := T.obj _ _ st2 b hb; Heap.lt_size e
  have f3 : ∀ b ∈ fp, FpOk X pins (upd H2 s2.heap.objs.size (DicO s2.heap.objs.size X.w [])) b := fun b hb => ⟨by rw [upd_ne (Nat.ne_of_lt (sz b hb))]; exact (f2 b hb).1, (f2 b hb).2⟩
  have hz : ∀ b ∈ fp, b < (s2.heap.push { cls := .type "dict", data := .dict #[] }).objs.size := fun b hb => by rw [Heap.size_push]; exact Nat.lt_succ_of_lt (sz b hb)
  have st3 : tn 0 (s2.heap.push { cls := .type "dict", data := .dict #[] }) := T.keep _ _ _ st2 fun b _ o e => Heap.get?_push_of_some _ e
  clear f2 st2
  generalize s2.heap.objs.size = D at *
  generalize upd H2 D (DicO D X.w []) = H3 at *
  have I3' : Inv X pins σ H3 ({ s2 with heap := s2.heap.push { cls := .type "dict", data := .dict #[] } } : Shared) := I3
  generalize hs3 : ({ s2 with heap := s2.heap.push { cls := .type "dict", data := .dict #[] } } : Shared) = s3 at I3'
  have e3 : s3.heap = s2.heap.push { cls := .type "dict", data := .dict #[] } := by rw [← hs3]
  rw [← e3] at st3 hz
  have I4 := block_start I3' ok hN fun b hb => ⟨f3 b hb, hz b hb⟩
  have pg := hg s3 H3 s3.heap.objs.size (cellsFrom (s3.heap.objs.size + 1) scope.names (cloFrom X.env.cells scope.names [])) fp
  have pt := ht s3 H3 s3.heap.objs.size (cellsFrom (s3.heap.objs.size + 1) scope.names (cloFrom X.env.cells scope.names [])) fp
  have pk := hk s3 H3 s3.heap.objs.size (cellsFrom (s3.heap.objs.size + 1) scope.names (cloFrom X.env.cells scope.names [])) fp
  have pv := he s3 H3 s3.heap.objs.size (cellsFrom (s3.heap.objs.size + 1) scope.names (cloFrom X.env.cells scope.names [])) fp
  have hC : (compEnvC scope (cellsFrom (s3.heap.objs.size + 1) scope.names (cloFrom X.env.cells scope.names [])) s3.heap.objs.size X.env).locals = s3.heap.objs.size := rfl
  have goalForm : codeAny (model X.prog X.w) X.A (.compStart (.DictComp kx vx [⟨tg, iter, ifs, 0⟩] scope pos) 0 (.ref it) (.ref D) (compEnvC scope (cellsFrom (s3.heap.objs.size + 1) scope.names (cloFrom X.env.cells scope.names [])) s3.heap.objs.size X.env))
      (compPost (model X.prog X.w) X.A X.xe none (EP X pins σ Q) (.ref D) s3.heap.objs.size) { s3 with heap := pushCells (s3.heap.push { cls := .type "dict", data := .dict #[] }) scope.names } := by
    generalize compEnvC scope (cellsFrom (s3.heap.objs.size + 1) scope.names (cloFrom X.env.cells scope.names [])) s3.heap.objs.size X.env = ce at I4 pg pt pk pv hC ⊢
    have st4 : tn 0 (pushCells (s3.heap.push { cls := .type "dict", data := .dict #[] }) scope.names) := T.keep _ _ _ st3 fun b _ o e => pushCells_keeps _ _ _ _ (Heap.get?_push_of_some _ e)
    have own4 : ∀ {σ' : St} {H' : Hp} {s' : Shared}, Inv (X.blk s3 H3 scope ce fp) [] σ' H' s' → (∀ b ∈ fp, H' b = none) → ∀ b ∈ fp, FpOk (X.blk s3 H3 scope ce fp) [] H' b := fun {σ' H' s'} I' hn b hb =>
      ⟨hn b hb, (I'.ok.exf b hb).1, I'.ok.exfs b hb, .inl hb, fun x c e => (I'.ok.exf b hb).2 x c e, fun p hp => absurd (show p ∈ ([] : List (Addr × Obj)) ++ [] from hp) (by simp)⟩
    have walk : codeAny (model X.prog X.w) X.A (.compLoop (.DictComp kx vx [⟨tg, iter, ifs, 0⟩] scope pos) 0 (.ref it) (.ref D) ce) (compPost (model X.prog X.w) X.A X.xe none (EP X pins σ Q) (.ref D) s3.heap.objs.size) { s3 with heap := pushCells (s3.heap.push { cls := .type "dict", data := .dict #[] }) scope.names } := by
      refine compLoop_anyD (fun n s' => ∃ i H', Inv (X.blk s3 H3 scope ce fp) [] (wipe σ (own.map (·.2))) H' s' ∧ tn i s'.heap ∧ (∀ b ∈ fp, H' b = none) ∧ V i n H') ?_ m0 ⟨0, H3, I4, st4, fun b hb => (f3 b hb).1, v0⟩
      rintro n s5 ⟨i, H5, I5, st5, n5, v5⟩
      rcases turn i n H5 v5 with ⟨over, qq⟩ | ⟨go, Nx, less, step⟩
      · refine thnF (T.done (X.blk s3 H3 scope ce fp) rfl rfl rfl hc i [] s5 _ H5 (fun _ _ => False) I5 (own4 I5 n5) st5 over) fun r s6 ⟨hr, I6⟩ => ?_
        subst hr
        have I7 : Inv X pins σ H5 s6 := I3'.call' (ch := fp) I6.os I6.base I6.hok I6.bare fun b hb => ⟨(f3 b hb).2.2.2.1, (f3 b hb).2.1, (f3 b hb).2.2.2.2.1, (f3 b hb).2.2.2.2.2⟩
        have nC : H5 s3.heap.objs.size = none := by
          have z : H5 ce.locals = none := I6.free
          rw [hC] at z; exact z
        obtain ⟨m, hn, _⟩ := I6.loc
        have hn : s6.heap.Ns ce.locals m := hn
        rw [hC] at hn
        obtain ⟨g0, g1, g2, g3, g4, g5⟩ := I3'.fpOk (Nat.le_refl _) nC
        exact ⟨m, hn, fun h'' sb => ⟨.ref D, H5, I7.turned (t' := s6.toks) (fun b o hb e => (sb.2 b hb).trans e) g0 g1 g3 g4 g5, rfl, qq⟩⟩
      · refine thnF (T.item (X.blk s3 H3 scope ce fp) rfl rfl rfl hc i [] s5 _ H5 (fun _ _ => False) I5 (own4 I5 n5) st5 go) fun r s6 ⟨u, hr, h6⟩ => ?_
        subst hr
        refine thnF h6 fun _ s7 ⟨x, H7, I7, r7, y7, st7, n7⟩ => ?_
        refine thnF (pg.run _ s7 _ H7 x u _ (I7.pinned (own4 I7 n7) (T.obj _ _ st7)) r7 (step x H7 y7)) fun _ s8 ⟨σ8, H8, I8, hw8, q8⟩ => ?_
        refine thnF (pt.run _ s8 σ8 H8 _ I8 q8) fun b s9 ⟨H9, I9, q9⟩ => ?_
        have next : ∀ {s' : Shared} {H' : Hp}, Inv (X.blk s3 H3 scope ce fp) ([] ++ pinsAt fp s7.heap) σ8 H' s' → Nx H' → ∃ m, m < n ∧ ∃ i H', Inv (X.blk s3 H3 scope ce fp) [] (wipe σ (own.map (·.2))) H' s' ∧ tn i s'.heap ∧ (∀ b ∈ fp, H' b = none) ∧ V i m H' := fun {s' H'} I' nx => by
          obtain ⟨m', hm, v'⟩ := less H' nx
          have still : ∀ b ∈ fp, ∀ o, s7.heap.get? b = some o → s'.heap.get? b = some o ∧ H' b = none := fun b hb o e =>
            let z := I'.pin (b, o) (List.mem_append_right _ (List.mem_append_right _ (mem_pinsAt hb e)))
            ⟨z.1, z.2.1⟩
          refine ⟨m', hm, i + 1, H', (I'.unpinned (pins := [])).weak (by rw [← hw8, wipe_length]) (fun j v e => ?_), T.keep _ _ _ st7 fun b hb o e => (still b hb o e).1, fun b hb => ?_, v'⟩
          · rw [← hw8] at e
            exact (wipe_some e).1
          · obtain ⟨o, e, _⟩ := T.obj _ _ st7 b hb
            exact (still b hb o e).2
        cases b with
        | false =>
          simp only [Bool.false_eq_true, if_false] at q9 ⊢
          exact next I9 q9
        | true =>
          simp only [if_true] at q9 ⊢
          refine thnF (pk.run _ s9 σ8 H9 _ I9 q9) fun z s10 ⟨yk, H10, I10, r10, q10⟩ => ?_
          refine thnF (pv.run _ s10 σ8 H10 _ I10 q10) fun z2 s11 ⟨yv, H11, I11, r11, p⟩ => ?_
          exact put_run (X := X.blk s3 H3 scope ce fp) hK hu I11 p r10 r11 fun s12 H12 I12 nx => next I12 nx
    exact codeAny_compStart_dict walk (T.self X.A 0 _ _ _ st4 walk)
  subst hs3
  exact goalForm

def dcG (tg : Tg) (t : T) (k v : E Val) (ρ : Env) : List Val → Store → List (Val × Val) → R (List (Val × Val))
  | [], S, acc => .ok acc S
  | x :: xs, S, acc => match tg x ρ with
    | none => .sk
    | some ρ1 => (t ρ1 S).ne.bind fun b S1 => if b then (k ρ1 S1).ne.bind fun y S2 => (v ρ1 S2).ne.bind fun z S3 => if keyT y = true ∧ acc.length < big ∧ (dGet acc y).isNone = true then dcG tg t k v ρ xs S3 (acc ++ [(y, z)]) else .sk else dcG tg t k v ρ xs S1 acc
/-- {k: v for tg in it if t} -/
def cDC (it : E (List Val)) (tg : Tg) (t : T) (k v : E Val) (vs : List Nat) : E Val := fun ρ S => (it ρ S).bind fun xs S1 => (dcG tg t k v (wip ρ vs) xs S1 []).bind fun kvs S2 => .ok (.ref S2.length) (S2 ++ [.dic kvs])
theorem dc_walk {mi : E (List Val)} {g : Tg} {t : T} {mk mv : E Val} {vs : List Nat} {Q : VK} (hw : X.w = G.w) (h : tE G N W (MF G) (cDC mi g t mk mv vs) σ H Q) : tDcD G X.w (tI G N W (ItB G) mi) (tGE G vs g) (tT G N W0 t) (tE G N W0 (MF G) mk) (tE G N W0 (MF G) mv) vs σ H Q := by
  rw [hw]
  obtain ⟨ρ, S, μ, R, o⟩ := h
  refine ⟨ρ, S, μ, R, (Out.bind o).mono fun xs S1 μ1 H1 st1 sr1 k1 J hJ D hD => ?_⟩
  have R1 := (R.step st1 sr1).wipe vs
  have hD0 : H D = none := st1.fresh sr1 hD
  have npD : D ∉ μ1 := np_of sr1.there hD
  refine ⟨fun i m H2 => m = xs.length - i ∧ i ≤ xs.length ∧ ∃ (S2 : Store) (μ2 : List Addr) (acc : List (Val × Val)) (es : List DE), StR G μ2 H2 S2 ∧ Step μ1 H1 μ2 H2 ∧ H2 D = some (DicO D G.w es) ∧ DicR G μ2 H2 acc es ∧ D ∉ μ2 ∧
    Out G W σ μ1 H1 ((dcG g t mk mv (wip ρ vs) (xs.drop i) S2 acc).bind fun kvs S2 => KL.R.ok (Val.ref S2.length) (S2 ++ [Cell.dic kvs])) (fun v _ μ' H' => ∀ u, MF G μ' H H' v u → Q u H'),
    ⟨xs.length, rfl, Nat.zero_le _, S1, μ1, [], [], sr1.ext (ext_upd hD), Step.made hD, upd_same, .nil, npD, k1⟩, ?_⟩
  rintro i m H2 ⟨rfl, hi, S2, μ2, acc, es, sr2, st2, hl, d, np, o2⟩
  have it := hJ μ2 H2 st2 (st2.kp sr1)
  by_cases hlt : i < xs.length
  · refine .inr ⟨(it.1 i xs[i] (List.getElem?_eq_getElem hlt)).1, fun H3 => ∃ (S2 : Store) (μ2 : List Addr) (acc : List (Val × Val)) (es : List DE), StR G μ2 H3 S2 ∧ Step μ1 H1 μ2 H3 ∧ H3 D = some (DicO D G.w es) ∧ DicR G μ2 H3 acc es ∧ D ∉ μ2 ∧
      Out G W σ μ1 H1 ((dcG g t mk mv (wip ρ vs) (xs.drop (i + 1)) S2 acc).bind fun kvs S2 => KL.R.ok (Val.ref S2.length) (S2 ++ [Cell.dic kvs])) (fun v _ μ' H' => ∀ u, MF G μ' H H' v u → Q u H'), fun H3 q => ⟨xs.length - (i + 1), by omega, rfl, hlt, q⟩, fun u H3 y => ?_⟩
    obtain ⟨ext, hu⟩ := (it.1 i xs[i] (List.getElem?_eq_getElem hlt)).2 u H3 y
    have st3 : Step μ2 H2 μ2 H3 := Step.ext ext
    have sr3 := sr2.ext ext
    have R3 := R1.step (st2.trans st3) sr3
    rw [List.drop_eq_getElem_cons hlt] at o2
    unfold dcG at o2
    cases hg : g xs[i] (wip ρ vs) with
    | none => rw [hg] at o2; exact False.elim o2
    | some ρ1 =>
      rw [hg] at o2
      refine ⟨μ2, xs[i], wip ρ vs, ρ1, fun σ2 ρ2 => Rel G N μ2 σ2 H3 ρ2 S2 ∧ wipe σ2 vs = wipe σ vs, ⟨R3, wipe_wipe⟩, fun j hj y u σ2 ρ2 ⟨p1, p2⟩ hy => ⟨p1.setPl hy, by rw [wipe_set hj]; exact p2⟩, hu, hg, fun σ2 ⟨p1, p2⟩ => ⟨p2, ?_⟩⟩
      simp only [bind_assoc] at o2
      refine ⟨ρ1, S2, μ2, p1, (Out.ne (W' := W0) o2).mono fun b S4 μ4 H4 st4 sr4 k4 => ?_⟩
      have st14 := (st2.trans st3).trans st4
      have hl4 : H4 D = some (DicO D G.w es) := st4.keep D _ (ext _ _ hl) np rfl
      have np4 : D ∉ μ4 := fun z => (st4.new D z).elim np fun q => by rw [ext _ _ hl] at q; cases q
      have d4 := (d.kx (st3.kx sr2) st3.pre).kx (st4.kx sr3) st4.pre
      cases b with
      | false => exact ⟨S4, μ4, acc, es, sr4, st14, hl4, d4, np4, k4⟩
      | true =>
        simp only [if_true, bind_assoc] at k4
        refine ⟨ρ1, S4, μ4, p1.step st4 sr4, (Out.ne (W' := W0) k4).mono fun y S5 μ5 H5 st5 sr5 k5 uy hy => ⟨ρ1, S5, μ5, (p1.step st4 sr4).step st5 sr5, (Out.ne (W' := W0) k5).mono fun z S6 μ6 H6 st6 sr6 k6 uz hz => ?_⟩⟩
        have st16 := (st14.trans st5).trans st6
        have hl5 : H5 D = some (DicO D G.w es) := st5.keep D _ hl4 np4 rfl
        have np5 : D ∉ μ5 := fun z => (st5.new D z).elim np4 fun q => by rw [hl4] at q; cases q
        have hl6 : H6 D = some (DicO D G.w es) := st6.keep D _ hl5 np5 rfl
        have np6 : D ∉ μ6 := fun z => (st6.new D z).elim np5 fun q => by rw [hl5] at q; cases q
        have d6 := (d4.kx (st5.kx sr4) st5.pre).kx (st6.kx sr5) st6.pre
        have nf : ∀ u, H6 D = some u → fixdT G u = false := fun u q => by rw [hl6] at q; cases q; rfl
        have hy6 := hy.kx (st6.kx sr5) st6.pre
        split at k6
        · rename_i hc
          obtain ⟨ks, nk, rfl, hnk, hdp⟩ := keyT_of hc.1
          have hle : acc.length = es.length := by
            have := congrArg List.length d.keys
            simpa using this
          cases hy6 with
          | tup ht hr =>
            exact ⟨μ6, acc, es, _, nk, _, z, rfl, hl6, d6, hnk, hdp, .tup ht hr, hz, Option.isNone_iff_eq_none.mp hc.2.2, by rw [← hle]; exact hc.2.1, fun es' d' =>
              ⟨S6, μ6, acc ++ [(.tup ks, z)], es', sr6.upd np6 nf, st16.upd hD, upd_same, d'.kx (kx_upd nf) (List.prefix_refl _), np6, k6⟩⟩
        · exact False.elim k6
  · have e : i = xs.length := by omega
    subst e
    rw [List.drop_length] at o2
    refine .inl ⟨it.2, ?_⟩
    have pr : μ2 <+: μ2 ++ [D] := List.prefix_append _ _
    refine o2 (μ2 ++ [D]) H2 (st2.new1 hD) (sr2.snoc (cl := .dic acc) np ⟨es, hl, d.kx (Kx.refl H2) pr⟩) _ (.ref ?_)
    rw [← sr2.len, List.getElem?_append_right (Nat.le_refl _)]; simp
theorem fe_dc {kx vx tg iter : Expr} {ifs : List Expr} {scope : Scope} {own : List (Str × Nat)} {pos : Pos} {mi : E (List Val)} {g : Tg} {t : T} {mk mv : E Val} (hK : X.K = G.K) (hw : X.w = G.w) (hu : X.A.units + 64 < cLine) (hc : X.calm = true) (hN : X.N.Nodup) (hi : PI X tg iter (tI G N W (ItB G) mi)) (ok : BlkOk X.N X.env.scope scope own)
    (hg : ∀ (s : Shared) (H : Hp) (C : Addr) (cl : List (Str × Addr)) (fp : List Addr), PG (X.blk s H scope (compEnvC scope cl C X.env) fp) tg (tGE G (own.map (·.2)) g)) (ht : ∀ (s : Shared) (H : Hp) (C : Addr) (cl : List (Str × Addr)) (fp : List Addr), PTs (X.blk s H scope (compEnvC scope cl C X.env) fp) ifs (tT G N W0 t))
    (hk : ∀ (s : Shared) (H : Hp) (C : Addr) (cl : List (Str × Addr)) (fp : List Addr), PE (X.blk s H scope (compEnvC scope cl C X.env) fp) kx (tE G N W0 (MF G) mk))
    (he : ∀ (s : Shared) (H : Hp) (C : Addr) (cl : List (Str × Addr)) (fp : List Addr), PE (X.blk s H scope (compEnvC scope cl C X.env) fp) vx (tE G N W0 (MF G) mv)) (hs : ∀ x, foldedSetIterable iter X.env x = pure x := by intro _; rfl) :
    PE X (.DictComp kx vx [⟨tg, iter, ifs, 0⟩] scope pos) (tE G N W (MF G) (cDC mi g t mk mv (own.map (·.2)))) :=
  pe_imp (pe_dcD (G := G) hK (by omega) hc hN hi ok hg ht hk he hs) fun σ H Q q => dc_walk hw q
end
end KL

set_option Elab.async false
set_option linter.all false
set_option maxRecDepth 100000
set_option maxHeartbeats 4000000
/-! KDic4: sorted(d), d.get(k), list(d.values()). -/
namespace KL
open PySem L2
open PyProof.Rows hiding St
section
variable {G : GP} {N : Fns} {W : WX} {X : Cx} {pins : List (Addr × Obj)} {σ : St} {s : Shared} {μ μ' : List Addr} {H H' : Hp} {S S' : Store} {ρ : Env}
theorem items_eq {P : Nat → Value → Prop} {acc : Array Value} {vs : List Value} (h : ItemsOf P acc vs.length) (hp : ∀ i v, P i v → vs[i]? = some v) : acc.toList = vs := by
  refine List.ext_getElem? fun i => ?_
  rw [Array.getElem?_toList]
  by_cases hi : i < vs.length
  · obtain ⟨v, hv⟩ : ∃ v, acc[i]? = some v := ⟨acc[i]'(by rw [h.1]; exact hi), Array.getElem?_eq_getElem _⟩
    rw [hv, hp i v (h.2 i v hv)]
  · rw [Array.getElem?_eq_none (by rw [h.1]; omega), List.getElem?_eq_none (by omega)]
/-- the keys, taken one by one -/
theorem keys_col {A : Around} {E : Value → Shared → Prop} {d : Addr} {od : Obj} {w : World} {xs : List DE} {Q : List Value → Shared → Prop} (hh : A.handled = none) (I : Inv X pins σ H s) (hd : H d = some (.frz od (DicO d w xs))) (hz : xs.length ≤ sizeLine)
    (h : ∀ (h' : Heap) (tk : Nat), (∀ b o, s.heap.get? b = some o → h'.get? b = some o) → Q (xs.map fun x => Value.ref x.2.1) { s with heap := h', toks := tk }) : wpAny (model X.prog X.w) A (collect (.ref d)) Q E s := by
  obtain ⟨hs, hgd, hx, es, ep, hdt, he⟩ := frz_at I hd
  have sz := ent_size he
  refine PySem.W.kdu_collect (PySem.KdlSrc.rawDict (es := es) (ep := ep) hs) hh ⟨od, hgd, hx, hdt⟩ (by rw [sz]; exact hz) fun h' tk acc k it => ?_
  have e : acc.toList = xs.map fun x => Value.ref x.2.1 := by
    refine items_eq (P := fun i v => ∃ hi : i < es.size, v = es[i].key) (by rw [List.length_map, ← sz]; exact it) fun i v ⟨hi, ev⟩ => ?_
    obtain ⟨hi', en⟩ := ent_at he (show i < xs.length by omega)
    rw [List.getElem?_map, List.getElem?_eq_getElem (show i < xs.length by omega), ev, en]; rfl
  rw [e]
  exact h h' tk k
theorem vals_keys : ∀ xs : List DE, Vals (xs.map fun x => V.ref x.2.1) (xs.map fun x => Value.ref x.2.1)
  | [] => .nil
  | x :: xs => .cons rfl (vals_keys xs)
def rSortDic (G : GP) : List V → Hp → VK → Prop := fun us H Q => ∃ μ a od xs kvs zs, us = [.ref a] ∧ H a = some (.frz od (DicO a G.w xs)) ∧ DicR G μ H kvs xs ∧ (∀ p, p ∈ μ → H p ≠ none) ∧ bSortD [.lst (kvs.map (·.1))] = some (.lst zs) ∧ ∀ q H2, (∀ a o, H a = some o → H2 a = some o) → MN G μ H H2 (.lst zs) q → Q q H2
theorem cr_sortDic (hK : X.K = G.K) (hc : X.calm = true) (hu : X.A.units + 64 < cLine) : CallR X (.builtin "sorted") (rSortDic G) := by
  intro pins s σ H us vs Q I rv ⟨μ, a, od, xs, kvs, zs, eu, hH, d, th, e, q⟩
  subst eu
  have e' : (if sortOk (kvs.map (·.1)) = true then some (Val.lst ((kvs.map (·.1)).mergeSort sleD)) else none) = some (.lst zs) := by rw [← msrt_eq]; exact e
  obtain ⟨ok, ez⟩ := of_guard e'
  cases ez
  obtain ⟨o1, o2, o3, o4⟩ := sortOk_of ok
  cases rv with
  | cons r1 rr1 =>
    cases rr1
    cases r1
    have hl : kvs.length = xs.length := by
      have := congrArg List.length d.keys
      simpa using this
    have hz : (kvs.map (·.1)).length ≤ sizeLine := by rw [List.length_map, hl]; exact d.len
    refine So.sorted_col (R := fun v x => ∃ u, RelV u v ∧ VR G μ H x u) (enc := encD) (fun A' hA' Q' E' hq => keys_col (hA'.trans (I.ok.hd hc)) I hH d.len fun h' tk k => hq h' tk k) (each_of d.kvr (vals_keys xs)) (each_reads hK I d.kvr (vals_keys xs) o1) o2 o3 hz (fun b hb => by have := o4 b hb; omega) fun out a h1 h' c tk k1 k hp ha ho => ?_
    obtain ⟨us', v1, v2⟩ := of_each ho
    have I1 := I.kept (t' := s.toks) k1
    have fresh : H a = none := I1.hok.fresh hp
    have lo : us'.length ≤ sizeLine := by
      rw [← v2.length, List.length_mergeSort]; exact hz
    exact ⟨.ref a, upd H a (.lst us'), I1.laid (t' := tk) k hp ⟨lo, out, c, v1, ha⟩, rfl, q _ _ (ext_upd fresh) (mn_lst fresh (np_of th fresh) v2)⟩
/-- sorted(d) -/
def cSortDic (o : E Val) : E Val := fun ρ S => (cFz o ρ S).bind fun x S1 => withS x S1 fun kvs => match bSortD [.lst (kvs.map (·.1))] with
  | some (.lst zs) => .ok (.lst zs) S1
  | _ => .sk
theorem fe_sortDic {e : Expr} {me : E Val} {p pos : Pos} (hK : X.K = G.K) (hc : X.calm = true) (hu : X.A.units + 64 < cLine) (hg : Gl X "sorted") (hm : X.mg "sorted" = none) (he : PE X e (tE G N W (MF G) me))
    (hs : starEach [e] X.env = (false, eval e X.env) :: starEach [] X.env := by rfl) (hpl : (backTo pos (starEach [] X.env)).any (·.1) = false := by rfl) : PE X (.Call (.Name "sorted" p) [e] [] pos) (tE G N W (MN G) (cSortDic me)) :=
  pe_imp (pe_callB (cr_sortDic (G := G) hK hc hu) hg hm (by decide) (pa_cons (fe_fz he) pa_nil hs) (by decide) (by decide) hs hpl) fun σ H Q ⟨ρ, S, μ, R, o⟩ => ⟨ρ, S, μ, R, (Out.bind o).mono fun x S1 μ1 H1 st1 sr1 k1 u hu => by
    obtain ⟨a, kvs, xs, od, rfl, hH, d, k1⟩ := with_of k1 sr1 hu
    split at k1
    · rename_i zs hz
      exact ⟨μ1, a, od, xs, kvs, zs, rfl, hH, d, fun p hp => sr1.there p hp, hz, fun q H2 ex m => k1 μ1 H2 (Step.ext ex) (sr1.ext ex) q (MN.back st1 sr1 m)⟩
    · exact False.elim k1⟩

/-! ### d.get(k) -/
def rGetD (G : GP) : V → List V → Hp → VK → Prop := fun x us H Q => ∃ μ a kvs xs k nk kb, x = .ref a ∧ us = [.ref kb] ∧ H a = some (DicO a G.w xs) ∧ DicR G μ H kvs xs ∧ vKey k = some nk ∧ nk.depth ≤ 8 ∧ VR G μ H k (.ref kb) ∧ ∀ q, VR G μ H ((dGet kvs k).getD .non) q → Q q H
theorem mt_get (hK : X.K = G.K) (hw : X.w = G.w) (hr : X.A.units + 64 < cLine) : MtR X "dict.get" (rGetD G) := by
  intro pins s σ H x us v vs Q I r rs ⟨μ, a, kvs, xs, k, nk, kb, ex, eu, hH, d, hk, hd, rk, h⟩
  subst ex eu
  cases r
  cases rs with
  | cons q1 q2 =>
    cases q1
    cases q2
    rw [← hw] at hH
    have hm := dic_of hK I hH d
    obtain ⟨us, a1, a2⟩ := d.vals
    refine call_meetsIn PySem.F.slot_dict_get hm.typeIs PySem.F.entry_dict_get (PySem.F.args_dict_get_2 _ _) (meetsH_dict_get (nestedKind X.prog X.w) a kb (dic_at I hH).1) ⟨by show X.A.units + 1 + 8 < cLine; omega, nk, xs, ⟨nest_is hK I rk rfl hk, hd⟩, hm, ?_⟩
    rcases dGet_at hk d.keys a1 a2 with ⟨z, e⟩ | ⟨z, uz, p', e1, e2, e3, e4⟩
    · rw [e]
      rw [z] at h
      exact ⟨.non, H, I.tok _, rfl, h _ .non⟩
    · rw [e2]
      rw [e1] at h
      exact ⟨uz, H, I.tok _, e3, h _ e4⟩
def cGet (o k : E Val) : E Val := fun ρ S => (o ρ S).bind fun x S1 => if isDic S1 x = true then (k ρ S1).bind fun y S2 => withD x S2 fun n kvs => if keyT y = true then .ok ((dGet kvs y).getD .non) S2 else .sk else .sk
theorem fe_get {o k : Expr} {mo mk : E Val} {apos cpos : Pos} (hK : X.K = G.K) (hw : X.w = G.w) (hr : X.A.units + 64 < cLine) (ho : PE X o (tE G N W (MF G) mo)) (hk : PE X k (tE G N W (MF G) mk))
    (hbase : attributeBase o "get" X.env (eval o X.env) = eval o X.env := by rfl)
    (hfew : ((backTo cpos (starEach [k] X.env)).all (fun x => !x.1) && (backToKw cpos (keywordEach [] X.env)).all (fun x => x.1.isSome) && decide ([k].length + ([] : List Keyword).length + (if ([] : List Keyword).isEmpty then 0 else 1) < 30)) = true := by rfl)
    (hline : (apos.endLine == cpos.line) = true := by rfl) (hs : starEach [k] X.env = (false, eval k X.env) :: starEach [] X.env := by rfl) (hplain : (backTo cpos (starEach [] X.env)).any (·.1) = false := by rfl) :
    PE X (.Call (.Attribute o "get" apos) [k] [] cpos) (tE G N W (MF G) (cGet mo mk)) := by
  refine pe_imp (pe_bmD PySem.F.slot_dict_get PySem.F.type_dict_get (mt_get hK hw hr) ho (pa_cons hk pa_nil hs) hbase hfew hline hs hplain) fun σ H Q ⟨ρ, S, μ, R, oo⟩ => ⟨ρ, S, μ, R, ?_⟩
  unfold cGet at oo
  refine (Out.bind oo).mono fun x S1 μ1 H1 st1 sr1 k1 u hu => ?_
  split at k1
  · rename_i hD
    obtain ⟨n, a, kv1, xs1, rfl, rfl, hm1, _, hH1, _⟩ := isDic_of hD sr1 hu
    refine ⟨⟨a, _, xs1, rfl, hH1⟩, ρ, S1, μ1, R.step st1 sr1, (Out.bind k1).mono fun y S2 μ2 H2 st2 sr2 k2 uy hy => ?_⟩
    show rGetD G (.ref a) [uy] H2 Q
    have hm2 := pre_get st2.pre hm1
    unfold withD at k2
    dsimp only at k2
    split at k2
    · rename_i kvs hS
      obtain ⟨xs, hH, d⟩ := sr2.at_ n _ _ hS hm2
      split at k2
      · rename_i hc
        obtain ⟨ks, nk, rfl, hnk, hdp⟩ := keyT_of hc
        cases hy with
        | tup ht hr' => exact ⟨μ2, a, kvs, xs, _, nk, _, rfl, rfl, hH, d, hnk, hdp, .tup ht hr', fun q hq => Out.ok k2 sr2 q hq⟩
      · exact False.elim k2
    · exact False.elim k2
  · exact False.elim k1

/-! ### list(d.values()) -/
def ViewO (v d : Addr) : HO := .ext fun h => h.IsValuesView v d
theorem pe_vals {e : Expr} {td : TE} {apos cpos : Pos} (he : PE X e td) (hbase : attributeBase e "values" X.env (eval e X.env) = eval e X.env := by rfl) (hline : (apos.endLine == cpos.line) = true := by rfl) :
    PE X (.Call (.Attribute e "values" apos) [] [] cpos) (fun σ H Q => td σ H fun x H1 => ∃ d od w xs, x = .ref d ∧ H1 d = some (.frz od (DicO d w xs)) ∧ ∀ v, H1 v = none → Q (.ref v) (upd H1 v (ViewO v d))) := by
  refine ⟨fun pins s σ H Q I h => ?_⟩
  refine wpAny_Call_method (T := "dict") (id := "dict.values") hbase rfl hline F.plainAttrs_dict F.slot_dict_values F.type_dict_values (thn (he.run pins s σ H _ I h) fun u s1 ⟨x, H1, I1, rx, d, od, wd, xs, ex, hd, q⟩ => ?_)
  subst ex
  obtain rfl : u = Value.ref d := rx
  obtain ⟨hs, hgd, hx, es, ep, hdt, he'⟩ := frz_at I1 hd
  have raw : s1.heap.DictRaw d es ep := ⟨od, hgd, hx, hdt⟩
  refine ⟨raw.typeIs, fun b q => by cases q; exact ⟨od, hgd, hx.2.1⟩, ?_⟩
  have vw : (s1.heap.push { cls := .type "dict_values", data := .fields #[.ref d] }).IsValuesView s1.heap.objs.size d := ⟨_, Heap.get?_push_size _ rfl, rfl, rfl⟩
  have I2 := I1.laid (a := s1.heap.objs.size) (o := ViewO s1.heap.objs.size d) (t' := s1.toks) (h' := s1.heap.push { cls := .type "dict_values", data := .fields #[.ref d] }) (fun _ _ q => Heap.get?_push_of_some _ q) (Nat.le_refl _)
    ⟨vw, ⟨_, Heap.get?_push_size _ rfl⟩, fun h1 h2 ⟨o, ho, r⟩ k => ⟨o, k o ho, r⟩⟩
  show wpAny _ _ (callWith cpos (.builtin "dict.values") [.ref d] [] []) _ X.xe s1
  exact method_meetsIn F.slot_dict_values F.entry_dict_values rfl (PySem.evalArgs_none ⟨rfl, raw.typeIs, F.args_dict_values_1 _, _, meets_dict_values_raw d hs, ⟨⟨es, ep, raw⟩, .ref s1.heap.objs.size, _, I2, rfl, q _ (I1.hok.fresh (Nat.le_refl _))⟩⟩)
def rLstVals (G : GP) : List V → Hp → VK → Prop := fun us H Q => ∃ μ v a od xs kvs, us = [.ref v] ∧ H v = some (ViewO v a) ∧ H a = some (.frz od (DicO a G.w xs)) ∧ DicR G μ H kvs xs ∧ (∀ p, p ∈ μ → H p ≠ none) ∧ ∀ q H2, (∀ a o, H a = some o → H2 a = some o) → MN G μ H H2 (.lst (kvs.map (·.2))) q → Q q H2
theorem cr_lstVals (hc : X.calm = true) : CallR X (.type "list") (rLstVals G) := by
  intro pins s σ H us vs Q I rv ⟨μ, v, a, od, xs, kvs, eu, hv, hH, d, th, q⟩
  subst eu
  cases rv with
  | cons r1 rr1 =>
    cases rr1
    cases r1
    obtain ⟨hs, hgd, hx, es, ep, hdt, he⟩ := frz_at I hH
    have sz := ent_size he
    have vw : s.heap.IsValuesView v a := (I.hok v _ hv).1
    obtain ⟨ws, a1, a2⟩ := d.vals
    refine PySem.W.kdl_call (PySem.KdlSrc.rawValues (es := es) (ep := ep)) (I.ok.hd hc) ⟨vw, od, hgd, hx, hdt⟩ (by rw [sz]; exact d.len) fun h' tk acc c k hD it => ?_
    have e : acc.toList = xs.map fun x => x.2.2 := by
      refine items_eq (P := fun i v => ∃ hi : i < es.size, v = es[i].val) (by rw [List.length_map, ← sz]; exact it) fun i v ⟨hi, ev⟩ => ?_
      obtain ⟨hi', en⟩ := ent_at he (show i < xs.length by omega)
      rw [List.getElem?_map, List.getElem?_eq_getElem (show i < xs.length by omega), ev, en]; rfl
    have fresh : H s.heap.objs.size = none := I.hok.fresh (Nat.le_refl _)
    have lo : ws.length ≤ sizeLine := by rw [a2.length, List.length_map]; exact d.len
    have ea : acc = (xs.map fun x => x.2.2).toArray := by rw [← e]
    exact ⟨.ref s.heap.objs.size, upd H s.heap.objs.size (.lst ws), I.laid (t' := tk) k (Nat.le_refl _) ⟨lo, _, c, a2, by rw [← ea]; exact hD⟩, rfl, q _ _ (ext_upd fresh) (mn_lst fresh (np_of th fresh) a1)⟩
def cLstVals (o : E Val) : E Val := fun ρ S => (cFz o ρ S).bind fun x S1 => withS x S1 fun kvs => .ok (.lst (kvs.map (·.2))) S1
theorem fe_lstVals {e : Expr} {me : E Val} {apos cpos p pos : Pos} (hc : X.calm = true) (hg : Gl X "list") (hm : X.mg "list" = none) (he : PE X e (tE G N W (MF G) me))
    (hbase : attributeBase e "values" X.env (eval e X.env) = eval e X.env := by rfl) (hline : (apos.endLine == cpos.line) = true := by rfl)
    (hs : starEach [.Call (.Attribute e "values" apos) [] [] cpos] X.env = (false, eval (.Call (.Attribute e "values" apos) [] [] cpos) X.env) :: starEach [] X.env := by rfl) (hpl : (backTo pos (starEach [] X.env)).any (·.1) = false := by rfl) :
    PE X (.Call (.Name "list" p) [.Call (.Attribute e "values" apos) [] [] cpos] [] pos) (tE G N W (MN G) (cLstVals me)) :=
  pe_imp (pe_callTy (cr_lstVals (G := G) hc) hg hm (by decide) (pa_cons (pe_vals (fe_fz he) hbase hline) pa_nil hs) (by decide) (by decide) hs hpl) fun σ H Q ⟨ρ, S, μ, R, o⟩ => ⟨ρ, S, μ, R, (Out.bind o).mono fun x S1 μ1 H1 st1 sr1 k1 u hu => by
    obtain ⟨a, kvs, xs, od, rfl, hH, d, k1⟩ := with_of k1 sr1 hu
    refine ⟨a, od, G.w, xs, rfl, hH, fun v hv => ?_⟩
    have ex := ext_upd (o := ViewO v a) hv
    have st2 : Step μ1 H1 μ1 (upd H1 v (ViewO v a)) := Step.made hv
    have sr2 := sr1.ext ex
    exact ⟨μ1, v, a, od, xs, kvs, rfl, upd_same, ex _ _ hH, d.kx (st2.kx sr1) st2.pre, fun p hp => sr2.there p hp, fun q H2 ex2 m => k1 μ1 H2 (Step.ext fun a o h => ex2 a o (ex a o h)) (sr2.ext ex2) q (MN.back (st1.trans st2) sr2 m)⟩⟩
end
end KL

set_option Elab.async false
set_option linter.all false
set_option maxRecDepth 100000
set_option maxHeartbeats 1000000
/-! KZip: zip of two tuples, of two lists that stand still. -/
namespace KL
open PySem L2 RZ
section
variable {G : GP} {N : Fns} {W : WX} {X : Cx} {μ μ' : List Addr} {H H' : Hp} {σ : St} {ρ : Env} {S S' : Store} {e e2 tg : Expr} {me me2 : E Val} {K : PySem.W.Frag} {a b : Addr} {xs ys : List Val} {us vs : List V}
def zipV : List Val → List Val → List Val
  | x :: xs, y :: ys => .tup [x, y] :: zipV xs ys
  | _, _ => []
theorem zipV_len : ∀ xs ys : List Val, (zipV xs ys).length = min xs.length ys.length
  | [], ys => by simp [zipV]
  | x :: xs, [] => by simp [zipV]
  | x :: xs, y :: ys => by simp only [zipV, List.length_cons, zipV_len xs ys]; omega
theorem zipV_get : ∀ {xs ys : List Val} {i : Nat} {z : Val}, (zipV xs ys)[i]? = some z → ∃ x y, xs[i]? = some x ∧ ys[i]? = some y ∧ z = .tup [x, y]
  | [], ys, i, z, h => by simp [zipV] at h
  | x :: xs, [], i, z, h => by simp [zipV] at h
  | x :: xs, y :: ys, 0, z, h => by simp [zipV] at h; exact ⟨x, y, rfl, rfl, h.symm⟩
  | x :: xs, y :: ys, i + 1, z, h => by
    obtain ⟨p, q, h1, h2, h3⟩ := zipV_get (xs := xs) (ys := ys) (i := i) (z := z) (by simpa [zipV] using h)
    exact ⟨p, q, by simpa using h1, by simpa using h2, h3⟩
theorem vr_two {T : Addr} {x y : Val} {u v : V} (h : H T = none) (r : VR G μ H x u) (r2 : VR G μ H y v) : (∀ a o, H a = some o → upd H T (.tup [u, v]) a = some o) ∧ VR G μ (upd H T (.tup [u, v])) (.tup [x, y]) (.ref T) := by
  have e := ext_upd (o := .tup [u, v]) h
  have k : Kx G H (upd H T (.tup [u, v])) := fun a o h _ => e a o h
  exact ⟨e, .tup (us := [u, v]) (.inl (.inl upd_same)) (.cons (r.kx k (List.prefix_refl _)) (.cons (r2.kx k (List.prefix_refl _)) .nil))⟩
theorem at_zipT (q : SqT K H a us) (q2 : SqT K H b vs) (r : VRs G μ H xs us) (r2 : VRs G μ H ys vs) : ItAt G μ H (zipV xs ys) (ItzT K a b) :=
  ⟨fun i x hx => by
    obtain ⟨x, y, h1, h2, rfl⟩ := zipV_get hx
    obtain ⟨u, g1, g2⟩ := r.get h1
    obtain ⟨v, g3, g4⟩ := r2.get h2
    refine ⟨⟨us, vs, u, v, q, q2, g1, g3⟩, fun w H3 y => ?_⟩
    obtain ⟨T, p, p', rfl, hT, rfl, z1, z2⟩ := y
    have e1 := z1 us q
    rw [g1] at e1; cases e1
    have e2 := z2 vs q2
    rw [g3] at e2; cases e2
    exact vr_two hT g2 g4, ⟨us, vs, q, q2, by rw [zipV_len, r.length, r2.length]; omega⟩⟩
def iZp (a b : E Val) : E (List Val) := fun ρ S => (a ρ S).bind fun x S1 => (b ρ S1).bind fun y S2 => match x, y with
  | .tup xs, .tup ys => .ok (zipV xs ys) S2
  | _, _ => .sk
theorem fi_zipF {p pos tpos : Pos} {elts : List Expr} {kk : Nat} (hK : X.K = G.K) (hg : Gl X "zip") (hm : X.mg "zip" = none) (he : PE X e (tE G N W (MF G) me)) (he2 : PE X e2 (tE G N W (MF G) me2))
    (hs : starEach [e, e2] X.env = (false, eval e X.env) :: starEach [e2] X.env := by rfl) (hs2 : starEach [e2] X.env = (false, eval e2 X.env) :: starEach [] X.env := by rfl) (hpl : (backTo pos (starEach [e2] X.env)).any (·.1) = false := by rfl) :
    PI X (.Tuple elts kk tpos) (.Call (.Name "zip" p) [e, e2] [] pos) (tI G N W (ItF G) (iZp me me2)) :=
  pi_imp (pi_zipA hg hm (pa_cons he (pa_cons he2 pa_nil hs2) hs) hs hpl) fun σ H R ⟨ρ, S, μ, Rl, o⟩ => ⟨ρ, S, μ, Rl, (Out.bind o).mono fun x S1 μ1 H1 st1 sr1 k1 u hu => ⟨ρ, S1, μ1, Rl.step st1 sr1, (Out.bind k1).mono fun y S2 μ2 H2 st2 sr2 k2 w hw => by
    split at k2
    · rename_i xs ys
      have hu2 := hu.kx (st2.kx sr1) st2.pre
      cases hu2 with
      | @tup a _ us t r =>
        cases hw with
        | @tup b _ vs t2 r2 =>
          exact ⟨a, b, us, vs, rfl, .inr ⟨by rw [hK]; exact t, by rw [hK]; exact t2, Out.ok k2 sr2 _ fun μ3 H3 kp => at_zipT (by rw [hK]; exact sqT_kx kp.kx t) (by rw [hK]; exact sqT_kx kp.kx t2) (r.kp kp) (r2.kp kp)⟩⟩
    · exact False.elim k2⟩⟩
end
end KL

set_option Elab.async false
set_option linter.all false
set_option maxRecDepth 100000
set_option maxHeartbeats 2000000
/-! KLam: lambdas: how they are made, what they are worth, a def that is handed one. -/
namespace KL
open PySem L2
/-- a lambda's words, the cells that it captured, its code object -/
structure LF where
  qual : Str
  params : Arguments
  body : Expr
  scope : Scope
  cl : List (Str × Addr)
  c : Addr
abbrev LF.fd (F : LF) (pm ctv : Value) : FuncData := PySem.W.kla_fn "<lambda>" F.qual F.params F.body F.scope F.cl pm (.ref F.c) ctv
/-- the object at f is this lambda -/
def FnL (f : Addr) (F : LF) : HO := .ext fun h => ∃ (od : Option Addr) (sl : Array (Option Value)) (pm ctv : Value), h.get? f = some (⟨.type "function", od, .func (F.fd pm ctv), sl⟩ : Obj)
theorem fnL_at {P : Program} {w : World} {H : Hp} {h : Heap} {f : Addr} {F : LF} {o : Obj} (hok : HOk P w H h) (e : H f = some (.frz o (FnL f F))) : ∃ (od : Option Addr) (sl : Array (Option Value)) (pm ctv : Value), h.get? f = some (⟨.type "function", od, .func (F.fd pm ctv), sl⟩ : Obj) := by
  obtain ⟨_, z, _, _⟩ := hok f _ e
  exact z
theorem codeF_at {P : Program} {w : World} {H : Hp} {h : Heap} {c : Addr} {q : Str} {o : Obj} (hok : HOk P w H h) (e : H c = some (.frz o (LamX.CodeO c q))) : h.CodeRec (.ref c) q := by
  obtain ⟨_, ⟨oc, vs, t, h1, h2, h3⟩, _, _⟩ := hok c _ e
  exact ⟨c, oc, vs, t, rfl, h1, h2, h3⟩
section
variable {G : GP} {N : Fns} {W : WX} {X : Cx} {pins : List (Addr × Obj)} {μ μ' : List Addr} {H H' : Hp} {σ : St} {ρ : Env} {S S' : Store} {s : Shared}
theorem Kx.ofN (e : LamX.ExtN H H') : Kx G H H' := fun a o h f => e a o h fun ps z => by subst z; cases f
theorem StR.extN (r : StR G μ H S) (e : LamX.ExtN H H') (tb : ∀ p, p ∈ G.tabs → TabK H' p.1 p.2) : StR G μ H' S :=
  ⟨r.len, r.nd, tb, fun n c a h1 h2 => by
    have k : Kx G H H' := Kx.ofN e
    have q := r.at_ n c a h1 h2
    cases c with
    | lst xs => obtain ⟨us, e1, v⟩ := q; exact ⟨us, e _ _ e1 (fun _ z => by cases z), v.kx k (List.prefix_refl _)⟩
    | ins c xs => obtain ⟨dx, fs, e1, en, em, v⟩ := q; exact ⟨dx, fs, e _ _ e1 (fun _ z => by cases z), en, em, v.kx k (List.prefix_refl _)⟩
    | dic kvs => obtain ⟨xs, e1, d⟩ := q; exact ⟨xs, e _ _ e1 (fun _ z => by cases z), d.kx k (List.prefix_refl _)⟩
    | sdic kvs => obtain ⟨xs, ob, e1, d⟩ := q; exact ⟨xs, ob, e _ _ e1 (fun _ z => by cases z), d.kx k (List.prefix_refl _)⟩⟩
theorem Step.extN (e : LamX.ExtN H H') (t : ∀ a ps, H a = some (.tbl ps) → ∃ qs, H' a = some (.tbl qs)) : Step μ H μ H' :=
  ⟨fun a o h _ n => e a o h (fun ps z => by subst z; cases n), fun a ps h _ => t a ps h, List.prefix_refl _, fun _ h => .inl h, fun a o u h => e a _ h (fun _ z => by cases z)⟩
/-- what a made lambda leaves -/
structure MadeL (G : GP) (μ : List Addr) (S : Store) (H : Hp) (F : Addr → LF) (f c : Addr) (H1 : Hp) : Prop where
  st : Step μ H μ H1
  sr : StR G μ H1 S
  fn : ∃ o, H1 f = some (.frz o (FnL f (F c)))
  cd : ∃ o, H1 c = some (.frz o (LamX.CodeO c (F c).qual))
  no : H f = none
  keep : ∀ a o, H a = some o → (∀ ps, o ≠ .tbl ps) → H1 a = some o
theorem lam_make {c P : Addr} {q : Str} {params : Arguments} {body : Expr} {scope : Scope} {pos : Pos} {E : Value → Shared → Prop} {Q : Value → Shared → Prop} (I : Inv X pins σ H s) (R : StR G μ H S) (TB : LamX.TabB X.base X.mg c P) (hcode : X.env.code = .ref c)
    (hm : (P, q) ∈ G.tabs) (hu : ∀ p, p ∈ G.tabs → p.1 = P → p.2 = q) (hq : X.env.qual ++ "<lambda>" = q) (hdef : defaultsOf params X.env = ([], [])) (hfree : ∀ y ∈ scope.names, y.2 = .free → ∃ c, X.env.cells.lookup y.1 = some c)
    (h : ∀ (f c' : Addr) (H1 : Hp) (s' : Shared), Inv X pins σ H1 s' → MadeL G μ S H (fun c' => ⟨q, params, body, scope, cloFrom X.env.cells scope.names [], c'⟩) f c' H1 → Q (.ref f) s') :
    wpAny (model X.prog X.w) X.A (eval (.Lambda params body scope pos) X.env) Q E s := by
  obtain ⟨ps, hP, ht, ha⟩ := R.tb _ hm
  refine PySem.W.kla_eval hdef ?_
  rw [hq]
  have bP : s.heap.BuiltinsAt X.mg P := TB.bm.keeps I.bk
  have hP' : s.heap.get? P = some { cls := .none, data := .fields ps } := I.hok P _ hP
  cases hc : codeAmong pos ps.toList with
  | none =>
    refine PySem.W.kla_makeFunction (mg := X.mg) (c := c) (P := P) (ps := ps) (L2.closure_ok hfree) I.ok.glob (I.mod.glob.keeps I.bk) hcode (TB.code.keeps I.bk) hP' ht hc TB.gP bP fun c' ctv h' tk hx hge hlt hrec htb => ?_
    obtain ⟨c2, oc, vs, t, e2, hoc, hd, hv⟩ := hrec
    cases e2
    have nC : H c' = none := I.hok.fresh hge
    have nPc : P ≠ c' := ne_of_none hP nC
    have I1 := LamX.inv_table (t' := tk) (more := #[rawInt pos.line, rawInt pos.col, .ref c']) (h' := h') I hP (fun b o hb e => hx b o hb e) htb hge ⟨oc, vs, t, hoc, hd, hv⟩
    obtain ⟨ob, I2⟩ := I1.lock (d := c') upd_same True.intro
    rw [upd_upd] at I2
    have nF := I2.hok.fresh (Nat.le_refl _)
    have I3 : Inv X pins σ (upd (upd (upd H P (.tbl (ps ++ #[rawInt pos.line, rawInt pos.col, .ref c']))) c' (.frz ob (LamX.CodeO c' q))) h'.objs.size (.frz (PySem.W.kla_obj "<lambda>" q params body scope (cloFrom X.env.cells scope.names []) ((X.mg "__name__").getD .none) c' ctv) (FnL h'.objs.size ⟨q, params, body, scope, cloFrom X.env.cells scope.names [], c'⟩)))
        { s with heap := h'.push (PySem.W.kla_obj "<lambda>" q params body scope (cloFrom X.env.cells scope.names []) ((X.mg "__name__").getD .none) c' ctv), toks := tk } := by
      have e : (h'.push (PySem.W.kla_obj "<lambda>" q params body scope (cloFrom X.env.cells scope.names []) ((X.mg "__name__").getD .none) c' ctv)).get? h'.objs.size = some (PySem.W.kla_obj "<lambda>" q params body scope (cloFrom X.env.cells scope.names []) ((X.mg "__name__").getD .none) c' ctv) := Heap.get?_push_size _ rfl
      refine I2.laid (a := h'.objs.size) (fun b u e => Heap.get?_push_of_some _ e) (Nat.le_refl _) ⟨e, ⟨_, _, _, _, e⟩, ⟨_, e⟩, fun h1 h2 ⟨od, sl, p, t, z⟩ st => ⟨od, sl, p, t, st _ z⟩⟩
    have n1 : h'.objs.size ≠ c' := Nat.ne_of_gt hlt
    have n2 : h'.objs.size ≠ P := fun z => by
      rw [z] at nF
      rw [upd_ne nPc, upd_same] at nF
      cases nF
    have hF : H h'.objs.size = none := I.hok.fresh (Nat.le_trans hge (Nat.le_of_lt hlt))
    generalize hH : upd (upd (upd H P (.tbl (ps ++ #[rawInt pos.line, rawInt pos.col, .ref c']))) c' (.frz ob (LamX.CodeO c' q))) h'.objs.size (.frz (PySem.W.kla_obj "<lambda>" q params body scope (cloFrom X.env.cells scope.names []) ((X.mg "__name__").getD .none) c' ctv) (FnL h'.objs.size ⟨q, params, body, scope, cloFrom X.env.cells scope.names [], c'⟩)) = H3 at I3
    have at3 : ∀ b, b ≠ h'.objs.size → b ≠ c' → b ≠ P → H3 b = H b := fun b m1 m2 m3 => by rw [← hH, upd_ne m1, upd_ne m2, upd_ne m3]
    have atP : H3 P = some (.tbl (ps ++ #[rawInt pos.line, rawInt pos.col, .ref c'])) := by rw [← hH, upd_ne (Ne.symm n2), upd_ne nPc, upd_same]
    have atC : H3 c' = some (.frz ob (LamX.CodeO c' q)) := by rw [← hH, upd_ne (Ne.symm n1), upd_same]
    have hE : LamX.ExtN H H3 := fun b o e n => by
      rw [at3 b (ne_of_none e hF) (ne_of_none e nC) (fun z => n ps (Option.some.inj (e.symm.trans (by rw [z]; exact hP))))]
      exact e
    have eL : (ps ++ #[rawInt pos.line, rawInt pos.col, .ref c']).toList = ps.toList ++ [rawInt pos.line, rawInt pos.col, .ref c'] := by simp
    have tb : ∀ p, p ∈ G.tabs → TabK H3 p.1 p.2 := fun p hp => by
      by_cases hb : p.1 = P
      · rw [hu p hp hb, hb]
        refine ⟨_, atP, by rw [eL]; exact PySem.TriplesOk_snoc _ _ _ _ ht, fun p' cv hcv => ?_⟩
        rw [eL] at hcv
        rcases LamX.among_app _ ht hcv with z | z
        · obtain ⟨c0, o0, e1, e2⟩ := ha p' cv z
          exact ⟨c0, o0, e1, hE _ _ e2 (fun _ z => by cases z)⟩
        · exact ⟨c', ob, z, atC⟩
      · obtain ⟨ps', a1, a2, a3⟩ := R.tb p hp
        refine ⟨ps', by rw [at3 _ (ne_of_none a1 hF) (ne_of_none a1 nC) hb]; exact a1, a2, fun p' cv hcv => ?_⟩
        obtain ⟨c0, o0, e1, e2⟩ := a3 p' cv hcv
        exact ⟨c0, o0, e1, hE _ _ e2 (fun _ z => by cases z)⟩
    refine h h'.objs.size c' H3 _ I3 ⟨Step.extN hE fun a qs e => ?_, R.extN hE tb, ⟨_, by rw [← hH]; exact upd_same⟩, ⟨ob, atC⟩, hF, hE⟩
    by_cases hb : a = P
    · exact ⟨_, by rw [hb]; exact atP⟩
    · exact ⟨qs, by rw [at3 a (ne_of_none e hF) (ne_of_none e nC) hb]; exact e⟩
  | some cv =>
    obtain ⟨c', o', e, hco⟩ := ha pos cv hc
    subst e
    refine PySem.W.kla_makeFunctionHit (mg := X.mg) (c := c) (P := P) (ps := ps) (L2.closure_ok hfree) I.ok.glob (I.mod.glob.keeps I.bk) hcode (TB.code.keeps I.bk) hP' ht hc bP fun ctv h' tk hx hsz => ?_
    have I1 : Inv X pins σ H { s with heap := h', toks := tk } := I.kept hx
    have hF : H h'.objs.size = none := I1.hok.fresh (Nat.le_refl _)
    have e : (h'.push (PySem.W.kla_obj "<lambda>" q params body scope (cloFrom X.env.cells scope.names []) ((X.mg "__name__").getD .none) c' ctv)).get? h'.objs.size = some (PySem.W.kla_obj "<lambda>" q params body scope (cloFrom X.env.cells scope.names []) ((X.mg "__name__").getD .none) c' ctv) := Heap.get?_push_size _ rfl
    have I2 : Inv X pins σ (upd H h'.objs.size (.frz (PySem.W.kla_obj "<lambda>" q params body scope (cloFrom X.env.cells scope.names []) ((X.mg "__name__").getD .none) c' ctv) (FnL h'.objs.size ⟨q, params, body, scope, cloFrom X.env.cells scope.names [], c'⟩)))
        { s with heap := h'.push (PySem.W.kla_obj "<lambda>" q params body scope (cloFrom X.env.cells scope.names []) ((X.mg "__name__").getD .none) c' ctv), toks := tk } :=
      I1.laid (a := h'.objs.size) (fun b u e => Heap.get?_push_of_some _ e) (Nat.le_refl _) ⟨e, ⟨_, _, _, _, e⟩, ⟨_, e⟩, fun h1 h2 ⟨od, sl, p, t, z⟩ st => ⟨od, sl, p, t, st _ z⟩⟩
    refine h h'.objs.size c' _ _ I2 ⟨Step.made hF, R.ext (ext_upd hF), ⟨_, upd_same⟩, ⟨o', by rw [upd_ne (ne_of_none hco hF)]; exact hco⟩, hF, fun a o e _ => ext_upd hF a o e⟩
end
/-! ### its body -/
/-- as a nested def without statements: the same frame -/
abbrev LF.nf (F : LF) : NdefX.NF := ⟨"<lambda>", F.qual, F.params, [], F.scope, F.cl, F.c⟩
abbrev envL (F : LF) (f L : Addr) : PySem.Env := NdefX.envF F.nf f L
abbrev lcx (CX : CXT) (P : Program) (w : World) (K : PySem.W.Frag) (mg : Str → Option Value) (base : Heap) (N : List Str) (F : LF) (f : Addr) (A : Around) (outer : List PySem.Env) (s : Shared) (H : Hp) (E : XK) : Cx := NdefX.ncx CX P w K mg base N F.nf f A outer s H E
/-! ### a function at f that does g, as long as some cells stand -/
structure Handed (P : Program) (w : World) (K : PySem.W.Frag) (mg : Str → Option Value) (base : Heap) (G : GP) (kl : Nat) (f : Addr) (g : F) (C : Addr → Prop) (μ0 : List Addr) (s0 : Shared) (H0 : Hp) : Prop where
  cel : ∀ c, C c → H0 c = none ∧ ∃ v, s0.heap.IsCell c v
  fat : ∀ (s : Shared) (H : Hp), HOk P w H s.heap → Kx G H0 H → PySem.W.FnAt f s.heap
  run : ∀ (A : Around) (outer : List PySem.Env) (s : Shared) (H : Hp) (us : List Value) (vs : List V) (xs : List Val) (S : Store) (μ : List Addr) (Q : VK) (E : XK), Room kl A → Env0 P w K mg base A outer s H → Kx G H0 H → μ0 <+: μ →
    (∀ c, C c → H c = none ∧ ∀ v, s0.heap.IsCell c v → s.heap.IsCell c v) → Vals vs us → VRs G μ H xs vs → StR G μ H S → Out G (WE0 E) [] μ H (g xs S) (fun v _ μ' H' => ∀ u, VR G μ' H' v u → Q u H') →
    codeAny (model P w) A (.call (.ref f) ⟨us, []⟩) (CR (L2.CX P w) outer P w H s Q E) s
theorem Handed.mono {P : Program} {w : World} {K : PySem.W.Frag} {mg : Str → Option Value} {base : Heap} {G : GP} {j k : Nat} {f : Addr} {g : F} {C : Addr → Prop} {μ0 : List Addr} {s0 : Shared} {H0 : Hp} (h : Handed P w K mg base G j f g C μ0 s0 H0) (hk : j ≤ k) : Handed P w K mg base G k f g C μ0 s0 H0 :=
  ⟨h.cel, h.fat, fun A outer s H us vs xs S μ Q E hr => h.run A outer s H us vs xs S μ Q E (hr.mono hk)⟩
/-- a lambda's values: n parameters, m names, what it captured -/
def lstart (m : Nat) (xs ws : List Val) : Env := xs.map .pl ++ (ws.map .pl ++ List.replicate (m - xs.length - ws.length) .un)
def lamF (n m : Nat) (b : E Val) (ws : List Val) : F := fun xs S => if xs.length = n then b (lstart m xs ws) S else .sk
section
variable {P : Program} {w : World} {K : PySem.W.Frag} {mg : Str → Option Value} {base : Heap} {G : GP} {N ps fr : List Str} {F : LF} {f : Addr} {kl : Nat} {m : E Val} {μ0 : List Addr} {s0 : Shared} {H0 : Hp} {ws : List Val} {wu : List V}
theorem lstart_rel {xs : List Val} {vs : List V} {μ : List Addr} {H : Hp} {S : Store} (hl : vs.length + wu.length ≤ N.length) (sr : StR G μ H S) (r : VRs G μ H xs vs) (rw_ : VRs G μ H ws wu) : Rel G Fns.none μ (NdefX.startF N vs (wu.map some)) H (lstart N.length xs ws) S := by
  have hxl := r.length
  have hwl := rw_.length
  have get : ∀ (i : Nat) (s : Slot) (o : Option V), (lstart N.length xs ws)[i]? = some s → (NdefX.startF N vs (wu.map some))[i]? = some o → s = .un ∨ ∃ x u, s = .pl x ∧ o = some u ∧ VR G μ H x u := fun i s o h g => by
    unfold lstart at h
    unfold NdefX.startF at g
    by_cases hi : i < xs.length
    · rw [List.getElem?_append_left (by simpa using hi), List.getElem?_map] at h
      rw [List.getElem?_append_left (by simp; omega), List.getElem?_map] at g
      cases e : xs[i]? with
      | none => rw [e] at h; cases h
      | some x =>
        obtain ⟨u, e2, v⟩ := r.get e
        rw [e] at h; rw [e2] at g
        cases h; cases g
        exact .inr ⟨x, u, rfl, rfl, v⟩
    · rw [List.getElem?_append_right (by simpa using hi), List.length_map] at h
      rw [List.getElem?_append_right (by simp; omega)] at g
      simp only [List.length_map, ← hxl] at g
      by_cases hj : i - xs.length < ws.length
      · rw [List.getElem?_append_left (by simpa using hj), List.getElem?_map] at h
        rw [List.getElem?_append_left (by simp; omega), List.getElem?_map] at g
        cases e : ws[i - xs.length]? with
        | none => rw [e] at h; cases h
        | some x =>
          obtain ⟨u, e2, v⟩ := rw_.get e
          rw [e] at h; rw [e2] at g
          cases h; cases g
          exact .inr ⟨x, u, rfl, rfl, v⟩
      · rw [List.getElem?_append_right (by simpa using hj), List.getElem?_replicate] at h
        split at h
        · cases h; exact .inl rfl
        · cases h
  refine ⟨?_, fun i s o h1 h2 => ?_, fun i j xs' ys p h1 h2 h3 h4 => ?_, sr⟩
  · unfold lstart NdefX.startF
    simp; omega
  · rcases get i s o h1 h2 with rfl | ⟨x, u, rfl, rfl, v⟩
    · trivial
    · exact ⟨u, rfl, v⟩
  · rcases get i _ _ h1 h3 with e | ⟨x, u, e, _⟩ <;> cases e
theorem handed_lam (S : NdefX.NScope N ps fr F.scope) (hb : ∀ (pm ctv : Value) (us : List Value), us.length = ps.length → bindArgs (F.fd pm ctv) ⟨us, []⟩ = pure (ps.zip us))
    (hbody : ∀ (A : Around) (outer : List PySem.Env) (s : Shared) (H : Hp) (E : XK), Room kl (A.deeper (envL F f s.heap.objs.size)) → PE (lcx (L2.CX P w) P w K mg base N F f A outer s H E) F.body (tE G Fns.none (WE0 E) (MF G) m))
    (hf : ∃ o, H0 f = some (.frz o (FnL f F))) (hc : ∃ o, H0 F.c = some (.frz o (LamX.CodeO F.c F.qual))) (C : NdefX.CellsAt F.cl fr (wu.map some) s0.heap H0) (vw : VRs G μ0 H0 ws wu) :
    Handed P w K mg base G (kl + 1) f (lamF ps.length N.length m ws) (fun c => ∃ y, F.cl.lookup y = some c) μ0 s0 H0 := by
  obtain ⟨of, hf⟩ := hf
  obtain ⟨oc, hc⟩ := hc
  have mem : ∀ y c, F.cl.lookup y = some c → ∃ y, F.cl.lookup y = some c := fun y c e => ⟨y, e⟩
  refine ⟨fun c h => ?_, fun s H hok k => ?_, fun A outer s H us vs xs St μ Q E hr e0 k pre cs rv vr sr o => ?_⟩
  · obtain ⟨y, e⟩ := h
    exact C.all y c e
  · obtain ⟨od, sl, pm, ctv, ho⟩ := fnL_at hok (k _ _ hf rfl)
    exact ⟨_, od, _, sl, ho⟩
  have hf' := k _ _ hf rfl
  have hc' := k _ _ hc rfl
  have lim : s.heap.NoLimit := e0.mod.nolimit.keeps fun b o e => (e0.bs b o e).1
  have hxl : xs.length = ps.length := by
    unfold lamF at o
    split at o
    · assumption
    · exact False.elim o
  have hl : vs.length = ps.length := by rw [← vr.length]; exact hxl
  have C' : NdefX.CellsAt F.cl fr (wu.map some) s.heap H := ⟨C.len, fun y c e => ⟨(cs c (mem y c e)).1, let ⟨v, hv⟩ := (C.all y c e).2; ⟨v, (cs c (mem y c e)).2 v hv⟩⟩, C.inj, fun i y e => by
    obtain ⟨c, h1, h2⟩ := C.has i y e
    refine ⟨c, h1, fun v hv => ?_⟩
    obtain ⟨u, r, z⟩ := h2 v hv
    exact ⟨u, r, (cs c (mem y c h1)).2 _ z⟩⟩
  obtain ⟨od, sl, pm, ctv, ho⟩ := fnL_at e0.hok hf'
  refine PySem.W.kla_callFunE hr.depth ho rfl S.co S.gen rfl (codeF_at e0.hok hc') ?_
  rw [hb pm ctv us (by rw [← rv.length]; exact hl)]
  refine wpAny_pure (wpAny_newFunctionEnv S.nocell (fun ⟨n, _⟩ hy => S.par n (List.of_mem_zip hy).1) (fun h₁ hns hsb => ⟨lim.fresh _ hsb, ?_⟩) S.kind)
  show codeAny _ _ (.expr F.body (envL F f s.heap.objs.size)) _ _
  have kp : ∀ b o, s.heap.get? b = some o → h₁.get? b = some o := fun b o e => hsb.extBut b o (Nat.ne_of_lt (Heap.lt_size e)) (Heap.get?_push_of_some _ e)
  have hpl : ps.length + fr.length ≤ N.length := by
    have q := congrArg List.length S.pre
    rw [List.length_take, List.length_append] at q
    omega
  have hwl : wu.length = fr.length := by have := C.len; rw [List.length_map] at this; exact this
  have I : Inv (lcx (L2.CX P w) P w K mg base N F f A outer s H E) [] (NdefX.startF N vs (wu.map some)) H { s with heap := h₁, toks := s.toks + (ps.zip us).length } := NdefX.inv_startN (F := F.nf) S hr.hd e0 hl rv C' hns kp
  have t : tE G Fns.none (WE0 E) (MF G) m (NdefX.startF N vs (wu.map some)) H Q := by
    refine ⟨lstart N.length xs ws, St, μ, lstart_rel (by rw [hl, hwl]; exact hpl) sr vr (vw.kx k pre), ?_⟩
    unfold lamF at o
    rw [if_pos hxl] at o
    cases q : m (lstart N.length xs ws) St with
    | ok v S1 => rw [q] at o; exact o
    | er e S1 => rw [q] at o; exact o
    | sk => rw [q] at o; exact o
  refine PySem.W.kla_codeExpr (wpAny_mono ((hbody A outer s H E (hr.deeper _)).run [] _ _ H Q I t) (fun v s' hq => ?_) fun e s' hq => hq)
  obtain ⟨w', H', J, rv', q⟩ := hq
  exact ⟨w', H', J.os, J.bare, J.base, J.hok, rv', q⟩
end
end KL

set_option Elab.async false
set_option linter.all false
set_option maxRecDepth 100000
set_option maxHeartbeats 2000000
/-! KHand: a def that is handed a function. -/
namespace KL
open PySem L2
/-- the one function handed in, from the def's entry on -/
def handN (f : Addr) (μe : List Addr) (He : Hp) : Fns where
  pd := fun _ _ _ => False
  cl := fun G _ _ u μ H => u = .ref f ∧ Kx G He H ∧ μe <+: μ
  pdx := fun _ _ _ _ _ _ h => h
  clx := fun _ _ _ _ _ _ _ _ k p ⟨a, b, c⟩ => ⟨a, b.trans k, c.trans p⟩
section
variable {G : GP} {N : Fns} {W : WX} {X : Cx} {pins : List (Addr × Obj)} {μ μ' μe : List Addr} {H H' He : Hp} {σ : St} {ρ : Env} {S S' : Store} {s : Shared} {kl k i : Nat} {f : Addr} {g : F} {C : Addr → Prop} {x a : Str} {p pos : Pos} {e : Expr} {es : List Expr} {ms : E (List Val)} {ma : E Val}
theorem Handed.at_ (h : Handed X.prog X.w X.K X.mg X.base G kl f g C μe X.s_0 X.H_0) (hex : X.ex = []) (I : Inv X pins σ H s) : ∀ c, C c → H c = none ∧ ∀ v, X.s_0.heap.IsCell c v → s.heap.IsCell c v := fun c hc => by
  obtain ⟨n, v0, o, ho, hd⟩ := h.cel c hc
  have nx : ∀ b : Addr, b ∉ X.ex := fun b => by rw [hex]; simp
  refine ⟨I.base.free c o ho n (nx c), fun v ⟨o', ho', hd'⟩ => ?_⟩
  obtain ⟨sl, q⟩ := I.base.any ho' n (nx c)
  exact ⟨_, q, hd'⟩
/-- the same function, handed on -/
theorem Handed.later (h : Handed X.prog X.w X.K X.mg X.base G kl f g C μe X.s_0 X.H_0) (hex : X.ex = []) (I : Inv X pins σ H s) (k : Kx G X.H_0 H) (p : μe <+: μ) : Handed X.prog X.w X.K X.mg X.base G kl f g C μ s H := by
  have at_ := h.at_ hex I
  refine ⟨fun c hc => ⟨(at_ c hc).1, let ⟨_, v, hv⟩ := h.cel c hc; ⟨v, (at_ c hc).2 v hv⟩⟩, fun s' H' hok k' => h.fat s' H' hok (k.trans k'), fun A outer s' H' us vs xs S' μ' Q E hr e0 k' p' cs => ?_⟩
  exact h.run A outer s' H' us vs xs S' μ' Q E hr e0 (k.trans k') (p.trans p') fun c hc => ⟨(cs c hc).1, fun v hv => (cs c hc).2 v ((at_ c hc).2 v hv)⟩
theorem cal_hand {us : List Value} {vs : List V} {xs : List Val} {Q : VK} (h : Handed X.prog X.w X.K X.mg X.base G kl f g C μe X.s_0 X.H_0) (hex : X.ex = []) (hr : Room kl X.A) (tk : Takes X W) (I : Inv X pins σ H s) (k : Kx G X.H_0 H) (p : μe <+: μ) (rv : Vals vs us) (sr : StR G μ H S) (vr : VRs G μ H xs vs)
    (o : Out G W σ μ H (g xs S) fun v _ μ' H' => ∀ u, VR G μ' H' v u → Q u H') : wpAny (model X.prog X.w) X.A (call (.ref f) us) (EP X pins σ Q) X.xe s := by
  refine wpAny_call (codeAny_mono (h.run X.A X.stack s H us vs xs S μ Q (WE W σ) hr I.env0 k p (h.at_ hex I) rv vr sr o.we) fun r s' hq => ?_)
  cases r with
  | error e => exact passAt tk σ pins H s e s' I hq
  | ok fl =>
    cases fl with
    | ret u => exact I.after hq
    | next => exact False.elim hq
    | brk => exact False.elim hq
    | cont => exact False.elim hq
/-- a(..), a the function that was handed in -/
def cHand (i : Nat) (g : F) (ms : E (List Val)) : E Val := fun ρ S => match ρ[i]? with
  | some (.cl _ _) => (ms ρ S).bind fun xs S1 => g xs S1
  | _ => .sk
theorem fe_hand (i : Nat) (h : Handed X.prog X.w X.K X.mg X.base G kl f g C μe X.s_0 X.H_0) (hr : Room kl X.A) (tk : Takes X W) (ha : PA X (e :: es) (tA G (handN f μe X.H_0) W (MFs G) ms)) (hex : X.ex = [] := by rfl) (hN : X.N[i]? = some a := by rfl)
    (hv : Vis X.env.scope a := by first | exact Or.inl rfl | exact Or.inr (Or.inl rfl) | exact Or.inr (Or.inr rfl)) (hd : (a == ("__debug__" : Str)) = false := by decide) (hcd : (a == ("__classdict__" : Str)) = false := by decide)
    (he : starEach (e :: es) X.env = (false, eval e X.env) :: starEach es X.env := by rfl) (hpl : (backTo pos (starEach es X.env)).any (·.1) = false := by rfl) :
    PE X (.Call (.Name a p) (e :: es) [] pos) (tE G (handN f μe X.H_0) W (MF G) (cHand i g ms)) := by
  refine ⟨fun pins s σ H Q I ⟨ρ, S, μ, R, o⟩ => ?_⟩
  unfold cHand at o
  cases hi : ρ[i]? with
  | none => rw [hi] at o; exact False.elim o
  | some sl =>
    rw [hi] at o
    cases sl with
    | cl k0 ρ0 =>
      obtain ⟨q, h1, u, rfl, rfl, k, p1⟩ := R.slot hi
      refine wpAny_Call_Name_kw (thn ((pe_var (pos := p) hN hv hd hcd).run pins s σ H (fun v H1 => v = .ref f ∧ H1 = H) I ⟨.ref f, h1, rfl, rfl⟩) fun u s1 ⟨v, H1, I1, r1, q1⟩ => ?_)
      obtain ⟨ev, eH⟩ := q1
      subst ev
      rw [eH] at I1
      obtain rfl : u = Value.ref f := r1
      refine PySem.W.callWith_F (first := []) (h.fat s1 H I1.hok k) (thn (ha.run pos pins s1 σ H (fun vs H2 => ∃ xs S2 μ2, Kx G X.H_0 H2 ∧ μe <+: μ2 ∧ StR G μ2 H2 S2 ∧ VRs G μ2 H2 xs vs ∧ Out G W σ μ2 H2 (g xs S2) fun v _ μ' H' => ∀ u, VR G μ' H' v u → Q u H') I1
        ⟨ρ, S, μ, R, (Out.bind o).mono fun xs S2 μ2 H2 st2 sr2 k2 us hus => ⟨xs, S2, μ2, k.trans (st2.kx R.st), p1.trans st2.pre, sr2, hus, k2⟩⟩) fun us s2 ⟨vs, H2, I2, r, xs, S2, μ2, k2, p2, sr2, vr, o2⟩ => ⟨h.fat s2 H2 I2.hok k2, ?_⟩) he hpl
      exact cal_hand h hex hr tk I2 k2 p2 r sr2 vr o2
    | _ => exact False.elim o
theorem fe_hand0 (i : Nat) (h : Handed X.prog X.w X.K X.mg X.base G kl f g C μe X.s_0 X.H_0) (hr : Room kl X.A) (tk : Takes X W) (hex : X.ex = [] := by rfl) (hN : X.N[i]? = some a := by rfl)
    (hv : Vis X.env.scope a := by first | exact Or.inl rfl | exact Or.inr (Or.inl rfl) | exact Or.inr (Or.inr rfl)) (hd : (a == ("__debug__" : Str)) = false := by decide) (hcd : (a == ("__classdict__" : Str)) = false := by decide) :
    PE X (.Call (.Name a p) [] [] pos) (tE G (handN f μe X.H_0) W (MF G) (cHand i g cNil)) := by
  refine ⟨fun pins s σ H Q I ⟨ρ, S, μ, R, o⟩ => ?_⟩
  unfold cHand at o
  cases hi : ρ[i]? with
  | none => rw [hi] at o; exact False.elim o
  | some sl =>
    rw [hi] at o
    cases sl with
    | cl k0 ρ0 =>
      obtain ⟨q, h1, u, rfl, rfl, k, p1⟩ := R.slot hi
      refine wpAny_Call_Name_kw (thn ((pe_var (pos := p) hN hv hd hcd).run pins s σ H (fun v H1 => v = .ref f ∧ H1 = H) I ⟨.ref f, h1, rfl, rfl⟩) fun u s1 ⟨v, H1, I1, r1, q1⟩ => ?_)
      obtain ⟨ev, eH⟩ := q1
      subst ev
      rw [eH] at I1
      obtain rfl : u = Value.ref f := r1
      exact PySem.W.callWith_F0 (first := []) (h.fat s1 H I1.hok k) (cal_hand h hex hr tk I1 k p1 .nil R.st .nil o)
    | _ => exact False.elim o
end
/-! ### its promise -/
/-- the names at the entry: the function stands at the place i -/
def startH (m i : Nat) (xs : List Val) : Env := (xs.take i).map .pl ++ (.cl 0 [] :: ((xs.drop i).map .pl ++ List.replicate (m - xs.length - 1) .un))
/-- n parameters but the function, m names -/
def defH (n m i : Nat) (b : F → C) (g : F) : F := fun xs S => if xs.length = n ∧ i ≤ n then (match b g (startH m i xs) S with
  | .go (.rt v) _ S1 => .ok v S1
  | .go .nx _ S1 => .ok .non S1
  | .er e _ S1 => .er e S1
  | _ => .sk) else .sk
structure FnH (P : Program) (w : World) (K : PySem.W.Frag) (mg : Str → Option Value) (base : Heap) (G : GP) (gd : Prop) (k kl i : Nat) (f : Addr) (fd : FuncData) (ps : List Str) (gf : F → F) : Prop where
  len : ∀ (g : F) (xs : List Val) (S : Store) (W : WX) (σ : St) (μ : List Addr) (H : Hp) (K : Val → Store → List Addr → Hp → Prop), Out G W σ μ H (gf g xs S) K → xs.length + 1 = ps.length ∧ i ≤ xs.length
  run : ∀ (A : Around) (outer : List PySem.Env) (s : Shared) (H : Hp) (args : Args) (us : List Value) (vs : List V) (h : Addr) (C : Addr → Prop) (g : F) (xs : List Val) (S : Store) (μ : List Addr) (Q : VK) (E : XK), (gd → A.guards = some []) → Room k A → Env0 P w K mg base A outer s H → BindsTo s fd args (ps.zip us) →
    Vals (vs.take i ++ (.ref h :: vs.drop i)) us → Handed P w K mg base G kl h g C μ s H → VRs G μ H xs vs → StR G μ H S → Out G (WE0 E) [] μ H (gf g xs S) (fun v _ μ' H' => ∀ u, VR G μ' H' v u → Q u H') →
    codeAny (model P w) A (.call (.ref f) args) (CR (L2.CX P w) outer P w H s Q E) s
section
variable {P : Program} {w : World} {K : PySem.W.Frag} {mg : Str → Option Value} {base : Heap} {G : GP}
theorem mid_get {α : Type} {l : List α} {y z : α} {r : List α} {i j n : Nat} (hi : i ≤ l.length) (h : (l.take i ++ (y :: (l.drop i ++ r)))[j]? = some z) : (j = i ∧ z = y) ∨ (j ≠ i ∧ ∃ q, l[q]? = some z ∧ (j = q ∧ q < i ∨ j = q + 1 ∧ i ≤ q)) ∨ (∃ q, r[q]? = some z ∧ j = l.length + 1 + q) := by
  by_cases h1 : j < i
  · rw [List.getElem?_append_left (by rw [List.length_take]; omega), List.getElem?_take_of_lt h1] at h
    exact .inr (.inl ⟨by omega, j, h, .inl ⟨rfl, h1⟩⟩)
  · rw [List.getElem?_append_right (by rw [List.length_take]; omega), List.length_take, Nat.min_eq_left hi] at h
    by_cases h2 : j = i
    · subst h2
      rw [Nat.sub_self, List.getElem?_cons_zero] at h
      exact .inl ⟨rfl, (Option.some.inj h).symm⟩
    · obtain ⟨q, hq⟩ : ∃ q, j - i = q + 1 := ⟨j - i - 1, by omega⟩
      rw [hq, List.getElem?_cons_succ] at h
      by_cases h3 : q < l.length - i
      · rw [List.getElem?_append_left (by rw [List.length_drop]; exact h3), List.getElem?_drop] at h
        exact .inr (.inl ⟨h2, i + q, h, .inr ⟨by omega, by omega⟩⟩)
      · rw [List.getElem?_append_right (by rw [List.length_drop]; omega), List.length_drop] at h
        exact .inr (.inr ⟨q - (l.length - i), h, by omega⟩)
theorem startH_rel {xs : List Val} {vs : List V} {μ : List Addr} {H : Hp} {S : Store} {i : Nat} {h : Addr} (N : List Str) (hl : vs.length + 1 ≤ N.length) (hi : i ≤ xs.length) (sr : StR G μ H S) (r : VRs G μ H xs vs) :
    RelS G (handN h μ H) [] μ H μ (L2.start N (vs.take i ++ (.ref h :: vs.drop i))) H (startH N.length i xs) S := by
  have hxl := r.length
  have e1 : startH N.length i xs = (xs.map Slot.pl).take i ++ (.cl 0 [] :: ((xs.map Slot.pl).drop i ++ List.replicate (N.length - xs.length - 1) .un)) := by
    unfold startH
    rw [List.map_take, List.map_drop]
  have e2 : L2.start N (vs.take i ++ (.ref h :: vs.drop i)) = (vs.map some).take i ++ (some (.ref h) :: ((vs.map some).drop i ++ List.replicate (N.length - vs.length - 1) none)) := by
    unfold L2.start
    have z : (vs.take i ++ (V.ref h :: vs.drop i)).length = vs.length + 1 := by
      rw [List.length_append, List.length_cons, List.length_take, List.length_drop]; omega
    rw [z, List.map_append, List.map_cons, List.append_assoc, List.cons_append, List.map_take, List.map_drop, Nat.sub_sub]
  have get : ∀ (j : Nat) (s : Slot), (startH N.length i xs)[j]? = some s → s = .un ∨ (s = .cl 0 [] ∧ j = i) ∨ ∃ x, s = .pl x := fun j s q => by
    rw [e1] at q
    rcases mid_get (n := 0) (by simpa using hi) q with ⟨a, b⟩ | ⟨_, q, b, _⟩ | ⟨q, b, _⟩
    · exact .inr (.inl ⟨b, a⟩)
    · rw [List.getElem?_map] at b
      obtain ⟨x, _, e⟩ := Option.map_eq_some_iff.mp b
      exact .inr (.inr ⟨x, e.symm⟩)
    · rw [List.getElem?_replicate] at b
      split at b
      · cases b; exact .inl rfl
      · cases b
  refine ⟨⟨?_, fun j s o h1 h2 => ?_, fun j k xs' ys p h1 h2 _ _ => ?_, sr⟩, Step0.entry (by simp) (by simp), by simp, fun j xs' p h1 _ => ?_, fun j c xs' p h1 _ => ?_⟩
  · rw [e1, e2]; simp; omega
  · rw [e1] at h1
    rw [e2] at h2
    have hvi : i ≤ vs.length := by omega
    rcases mid_get (n := 0) (by simpa using hi) h1 with ⟨a, b⟩ | ⟨ne, q, b, hq⟩ | ⟨q, b, _⟩
    · subst b
      rcases mid_get (n := 0) (by simpa using hvi) h2 with ⟨_, b2⟩ | ⟨ne, _⟩ | ⟨q, _, e⟩
      · exact ⟨.ref h, b2, rfl, Kx.refl H, List.prefix_refl _⟩
      · exact absurd a ne
      · simp at e; omega
    · rw [List.getElem?_map] at b
      obtain ⟨x, hx, rfl⟩ := Option.map_eq_some_iff.mp b
      obtain ⟨u, hu, v⟩ := r.get hx
      have hql := (List.getElem?_eq_some_iff.mp hx).1
      rcases mid_get (n := 0) (by simpa using hvi) h2 with ⟨a2, _⟩ | ⟨_, q2, b2, hq2⟩ | ⟨q2, _, e⟩
      · exact absurd a2 ne
      · have : q2 = q := by omega
        subst this
        rw [List.getElem?_map, hu] at b2
        exact ⟨u, (Option.some.inj b2).symm, v⟩
      · simp at e; omega
    · rw [List.getElem?_replicate] at b
      split at b
      · cases b; trivial
      · cases b
  · rcases get j _ h1 with e | ⟨e, _⟩ | ⟨x, e⟩ <;> cases e
  · rcases get j _ h1 with e | ⟨e, _⟩ | ⟨x, e⟩ <;> cases e
  · rcases get j _ h1 with e | ⟨e, _⟩ | ⟨x, e⟩ <;> cases e
theorem defH_len {n m i : Nat} {b : F → C} {g : F} {W : WX} {σ : St} {μ : List Addr} {H : Hp} {xs : List Val} {S : Store} {K : Val → Store → List Addr → Hp → Prop} (o : Out G W σ μ H (defH n m i b g xs S) K) : xs.length = n ∧ i ≤ n := by
  unfold defH at o
  split at o
  · assumption
  · exact False.elim o
theorem defH_out {n i : Nat} {N : List Str} {b : F → C} {g : F} {E : XK} {μ : List Addr} {H : Hp} {xs : List Val} {S : Store} {Q : VK} {M : Fns} (o : Out G (WE0 E) [] μ H (defH n N.length i b g xs S) fun v _ μ' H' => ∀ u, VR G μ' H' v u → Q u H') :
    OutS G M (WE0 E) [] μ H μ H { nx := fun _ H' => Q .non H', rt := Q } (b g (startH N.length i xs) S) := by
  have hl := defH_len o
  unfold defH at o
  rw [if_pos hl] at o
  cases q : b g (startH N.length i xs) S with
  | sk => rw [q] at o; exact o
  | er e ρ' S' => rw [q] at o; exact fun cls d μ' σ' H' R k er => o cls d μ' H' R.st0.to R.rel.st er
  | go f ρ' S' =>
    rw [q] at o
    cases f with
    | nx => exact fun μ' σ' H' R k => o μ' H' R.st0.to R.rel.st _ .non
    | rt v => exact fun μ' σ' H' R k => o μ' H' R.st0.to R.rel.st
    | bk => exact False.elim o
    | ct => exact False.elim o
def BodyH (P : Program) (w : World) (K : PySem.W.Frag) (mg : Str → Option Value) (base : Heap) (G : GP) (gd : Prop) (k kl : Nat) (qual : Str) (st : Stmt) (f : Addr) (fd : FuncData) (N : List Str) (b : F → C) : Prop :=
  ∀ (cdv : Value) (hc : fd.code = cdv) (A : Around) (outer : List PySem.Env) (s : Shared) (H : Hp) (E : XK) (μ : List Addr) (h : Addr) (C : Addr → Prop) (g : F), (gd → A.guards = some []) → Room k (A.deeper (PyProof.Rows.envOfC qual (defScope st) s.heap.objs.size f cdv)) → Handed P w K mg base G kl h g C μ s H →
    PSs (cxOf (L2.CX P w) P w K mg base N qual (defScope st) f cdv A outer s H E) (defBody st) (tS G (handN h μ H) (WE0 E) [] μ H (b g))
theorem fnH_of {x qual : Str} {st : Stmt} {f : Addr} {fd : FuncData} {N ps : List Str} {k kl n i : Nat} {gd : Prop} {b : F → C} (F : Fun K x qual st f fd) (S : FnScope N ps (defScope st)) (hn : n + 1 = ps.length) (h : BodyH P w K mg base G gd k kl qual st f fd N b) : FnH P w K mg base G gd (k + 1) kl i f fd ps (defH n N.length i b) := by
  have hpl : ps.length ≤ N.length := by have := congrArg List.length S.pre; rw [List.length_take] at this; omega
  obtain ⟨oc, od, kV, doc, pm, an, cdv, ct, osl, hfd, lk, hcd⟩ := F.ex
  have hc : fd.code = cdv := by rw [hfd]
  refine ⟨fun g xs S W σ μ H K o => ?_, fun A outer s H args us vs ha C g xs St μ Q E hg hr e0 hb rv hd vr sr o => ?_⟩
  · obtain ⟨a, b⟩ := defH_len o
    omega
  · obtain ⟨a, b⟩ := defH_len o
    have hvl := vr.length
    have hfl : (vs.take i ++ (V.ref ha :: vs.drop i)).length = ps.length := by
      rw [List.length_append, List.length_cons, List.length_take, List.length_drop]; omega
    have h' := h
    subst hfd
    exact LamX.run_ofS lk hcd S hr e0 hb rv hfl fun hr' => ⟨_, h cdv hc A outer s H E μ ha C g hg hr' hd, _, St, μ, startH_rel N (by omega) (by omega) sr vr, defH_out o⟩
/-- a def that makes lambdas: its code object is told -/
def BodyC (P : Program) (w : World) (K : PySem.W.Frag) (mg : Str → Option Value) (base : Heap) (G : GP) (gd : Prop) (k : Nat) (qual : Str) (st : Stmt) (f : Addr) (fd : FuncData) (N : List Str) (b : C) : Prop :=
  ∀ (cdv : Value) (hc : fd.code = cdv) (A : Around) (outer : List PySem.Env) (s : Shared) (H : Hp) (E : XK) (μ : List Addr), (gd → A.guards = some []) → Room k (A.deeper (PyProof.Rows.envOfC qual (defScope st) s.heap.objs.size f cdv)) →
    PSs (cxOf (L2.CX P w) P w K mg base N qual (defScope st) f cdv A outer s H E) (defBody st) (tS G Fns.none (WE0 E) [] μ H b)
theorem fnOkC_of {x qual : Str} {st : Stmt} {f : Addr} {fd : FuncData} {N ps : List Str} {k : Nat} {b : C} (F : Fun K x qual st f fd) (S : FnScope N ps (defScope st)) (h : BodyC P w K mg base G False k qual st f fd N b) : FnOk P w K mg base (L2.CX P w) (k + 1) f fd ps (spF G (defF ps.length N.length b)) := by
  have hpl : ps.length ≤ N.length := by have := congrArg List.length S.pre; rw [List.length_take] at this; omega
  have len : ∀ vs H Q E, spF G (defF ps.length N.length b) vs H Q E → vs.length = ps.length := fun vs H Q E ⟨xs, St, μ, sr, r, o⟩ => by rw [← r.length]; exact defF_len o
  obtain ⟨oc, od, kV, doc, pm, an, cdv, ct, osl, hfd, lk, hcd⟩ := F.ex
  have hc : fd.code = cdv := by rw [hfd]
  refine ⟨len, fun A outer s H args us vs Q E hr e0 hb r hsp => ?_⟩
  have hl := len _ _ _ _ hsp
  obtain ⟨xs, St, μ, sr, rr, o⟩ := hsp
  subst hfd
  exact LamX.run_ofS lk hcd S hr e0 hb r hl fun hr' => ⟨_, h cdv hc A outer s H E μ (fun z => z.elim) hr', _, St, μ, start_rel N (by omega) sr rr, defF_out o⟩
theorem fnGC_of {x qual : Str} {st : Stmt} {f : Addr} {fd : FuncData} {N ps : List Str} {k : Nat} {b : C} (F : Fun K x qual st f fd) (S : FnScope N ps (defScope st)) (h : BodyC P w K mg base G True k qual st f fd N b) : FnG P w K mg base (k + 1) f fd ps (spF G (defF ps.length N.length b)) := by
  have hpl : ps.length ≤ N.length := by have := congrArg List.length S.pre; rw [List.length_take] at this; omega
  have len : ∀ vs H Q E, spF G (defF ps.length N.length b) vs H Q E → vs.length = ps.length := fun vs H Q E ⟨xs, St, μ, sr, r, o⟩ => by rw [← r.length]; exact defF_len o
  obtain ⟨oc, od, kV, doc, pm, an, cdv, ct, osl, hfd, lk, hcd⟩ := F.ex
  have hc : fd.code = cdv := by rw [hfd]
  refine ⟨len, fun A outer s H args us vs Q E g hr e0 hb r hsp => ?_⟩
  have hl := len _ _ _ _ hsp
  obtain ⟨xs, St, μ, sr, rr, o⟩ := hsp
  subst hfd
  exact LamX.run_ofS lk hcd S hr e0 hb r hl fun hr' => ⟨_, h cdv hc A outer s H E μ (fun _ => g) hr', _, St, μ, start_rel N (by omega) sr rr, defF_out o⟩
end
end KL

set_option Elab.async false
set_option linter.all false
set_option maxRecDepth 100000
set_option maxHeartbeats 2000000
/-! KHand2: calls that hand a lambda on. -/
namespace KL
open PySem L2
/-- the values of some names, told by value -/
def caps (ρ : Env) : List Nat → Option (List Val)
  | [] => some []
  | j :: js => match ρ[j]?, caps ρ js with
    | some (.pl v), some vs => some (v :: vs)
    | _, _ => none
section
variable {G : GP} {N : Fns} {W : WX} {X : Cx} {pins : List (Addr × Obj)} {μ μ' μe : List Addr} {H H' He : Hp} {σ : St} {ρ : Env} {S S' : Store} {s : Shared} {kl k i : Nat} {f : Addr} {g : F} {C : Addr → Prop} {x a : Str} {p pos lpos : Pos} {e : Expr} {es : List Expr} {ms : E (List Val)} {ma m : E Val}
theorem caps_rel (R : Rel G N μ σ H ρ S) : ∀ {js : List Nat} {ws : List Val}, caps ρ js = some ws → ∃ wu : List V, js.map (NdefX.slotAt σ) = wu.map some ∧ VRs G μ H ws wu
  | [], ws, h => by cases h; exact ⟨[], rfl, .nil⟩
  | j :: js, ws, h => by
    unfold caps at h
    split at h
    · rename_i v vs h1 h2
      cases h
      obtain ⟨wu, e1, e2⟩ := caps_rel R h2
      obtain ⟨q, g1, u, rfl, g2⟩ := R.slot h1
      exact ⟨u :: wu, by rw [List.map_cons, e1, NdefX.slotAt_of g1]; rfl, .cons g2 e2⟩
    · cases h
/-- a lambda is made: what its making asks of the maker -/
structure LamAt (X : Cx) (G : GP) (q : Str) (scope : Scope) (params : Arguments) (ps fr N' : List Str) (js : List Nat) : Prop where
  own : ∃ c P, LamX.TabB X.base X.mg c P ∧ X.env.code = .ref c ∧ (P, q) ∈ G.tabs ∧ ∀ p, p ∈ G.tabs → p.1 = P → p.2 = q
  hq : X.env.qual ++ "<lambda>" = q
  hdef : defaultsOf params X.env = ([], [])
  nf : NdefX.ndefB X.env.scope scope fr = true
  sc : NdefX.NScope N' ps fr scope
  js : js.map (fun j => X.N[j]?) = fr.map some
  hb : ∀ (q : Str) (cl : List (Str × Addr)) (pm cv ctv : Value) (body : Expr) (us : List Value), us.length = ps.length → bindArgs (PySem.W.kla_fn "<lambda>" q params body scope cl pm cv ctv) ⟨us, []⟩ = pure (ps.zip us)
variable {q : Str} {scope : Scope} {params : Arguments} {ps fr N' : List Str} {js : List Nat} {body : Expr}
theorem LamAt.free (L : LamAt X G q scope params ps fr N' js) (ok : X.Ok) : ∀ y ∈ scope.names, y.2 = .free → ∃ c, X.env.cells.lookup y.1 = some c := fun y hy e => (NdefX.ndef_free L.nf y hy e).elim (fun z => ok.has _ (.inl z)) fun z => ok.has _ (.inr z)
abbrev lamOf (X : Cx) (q : Str) (params : Arguments) (body : Expr) (scope : Scope) : Addr → LF := fun c => ⟨q, params, body, scope, cloFrom X.env.cells scope.names [], c⟩
/-- what a lambda's body does -/
def LamBody (X : Cx) (G : GP) (q : Str) (params : Arguments) (body : Expr) (scope : Scope) (N' : List Str) (kl : Nat) (m : E Val) : Prop := ∀ (f c : Addr) (A : Around) (outer : List PySem.Env) (s : Shared) (H : Hp) (E : XK), Room kl (A.deeper (envL (lamOf X q params body scope c) f s.heap.objs.size)) →
  PE (lcx (L2.CX X.prog X.w) X.prog X.w X.K X.mg X.base N' (lamOf X q params body scope c) f A outer s H E) body (tE G Fns.none (WE0 E) (MF G) m)
theorem pe_lamb (L : LamAt X G q scope params ps fr N' js) : PE X (.Lambda params body scope lpos) (fun σ H Q => ∃ S μ, StR G μ H S ∧ ∀ f c H1, MadeL G μ S H (lamOf X q params body scope) f c H1 → Q (.ref f) H1) := by
  refine ⟨fun pins s σ H Q I ⟨S, μ, R, h⟩ => ?_⟩
  obtain ⟨c, P, TB, hc, hm, hu⟩ := L.own
  exact lam_make I R TB hc hm hu L.hq L.hdef (L.free I.ok) fun f c' H1 s' I1 md => ⟨.ref f, H1, I1, rfl, h f c' H1 md⟩
/-- a made lambda, handed on -/
theorem MadeL.hand {c : Addr} {ws : List Val} {wu : List V} (L : LamAt X G q scope params ps fr N' js) (hbody : LamBody X G q params body scope N' kl m) (I : Inv X pins σ H s) (hf : ∃ o, H f = some (.frz o (FnL f (lamOf X q params body scope c)))) (hc : ∃ o, H c = some (.frz o (LamX.CodeO c q)))
    (e : js.map (NdefX.slotAt σ) = wu.map some) (vw : VRs G μ H ws wu) : ∃ C, Handed X.prog X.w X.K X.mg X.base G (kl + 1) f (lamF ps.length N'.length m ws) C μ s H := by
  have cp := NdefX.Caps.made (fr := fr) (js := js) I.ok (NdefX.ndef_free L.nf) (NdefX.ndef_fr L.nf) L.js
  have cs := NdefX.cells_of I cp
  rw [e] at cs
  exact ⟨_, handed_lam (F := lamOf X q params body scope c) L.sc (fun pm ctv us hl => L.hb _ _ _ _ _ _ us hl) (hbody f c) hf hc cs vw⟩
/-- arguments, the last one a lambda -/
def tAL (X : Cx) (G : GP) (N : Fns) (W : WX) (q : Str) (params : Arguments) (body : Expr) (scope : Scope) (ms : E (List Val)) : TA := fun σ H Q => ∃ ρ S μ, Rel G N μ σ H ρ S ∧ Out G W σ μ H (ms ρ S) fun xs S1 μ1 H1 => ∀ us f c H2, MadeL G μ1 S1 H1 (lamOf X q params body scope) f c H2 → VRs G μ1 H2 xs us → Rel G N μ1 σ H2 ρ S1 → Q (us ++ [.ref f]) H2
/-- arguments with a lambda at their end, as soon as the lambda can be made -/
def LPA (X : Cx) (G : GP) (N : Fns) (W : WX) (q : Str) (scope : Scope) (params : Arguments) (ps fr N' : List Str) (js : List Nat) (body : Expr) (ms : E (List Val)) (es : List Expr) : Prop := LamAt X G q scope params ps fr N' js → PA X es (tAL X G N W q params body scope ms)
theorem fal_one (hs : starEach [.Lambda params body scope lpos] X.env = (false, eval (.Lambda params body scope lpos) X.env) :: starEach [] X.env := by rfl) : LPA X G N W q scope params ps fr N' js body cNil [.Lambda params body scope lpos] := fun L =>
  pa_imp (pa_cons (pe_lamb L) pa_nil hs) fun σ H Q ⟨ρ, S, μ, R, o⟩ => ⟨S, μ, R.st, fun f c H1 md => o.ok R.st [] f c H1 md .nil (R.step md.st md.sr)⟩
theorem fal_cons (ha : PE X a' (tE G N W (MF G) ma)) (hr : LPA X G N W q scope params ps fr N' js body ms es) (hs : starEach (a' :: es) X.env = (false, eval a' X.env) :: starEach es X.env := by rfl) : LPA X G N W q scope params ps fr N' js body (cCons ma ms) (a' :: es) := fun L =>
  pa_imp (pa_cons ha (hr L) hs) fun σ H Q ⟨ρ, S, μ, R, o⟩ => ⟨ρ, S, μ, R, (Out.bind o).mono fun x S1 μ1 H1 st1 sr1 k1 u hu => ⟨ρ, S1, μ1, R.step st1 sr1, (Out.bind k1).mono fun xs S2 μ2 H2 st2 sr2 k2 us f c H3 md vr R3 =>
    k2.ok sr2 (u :: us) f c H3 md (.cons (hu.kx ((st2.trans md.st).kx sr1) st2.pre) vr) R3⟩⟩
/-- g(.., lambda): gf is what g does with what it is handed -/
def cCallL (gf : F → F) (ms : E (List Val)) (js : List Nat) (n n' : Nat) (m : E Val) : E Val := fun ρ S => (ms ρ S).bind fun xs S1 => match caps ρ js with
  | some ws => gf (lamF n n' m ws) xs S1
  | none => .sk
/-- what a call asks of its argument list, a lambda at its end -/
def okL (X : Cx) (G : GP) (W : WX) (q : Str) (params : Arguments) (body : Expr) (scope : Scope) (gf : F → F) (js : List Nat) (n n' : Nat) (m : E Val) (σ : St) (Q : VK) : List V → Hp → Prop := fun vs H1 => ∃ us f c xs ws wu S μ, vs = us ++ [.ref f] ∧ (∃ o, H1 f = some (.frz o (FnL f (lamOf X q params body scope c)))) ∧
  (∃ o, H1 c = some (.frz o (LamX.CodeO c q))) ∧ js.map (NdefX.slotAt σ) = wu.map some ∧ VRs G μ H1 ws wu ∧ VRs G μ H1 xs us ∧ StR G μ H1 S ∧ Out G W σ μ H1 (gf (lamF n n' m ws) xs S) fun v _ μ' H' => ∀ u, VR G μ' H' v u → Q u H'
theorem callL_imp {gf : F → F} {n n' : Nat} {Q : VK} (h : tE G N W (MF G) (cCallL gf ms js n n' m) σ H Q) : tAL X G N W q params body scope ms σ H (okL X G W q params body scope gf js n n' m σ Q) := by
  obtain ⟨ρ, S, μ, R, o⟩ := h
  refine ⟨ρ, S, μ, R, (Out.bind o).mono fun xs S1 μ1 H1 st1 sr1 k1 us f c H2 md vr R2 => ?_⟩
  cases hc : caps ρ js with
  | none => rw [hc] at k1; exact False.elim k1
  | some ws =>
    rw [hc] at k1
    obtain ⟨wu, e1, e2⟩ := caps_rel R2 hc
    exact ⟨us, f, c, xs, ws, wu, S1, μ1, rfl, md.fn, md.cd, e1, e2, vr, md.sr, k1.step md.st⟩
theorem run_callL {fa : Addr} {fd : FuncData} {gf : F → F} {gd : Prop} {psf : List Str} {vs : List V} {us : List Value} {Q : VK} {i : Nat} (Fh : FnH X.prog X.w X.K X.mg X.base G gd k kl i fa fd psf gf) (hg : gd → X.A.guards = some []) (hr : Room k X.A) (hb : Binds X.K fd psf []) (tk : Takes X W) (L : LamAt X G q scope params ps fr N' js) {kb : Nat} (hkb : kb + 1 ≤ kl) (hbody : LamBody X G q params body scope N' kb m)
    (I : Inv X pins σ H s) (rv : Vals vs us) (hq : okL X G W q params body scope gf js ps.length N'.length m σ Q vs H) (hi : i + 1 = psf.length) : wpAny (model X.prog X.w) X.A (call (.ref fa) us) (EP X pins σ Q) X.xe s := by
  obtain ⟨vs, f, c, xs, ws, wu, S, μ, rfl, hf, hc, e, vw, vr, sr, o⟩ := hq
  obtain ⟨C, hd⟩ := MadeL.hand (μ := μ) L hbody I hf hc e vw
  obtain ⟨h1, h2⟩ := Fh.len _ _ _ _ _ _ _ _ o
  have hvl := vr.length
  have hl : us.length = psf.length := by rw [← rv.length, List.length_append, List.length_singleton]; omega
  have b := hb s us I.kIn (by rw [List.append_nil]; exact hl)
  rw [List.append_nil] at b
  have ev : vs.take i ++ (V.ref f :: vs.drop i) = vs ++ [.ref f] := by
    rw [List.take_of_length_le (by omega), List.drop_of_length_le (by omega)]
  refine wpAny_call (codeAny_mono (Fh.run X.A X.stack s H ⟨us, []⟩ us vs f C _ xs S μ Q (WE W σ) hg hr I.env0 b (by rw [ev]; exact rv) (hd.mono hkb) vr sr o.we) fun r s' hq => ?_)
  cases r with
  | error e => exact passAt tk σ pins H s e s' I hq
  | ok fl =>
    cases fl with
    | ret u => exact I.after hq
    | next => exact False.elim hq
    | brk => exact False.elim hq
    | cont => exact False.elim hq
theorem fe_callL {fa : Addr} {fd : FuncData} {gf : F → F} {gd : Prop} {psf : List Str} {i : Nat} (Fh : FnH X.prog X.w X.K X.mg X.base G gd k kl i fa fd psf gf) (hg' : gd → X.A.guards = some []) (hr : Room k X.A) (hb : Binds X.K fd psf []) (tk : Takes X W) (hi : i + 1 = psf.length)
    (hg : Gl X x) (hm : X.mg x = some (.ref fa)) (hk : PySem.W.keepIn X.K (.ref fa) = true) (ha : LPA X G N W q scope params ps fr N' js body ms (e :: es)) (L : LamAt X G q scope params ps fr N' js) {kb : Nat} (hkb : kb + 1 ≤ kl) (hbody : LamBody X G q params body scope N' kb m) (hdb : (x == ("__debug__" : Str)) = false := by decide)
    (he : starEach (e :: es) X.env = (false, eval e X.env) :: starEach es X.env := by rfl) (hpl : (backTo pos (starEach es X.env)).any (·.1) = false := by rfl) : PE X (.Call (.Name x p) (e :: es) [] pos) (tE G N W (MF G) (cCallL gf ms js ps.length N'.length m)) := by
  refine ⟨fun pins s σ H Q I h => ?_⟩
  refine wpAny_Call_Name_kw (ld_glob I hg hm ?_ hdb)
  refine PySem.W.callWith_K (h₀ := X.base) I.ok.mod.kin hk (thn ((ha L).run pos pins s σ H _ I (callL_imp h)) fun us s1 ⟨vs, H1, I1, r, q⟩ => ⟨I1.kIn, ?_⟩) he hpl
  exact run_callL Fh hg' hr hb tk L hkb hbody I1 r q hi
/-! ### a function that was handed in, handed on -/
def cCallP (gf : F → F) (i : Nat) (g : F) (ms : E (List Val)) : E Val := fun ρ S => (ms ρ S).bind fun xs S1 => match ρ[i]? with
  | some (.cl _ _) => gf g xs S1
  | _ => .sk
def tAP (G : GP) (N : Fns) (W : WX) (f : Addr) (ms : E (List Val)) : TA := fun σ H Q => ∃ ρ S μ, Rel G N μ σ H ρ S ∧ Out G W σ μ H (ms ρ S) fun xs S1 μ1 H1 => ∀ us, VRs G μ1 H1 xs us → Rel G N μ1 σ H1 ρ S1 → Q (us ++ [.ref f]) H1
theorem own_of {base : Heap} {mg : Str → Option Value} {fc cdv : Value} {q : Str} {tl : List (Addr × Str)} (hc : fc = cdv) (h : ∃ c P, LamX.TabB base mg c P ∧ fc = .ref c ∧ (P, q) ∈ tl ∧ ∀ p, p ∈ tl → p.1 = P → p.2 = q) : ∃ c P, LamX.TabB base mg c P ∧ cdv = .ref c ∧ (P, q) ∈ tl ∧ ∀ p, p ∈ tl → p.1 = P → p.2 = q := by
  subst hc; exact h
end
end KL

set_option Elab.async false
set_option linter.all false
set_option maxRecDepth 100000
set_option maxHeartbeats 4000000
/-! KSortK: sorted(xs, key = lambda x: -o.f[x]). -/
namespace KL.So
open PySem PySem.W PySem.Calls PyProof.Rows
section
variable {prog : Program} {w : World} {A : Around} {E : Value → Shared → Prop} {s : Shared} {β : Type} {vs : List Value} {bs : List β} {R : Value → β → Prop}
/-- sorted(it, key = f), it collected as vs -/
theorem sorted_key_col {it : Value} {f : Addr} {Q : Value → Shared → Prop} (k : β → PyData)
    (hcol : ∀ (A' : Around), A'.handled = A.handled → ∀ (Q' : List Value → Shared → Prop) (E' : Value → Shared → Prop), (∀ (h' : Heap) (tk : Nat), (∀ b o, s.heap.get? b = some o → h'.get? b = some o) → Q' vs { s with heap := h', toks := tk }) → wpAny (model prog w) A' (collect it) Q' E' s)
    (e : EachIs R vs bs) (hal : AllAlike (bs.map k)) (hk : Sortable (bs.map k)) (hL : bs.length ≤ sizeLine) (hu : ∀ b, b ∈ bs → A.units + 2 + (k b).depth < cLine)
    (turn : ∀ (v : Value) (x : β), R v x → x ∈ bs → ∀ (h : Heap) (tk : Nat), (∀ b o, s.heap.get? b = some o → h.get? b = some o) → wpAny (model prog w) A.in1.in1 (call (.ref f) [v]) (KeyPure (k x) { s with heap := h, toks := tk }) (fun _ _ => False) { s with heap := h, toks := tk })
    (h : ∀ (out : List Value) (a : Addr) (h1 h' : Heap) (c tk : Nat), (∀ b o, s.heap.get? b = some o → h1.get? b = some o) → (∀ b o, h1.get? b = some o → h'.get? b = some o) → h1.objs.size ≤ a → h'.get? a = some (seqObj "list" (List.toArray out) c) → EachIs R out (bs.mergeSort (dataLe false k)) → Q (.ref a) { s with heap := h', toks := tk }) :
    wpAny (model prog w) A (call (.builtin "sorted") [it] [(Str.ofString "key", .ref f)]) Q E s := by
  have hv : vs.length ≤ sizeLine := by rw [e.length]; exact hL
  refine call_function_entry_kw kind_sorted plain_sorted entry_sorted (ksk_s1 _ _) ?_
  unfold Builtin.«sorted»
  refine wpAny_bind (m := checkCount "sorted" 1 1 _) (wpAny_pure (wpAny_bind (hcol A.in1 rfl _ _ fun h1 tk k1 => ?_)))
  refine wpAny_bind (wpAny_newList (items := vs) ?_ hv)
  have at2 : (h1.push (seqObj "list" vs.toArray 0)).get? h1.objs.size = some (seqObj "list" vs.toArray 0) := Heap.get?_push_size _ rfl
  have up : ∀ {g : Heap}, KeepsBut h1.objs.size (h1.push (seqObj "list" vs.toArray 0)) g → ∀ b o, h1.get? b = some o → g.get? b = some o := fun {g} kp b o q =>
    kp b o (Nat.ne_of_lt (Heap.lt_size q)) (Heap.get?_push_of_some _ q)
  refine wpAny_bind (wpAny_holding (list_sort_key_data (A := A.in1) (b := false) (s := { s with heap := h1.push (seqObj "list" vs.toArray 0), toks := tk }) k at2 e hal hk hL (fun x hx => by have := hu x hx; show A.units + 1 + 1 + _ < _; omega) (ksk_l1 _ _) (ksk_t1 _ _)
    (fun v x hR hx h tk kp => turn v x hR hx h tk fun b o q => up kp b o (k1 b o q)) fun out c h' tk' kp hD hl ho => ?_))
  exact wpAny_pure ⟨_, rfl, h out _ h1 h' c tk' k1 (up kp) (Nat.le_refl _) hD ho⟩
end
end KL.So
namespace KL
open PySem L2
section
variable {G : GP} {N : Fns} {W : WX} {X : Cx} {pins : List (Addr × Obj)} {μ μ' : List Addr} {H H' : Hp} {σ : St} {ρ : Env} {S S' : Store} {s : Shared} {A : Around}
/-- a name's value, the state as it was -/
theorem var_p {i : Nat} {x : Str} {v : V} {pos : Pos} {Q E : Value → Shared → Prop} (I : Inv X pins σ H s) (hN : X.N[i]? = some x) (e : σ[i]? = some (some v)) (hv : Vis X.env.scope x) (h : ∀ u, RelV v u → Q u s) (hd : (x == ("__debug__" : Str)) = false := by decide)
    (hcd : (x == ("__classdict__" : Str)) = false := by decide) : wpAny (model X.prog X.w) A (eval (.Name x pos) X.env) Q E s := by
  obtain ⟨m, hn, hl⟩ := I.loc
  obtain ⟨u, r, l⟩ := hl i x v hN e hv
  rcases l with ⟨hk, hm⟩ | ⟨hk | hk, c, hc, hcell⟩
  · exact wpAny_Name (wpAny_loadName_local I.ok.kind hk hn hm (h u r)) hd
  · exact wpAny_Name (wpAny_loadName_cell I.ok.kind hk hc hcell (h u r)) hd
  · exact wpAny_Name (wpAny_loadName_free I.ok.kind hk hc hcell (h u r) hcd) hd
theorem attr_p {a C dx : Addr} {fs : List (Str × V)} {f : Str} {v : V} {b : Bool} {Q E : Value → Shared → Prop} (I : Inv X pins σ H s) (e : H a = some (.ins C dx fs)) (c : Cls X.K C) (n : NoAttr X.K C f) (l : fs.lookup f = some v) (h : ∀ u t, RelV v u → Q u { s with toks := t }) :
    wpAny (model X.prog X.w) A (getAttr (.ref a) f b) Q E s := by
  obtain ⟨mA, O, r, _, _, _⟩ := ins_get I.hok e
  obtain ⟨u, hu, ru⟩ := RelO.some_of (v := v) (o := mA f) (by rw [← l]; exact r f)
  exact get_map I.kIn O (c.get f) c.hd n hu (handed_of ru) (h u _ ru)
theorem item_p {p : Addr} {xs : List V} {i : Int} {t : Tok} {z : V} {value slice : Expr} {Q E : Value → Shared → Prop} (I : Inv X pins σ H s) (hq : SqT X.K H p xs) (he : atI xs i = some z) (hs : subscripted slice false (.ref p) (.int i t) = operate [.ref p, .int i t] (getItem (.ref p) (.int i t))) (h : ∀ u, RelV z u → Q u s) :
    wpAny (model X.prog X.w) A (PyProof.Rows.subscriptTail value slice (.ref p) (.int i t)) Q E s := by
  obtain ⟨its, r, pl, hz⟩ := I.tuple hq
  obtain ⟨j, h1, h2, h3, h4, h5⟩ := atI_get he
  obtain ⟨w, ew, rw'⟩ := r.get h2
  have hl := r.length
  have hn := line63
  exact PyProof.Rows.subscriptTail_builtinR (x := w) pl.typeIs PyProof.Rows.slot_tuple_getitem.lookup
    (PyProof.Rows.getItem_tuple (j := j) (Q := fun r s' => r = w ∧ Q r s') pl (by omega) (by omega) (by rw [List.size_toArray, ← hl]; exact h1) (by simpa using ew) ⟨rfl, h w rw'⟩) hs
end
section
variable {P : Program} {w : World} {K : PySem.W.Frag} {mg : Str → Option Value} {base : Heap} {G : GP} {N : List Str} {F : LF} {f : Addr} {s : Shared} {H : Hp} {A : Around} {outer : List PySem.Env}
/-- lambda x: -h.f[x], called -/
theorem key_call {xn hn fn : Str} {p1 p2 p3 p4 p5 : Pos} {a C dx q : Addr} {fs : List (Str × V)} {us : List V} {i wi : Int} {t : Tok} (S : NdefX.NScope [xn, hn] [xn] [hn] F.scope) (hb : ∀ (pm ctv : Value) (us : List Value), us.length = 1 → bindArgs (F.fd pm ctv) ⟨us, []⟩ = pure (([xn] : List Str).zip us))
    (hF : F.body = .UnaryOp .USub (.Subscript (.Attribute (.Name hn p1) fn p2) (.Name xn p3) p4) p5) (hr : Room 1 A) (e0 : Env0 P w K mg base A outer s H) (hf : ∃ o, H f = some (.frz o (FnL f F))) (hc : ∃ o, H F.c = some (.frz o (LamX.CodeO F.c F.qual))) (Ce : NdefX.CellsAt F.cl [hn] [some (.ref a)] s.heap H)
    (ha : H a = some (.ins C dx fs)) (cl : Cls K C) (no : NoAttr K C fn) (l : fs.lookup fn = some (.ref q)) (hq : SqT K H q us) (hi : atI us i = some (.int wi))
    (d1 : (hn == ("__debug__" : Str)) = false) (c1 : (hn == ("__classdict__" : Str)) = false) (d2 : (xn == ("__debug__" : Str)) = false) (c2 : (xn == ("__classdict__" : Str)) = false)
    (hbase : ∀ (env : PySem.Env), attributeBase (.Name hn p1) fn env (eval (.Name hn p1) env) = eval (.Name hn p1) env) :
    wpAny (model P w) A (call (.ref f) [.int i t]) (PySem.W.KeyPure (.int (-wi)) s) (fun _ _ => False) s := by
  obtain ⟨of, hf⟩ := hf
  obtain ⟨oc, hc⟩ := hc
  have lim : s.heap.NoLimit := e0.mod.nolimit.keeps fun b o e => (e0.bs b o e).1
  obtain ⟨od, sl, pm, ctv, ho⟩ := fnL_at e0.hok hf
  refine wpAny_call (codeAny_mono (R := fun r s' => ∃ u, r = .ok (.ret u) ∧ PySem.W.KeyPure (.int (-wi)) s u s') ?_ fun r s' ⟨u, e, h⟩ => by subst e; exact h)
  refine PySem.W.kla_callFunE hr.depth ho rfl S.co S.gen rfl (codeF_at e0.hok hc) ?_
  rw [hb pm ctv _ rfl]
  refine wpAny_pure (wpAny_newFunctionEnv S.nocell (fun ⟨n, _⟩ hy => S.par n (List.of_mem_zip hy).1) (fun h₁ hns hsb => ⟨lim.fresh _ hsb, ?_⟩) S.kind)
  show codeAny _ _ (.expr F.body (envL F f s.heap.objs.size)) _ _
  have kp : ∀ b o, s.heap.get? b = some o → h₁.get? b = some o := fun b o e => hsb.extBut b o (Nat.ne_of_lt (Heap.lt_size e)) (Heap.get?_push_of_some _ e)
  have I : Inv (lcx (L2.CX P w) P w K mg base [xn, hn] F f A outer s H E0) [] (NdefX.startF [xn, hn] [V.int i] [some (.ref a)]) H { s with heap := h₁, toks := s.toks + (([xn] : List Str).zip [Value.int i t]).length } :=
    NdefX.inv_startN (F := F.nf) (us := [.int i t]) S hr.hd e0 rfl (.cons ⟨t, rfl⟩ .nil) Ce hns kp
  generalize s.toks + (([xn] : List Str).zip [Value.int i t]).length = tk at I ⊢
  refine PySem.W.kla_codeExpr ?_
  rw [hF]
  have vis1 : Vis F.scope hn := .inr (.inr (S.frk hn (by simp)))
  have vis2 : Vis F.scope xn := .inl (S.par xn (by simp))
  refine PyProof.Rows.UnaryOp_ (PyProof.Rows.Subscript_ (attr_of (hbase _) ?_))
  refine var_p (X := lcx (L2.CX P w) P w K mg base [xn, hn] F f A outer s H E0) (i := 1) (v := .ref a) I rfl rfl vis1 (fun u ru => ?_) d1 c1
  obtain rfl : u = Value.ref a := ru
  refine attr_p (X := lcx (L2.CX P w) P w K mg base [xn, hn] F f A outer s H E0) (v := .ref q) I ha cl no l fun u t1 ru => ?_
  obtain rfl : u = Value.ref q := ru
  have I1 := I.tok t1
  refine var_p (X := lcx (L2.CX P w) P w K mg base [xn, hn] F f A outer s H E0) (i := 0) (v := .int i) I1 rfl rfl vis2 (fun u ru => ?_) d2 c2
  obtain ⟨t2, rfl⟩ := ru
  refine item_p (X := lcx (L2.CX P w) P w K mg base [xn, hn] F f A outer s H E0) I1 hq hi rfl fun u ru => ?_
  obtain ⟨t3, rfl⟩ := ru
  exact PyProof.Rows.neg_int ⟨_, rfl, h₁, _, rfl, kp, .int _ _⟩
end
def negK (ws : List Val) (x : Val) : PyData := match opIx (.tup ws) x with
  | some (.int w) => .int (-w)
  | _ => .none
def okK (ws : List Val) (x : Val) : Bool := match x with
  | .int i => match opIx (.tup ws) (.int i) with
    | some (.int _) => true
    | _ => false
  | _ => false
/-- sorted(a, key = lambda x: -o.f[x]), o in the slot j, f the k-th attribute of the class c -/
def cSortN (j c k : Nat) (a : E Val) : E Val := fun ρ S => (a ρ S).bind fun x S1 => match sqOf (dr S1 x), ρ[j]? with
  | some xs, some (.pl h) => match fldOf S1 c k h with
    | some (.tup ws) => if xs.all (okK ws) then .ok (.lst (msrt (PySem.W.dataLe false (negK ws)) xs)) S1 else .sk
    | _ => .sk
  | _, _ => .sk
section
variable {G : GP} {N : Fns} {W : WX} {X : Cx} {pins : List (Addr × Obj)} {μ μ' : List Addr} {H H' : Hp} {σ : St} {ρ : Env} {S S' : Store} {s : Shared}
theorem fld_at {c k : Nat} {f : Str} {h z : Val} {u : V} (hf : FieldAt G X.K c k f) (sr : StR G μ H S) (hu : VR G μ H h u) (e : fldOf S c k h = some z) : ∃ a dx fs v, u = .ref a ∧ H a = some (.ins (G.cm c) dx fs) ∧ fs.lookup f = some v ∧ VR G μ H z v := by
  have fin : ∀ (xs : List Val) (p dx : Addr) (fs : List (Str × V)), u = .ref p → H p = some (.ins (G.cm c) dx fs) → fs.map (·.1) = G.cf c → VRs G μ H xs (fs.map (·.2)) → xs[k]? = some z → ∃ a dx fs v, u = .ref a ∧ H a = some (.ins (G.cm c) dx fs) ∧ fs.lookup f = some v ∧ VR G μ H z v := fun xs p dx fs e1 e2 e3 r e4 => by
    obtain ⟨w, h1, h2⟩ := r.get e4
    exact ⟨p, dx, fs, w, e1, e2, lookup_at e3 hf.nd hf.at_ h1, h2⟩
  unfold fldOf at e
  split at e
  · rename_i c' xs
    split at e
    · rename_i hc
      subst hc
      cases hu with
      | obj h n m r => exact fin xs _ _ _ rfl h n r e
    · cases e
  · rename_i n
    split at e
    · rename_i c' xs hS
      split at e
      · rename_i hc
        subst hc
        cases hu with
        | ref hm =>
          obtain ⟨dx, fs, h1, h2, h3, h4⟩ := sr.at_ n _ _ hS hm
          exact fin xs _ dx fs rfl h1 h2 h4 e
      · cases e
    · cases e
  · cases e
theorem okK_at {ws : List Val} {x : Val} (h : okK ws x = true) : ∃ i w, x = .int i ∧ opIx (.tup ws) (.int i) = some (.int w) ∧ negK ws x = .int (-w) := by
  unfold okK at h
  split at h
  · rename_i i
    split at h
    · rename_i w e
      exact ⟨i, w, rfl, e, by unfold negK; rw [e]⟩
    · cases h
  · cases h
variable {q : Str} {scope : Scope} {params : Arguments} {a : Expr} {ma : E Val} {xn hn fn : Str} {p pos lpos p1 p2 p3 p4 p5 : Pos} {c k j : Nat} {kpos : Pos}
theorem fe_sortN (hK : X.K = G.K) (hr : Room 3 X.A) (hu : X.A.units + 64 < cLine) (L : LamAt X G q scope params [xn] [hn] [xn, hn] [j]) (hf : FieldAt G X.K c k fn) (hg : Gl X "sorted") (hm : X.mg "sorted" = none) (ha : PE X a (tE G N W (MB G) ma))
    (d1 : (hn == ("__debug__" : Str)) = false := by decide) (c1 : (hn == ("__classdict__" : Str)) = false := by decide) (d2 : (xn == ("__debug__" : Str)) = false := by decide) (c2 : (xn == ("__classdict__" : Str)) = false := by decide)
    (hbase : ∀ (env : PySem.Env), attributeBase (.Name hn p1) fn env (eval (.Name hn p1) env) = eval (.Name hn p1) env := by exact fun _ => rfl)
    (he : backTo pos (starEach [a] X.env) = (false, eval a X.env) :: backTo pos (starEach [] X.env) := by rfl) (hpl : (backTo pos (starEach [a] X.env)).any (·.1) = false := by rfl)
    (hs0 : starEach [a] X.env = (false, eval a X.env) :: starEach [] X.env := by rfl)
    (hall : (backToKw pos (keywordEach [⟨some "key", .Lambda params (.UnaryOp .USub (.Subscript (.Attribute (.Name hn p1) fn p2) (.Name xn p3) p4) p5) scope lpos, kpos⟩] X.env)).all (·.1.isSome) = true := by rfl)
    (hnone : (backToKw pos (keywordEach [⟨some "key", .Lambda params (.UnaryOp .USub (.Subscript (.Attribute (.Name hn p1) fn p2) (.Name xn p3) p4) p5) scope lpos, kpos⟩] X.env)).any (·.1.isNone) = false := by rfl)
    (hks : (backToKw pos (keywordEach [⟨some "key", .Lambda params (.UnaryOp .USub (.Subscript (.Attribute (.Name hn p1) fn p2) (.Name xn p3) p4) p5) scope lpos, kpos⟩] X.env)).filterMap (·.1) = (["key"] : List Str) := by rfl) :
    PE X (.Call (.Name "sorted" p) [a] [⟨some "key", .Lambda params (.UnaryOp .USub (.Subscript (.Attribute (.Name hn p1) fn p2) (.Name xn p3) p4) p5) scope lpos, kpos⟩] pos) (tE G N W (MN G) (cSortN j c k ma)) := by
  refine ⟨fun pins s σ H Q I ⟨ρ, S, μ, R, o⟩ => ?_⟩
  refine wpAny_Call_Name_kw (ld_blt I hg hm PyProof.Rows.boot_sorted ?_ (by decide) (by decide))
  have hb : PA X [a] (fun σ H Q => tE G N W (MB G) ma σ H fun u H1 => Q [u] H1) := pa_imp (pa_cons ha pa_nil hs0) fun σ H Q h => h
  have hkw := pk_cons (nm := some "key") (kpos := kpos) (pe_lamb (lpos := lpos) (body := .UnaryOp .USub (.Subscript (.Attribute (.Name hn p1) fn p2) (.Name xn p3) p4) p5) L) pk_nil
  refine PyProof.Rows.callWith_kw (thn (hb.run pos pins s σ H (fun vs H1 => ∃ u x S1 μ1, vs = [u] ∧ Rel G N μ1 σ H1 ρ S1 ∧ RD G μ1 H1 (dr S1 x) u ∧ Out G W σ μ1 H1 (match sqOf (dr S1 x), ρ[j]? with
      | some xs, some (.pl h) => match fldOf S1 c k h with
        | some (.tup ws) => if xs.all (okK ws) then KL.R.ok (Val.lst (msrt (PySem.W.dataLe false (negK ws)) xs)) S1 else .sk
        | _ => .sk
      | _, _ => .sk) fun v S' μ' H' => ∀ u, MN G μ' H1 H' v u → Q u H') I ?_) fun us s1 ⟨vs, H1, I1, r1, u, x, S1, μ1, ev, R1, rd, o1⟩ =>
      thn (hkw.run pos pins s1 σ H1 (fun zs H2 => ∃ f c0, zs = [.ref f] ∧ MadeL G μ1 S1 H1 (lamOf X q params (.UnaryOp .USub (.Subscript (.Attribute (.Name hn p1) fn p2) (.Name xn p3) p4) p5) scope) f c0 H2) I1 ⟨S1, μ1, R1.st, fun f c0 H2 md => ⟨f, c0, rfl, md⟩⟩) fun ws s2 ⟨zs, H2, I2, r2, f, c0, ez, md⟩ => ?_) he hpl hall hnone
  · exact ⟨ρ, S, μ, R, (Out.bind o).mono fun x S1 μ1 H1 st1 sr1 k1 u hu => ⟨u, x, S1, μ1, rfl, R.step st1 sr1, hu.dr sr1, k1.mono fun v S' μ' H' st sr kk u hm => kk u (MN.back st1 sr1 hm)⟩⟩
  · subst ev ez
    rw [hks]
    cases r2 with
    | cons rf rr =>
      cases rr
      obtain rfl := (show _ = Value.ref f from rf)
      cases r1 with
      | cons ru rr =>
        cases rr
        split at o1
        · rename_i xs h hx hj
          split at o1
          · rename_i ww hw
            split at o1
            · rename_i hok
              obtain ⟨o', hσ, uh, rfl, vh⟩ := R1.slot hj
              obtain ⟨aa, dx, fs, v, rfl, ea, el, vt⟩ := fld_at hf R1.st vh hw
              cases vt with
              | @tup qa _ uw tq vw =>
                obtain ⟨pp, us', rfl, t, rr⟩ := sq_rd hx rd
                have kx := md.st.kx R1.st
                obtain ⟨its, rv2, ⟨oo, n, T, hT, ho, hc, hd⟩, hz⟩ : ∃ its : List Value, Vals us' its ∧ (∃ (o : Obj) (n : Nat) (T : String), (T = "list" ∨ T = "tuple") ∧ s2.heap.get? pp = some o ∧ o.cls = .type T ∧ o.data = .seq its.toArray n) ∧ us'.length ≤ sizeLine := by
                  rcases t with t | t
                  · have t' : SqL G.K H2 pp us' := by
                      rcases t with (t | ⟨oz, t⟩) | t
                      · by_cases hp : pp ∈ μ1
                        · exact .inl (.inl (md.keep _ _ t (fun _ z => by cases z)))
                        · exact .inl (.inl (md.keep _ _ t (fun _ z => by cases z)))
                      · exact .inl (.inr ⟨oz, md.keep _ _ t (fun _ z => by cases z)⟩)
                      · exact .inr t
                    rw [← hK] at t'
                    obtain ⟨its, rv2, pl, hz⟩ := I2.list t'
                    obtain ⟨o, ho, hc, n, hd⟩ := pl.isList
                    exact ⟨its, rv2, ⟨o, n, "list", .inl rfl, ho, hc, hd⟩, hz⟩
                  · have t' := sqT_kx kx t
                    rw [← hK] at t'
                    obtain ⟨its, rv2, ⟨o, ho, hc, n, hd⟩, hz⟩ := I2.tuple t'
                    exact ⟨its, rv2, ⟨o, n, "tuple", .inr rfl, ho, hc, hd⟩, hz⟩
                obtain rfl := (show _ = Value.ref pp from ru)
                have vr2 := rr.kx kx md.st.pre
                have keys : xs.map (negK ww) = (xs.map (negK ww)) := rfl
                have isInt : ∀ d, d ∈ xs.map (negK ww) → ∃ n : Int, d = .int n := fun d hd => by
                  obtain ⟨x, hx, rfl⟩ := List.mem_map.mp hd
                  obtain ⟨i, w, _, _, e⟩ := okK_at (List.all_eq_true.mp hok x hx)
                  exact ⟨_, e⟩
                have hal : PySem.W.AllAlike (xs.map (negK ww)) := fun d hd e he => by
                  obtain ⟨n, rfl⟩ := isInt d hd
                  obtain ⟨m, rfl⟩ := isInt e he
                  rfl
                have hsk : PySem.W.Sortable (xs.map (negK ww)) := .inr fun d hd => by
                  obtain ⟨n, rfl⟩ := isInt d hd
                  exact ⟨(fun z => by cases z), (fun _ z => by cases z)⟩
                refine So.sorted_key_col (R := fun v x => ∃ u, RelV u v ∧ VR G μ1 H2 x u) (negK ww) (fun A' _ Q' E' hq => PySem.wpAny_collect_seq pp hT ho hc hd (fun h' k => ?_) (by rw [List.size_toArray, ← rv2.length]; exact hz)) (each_of vr2 rv2) hal hsk (by rw [vr2.length]; exact hz) (fun b hb => ?_) (fun v x ⟨u, ru, vx⟩ hx h tk kp => ?_) fun out a' h1 h' cc tk k1 k hp ha' ho => ?_
                · exact hq h' s2.toks k
                · obtain ⟨n, e⟩ := isInt _ (List.mem_map.mpr ⟨b, hb, rfl⟩)
                  rw [e]
                  show _ + 2 + 0 < _
                  omega
                · obtain ⟨i, w, rfl, ew, en⟩ := okK_at (List.all_eq_true.mp hok _ hx)
                  cases vx
                  obtain ⟨t, rfl⟩ := ru
                  rw [en]
                  have I3 := I2.kept (t' := tk) kp
                  obtain ⟨uz, ez, vz⟩ := vrs_at vw ew
                  cases vz
                  have cs := NdefX.cells_of I3 (NdefX.Caps.made (fr := [hn]) (js := [j]) I3.ok (NdefX.ndef_free L.nf) (NdefX.ndef_fr L.nf) L.js)
                  rw [show [j].map (NdefX.slotAt σ) = [some (.ref aa)] from by rw [List.map_cons, NdefX.slotAt_of hσ]; rfl] at cs
                  have sb : Sub X 1 X.A.in1.in1 := Sub.in1 (sub_in1 hr)
                  have e0 : Env0 X.prog X.w X.K X.mg X.base X.A.in1.in1 X.stack { s2 with heap := h, toks := tk } H2 := by
                    have e := I3.env0
                    exact ⟨by rw [sb.fr]; exact e.frames, e.mod, e.bs, e.bsz, e.funs, e.frf, e.hok, e.bare⟩
                  exact key_call (F := lamOf X q params _ scope c0) (a := aa) L.sc (fun pm ctv us hl => L.hb _ _ _ _ _ _ us hl) rfl sb.room e0 md.fn md.cd cs (md.keep _ _ ea (fun _ z => by cases z)) hf.cl hf.no el (by rw [hK]; exact sqT_kx kx tq) ez d1 c1 d2 c2 hbase
                · obtain ⟨us2, v1, v2⟩ := of_each ho
                  have I3 := I2.kept (t' := s2.toks) k1
                  have fresh : H2 a' = none := I3.hok.fresh hp
                  have lo : us2.length ≤ sizeLine := by
                    rw [← v2.length, List.length_mergeSort, vr2.length]; exact hz
                  refine ⟨.ref a', upd H2 a' (.lst us2), I3.laid (t' := tk) k hp ⟨lo, out, cc, v1, ha'⟩, rfl, ?_⟩
                  exact o1 μ1 _ (md.st.trans (Step.made fresh)) (md.sr.ext (ext_upd fresh)) _ (by rw [msrt_eq]; exact (mn_lst fresh (np_of md.sr.there fresh) v2).back md.st md.sr)
            · exact False.elim o1
          · exact False.elim o1
        · exact False.elim o1
end
end KL

set_option Elab.async false
set_option linter.all false
set_option maxRecDepth 100000
set_option maxHeartbeats 4000000
/-! KTry: try .. except X as e: return .., several clauses. -/
namespace KL
open PySem L2
/-- the ends of a suite whose exception has a name in the slot i -/
def offD (i : Option Nat) (D : Ends) : Ends := match i with
  | none => D
  | some i => { nx := fun σ H => D.nx (σ.set i none) H, rt := D.rt, bk := fun σ H => D.bk (σ.set i none) H, ct := fun σ H => D.ct (σ.set i none) H }
def onE (i : Option Nat) (a : Addr) (σ : St) : St := match i with
  | none => σ
  | some i => σ.set i (some (.ref a))
abbrev Cls3 := Value × Option Nat × (Addr → Value → Option Addr → TS)
/-- what the clauses ask of an exception of the body, one after the other -/
def wAny (K : PySem.W.Frag) (Wout : WX) (D : Ends) : List Cls3 → WX
  | [] => Wout
  | (c, i, ts) :: r => fun cls d σ H => ∃ b, PySem.W.exmOne K cls c = some b ∧ (b = true → ∀ a, H a = none → ts a cls d (offD i D) (onE i a σ) H) ∧ (b = false → wAny K Wout D r cls d σ H)
/-- the name of a clause, and its slot -/
def NmOk (X : Cx) : Option Str → Option Nat → Prop
  | none, none => True
  | some n, some i => X.N[i]? = some n ∧ X.env.kindOf n = some .local
  | _, _ => False
inductive HdsA (X : Cx) : List ExceptHandler → List Cls3 → Prop
  | nil : HdsA X [] []
  | cons {x : Str} {c : Value} {nm : Option Str} {i : Option Nat} {ts : Addr → Value → Option Addr → TS} {b₀ : Stmt} {suite : List Stmt} {np pos' : Pos} {hds : List ExceptHandler} {l : List Cls3} (hc : Names X x c) (hi : NmOk X nm i)
      (hsu : ∀ (a : Addr) (oe : Obj) (cls : Value) (d : Option Addr) (pn : List (Addr × Obj)), Zc cls d oe → (∃ vs, oe.data = .fields vs) → PSs (X.suite a ((a, oe) :: pn)) (b₀ :: suite) (ts a cls d)) (r : HdsA X hds l) :
      HdsA X (.ExceptHandler (some (.Name x np)) nm (b₀ :: suite) pos' :: hds) ((c, i, ts) :: l)
section
variable {X : Cx} {body : List Stmt} {h₀ : ExceptHandler} {hds : List ExceptHandler} {l : List Cls3} {pos : Pos} {tb : WX → TS} {Wout : WX}
theorem ps_try_any (hs : X.stack = X.env :: X.outer) (hf : X.env.frame = some X.env.locals) (hN : X.N.Nodup) (tk : Takes X Wout)
    (hb : ∀ (W : WX) (pn : List (Addr × Obj)) (xe : Value → Shared → Prop), Takes (X.tr pn xe) W → PassesOwn (model X.prog X.w) X.A X.env xe → PSs (X.tr pn xe) body (tb W))
    (hh : HdsA X (h₀ :: hds) l) : PS X (.Try body (h₀ :: hds) [] [] pos) (fun D σ H => tb (wAny X.K Wout D l) D σ H) := by
  refine ⟨fun pins s σ H D I h => ?_⟩
  have ok := I.ok
  have hfr : X.A.frames = some (X.env :: X.outer) := by rw [ok.frames, hs]
  refine wpAny_Try_except (wpAny_mono ((hb (wAny X.K Wout D l) (X.pn ++ pins) (fun e s₁ => wpAny (model X.prog X.w) X.A (noteFrame e X.env) (fun _ s₂ => wpAny (model X.prog X.w) X.A (setFlight e none) (fun _ s₃ =>
    wpAny (model X.prog X.w) X.A (handleBy e X.env (h₀ :: hds)) (SP X pins D) X.xe s₃) X.xe s₂) X.xe s₁) (fun u s' xx => ?_) PassesOwn.looking).run [] s σ H D (I.toTry _) h) (fun f s1 hsp => ?_) (fun e s1 he => he))
  · obtain ⟨a, B, sI, pins', σ', H', cls, d, rfl, J', nb, up, sky, na, os, ag, w⟩ := xx
    have J : Inv X pins σ' H' sI := J'.ofTry ok
    have sky' : Sky B (X.env :: X.outer) a (Zc cls d) X.env.locals s'.heap := by rw [← hs]; exact sky
    show wpAny (model X.prog X.w) X.A (noteFrame (.ref a) X.env) _ _ _
    refine Sky.land Zc.steady hfr hf sky' fun h3 fl3 up3 => ?_
    have J3 : Inv X pins σ' H' { s' with heap := h3 } := J.landed nb fl3.1 (up.trans up3) os ag
    obtain ⟨oe3, vs3, he3, hz3, hd3⟩ := fl3.there
    have nfr : a ∉ frs (X.env :: X.outer) := fun hm => by
      obtain ⟨_, o', e', hnf⟩ := fl3.2.2.1.mem hm
      rw [he3] at e'; cases e'
      exact hnf _ hd3
    have nL : a ≠ X.env.locals := fun z => nfr (List.mem_filterMap.mpr ⟨X.env, List.mem_cons_self, by rw [hf, z]⟩)
    have nF : a ∉ X.fs := fun hm => by
      obtain ⟨e, he, q⟩ := List.mem_filterMap.mp hm
      exact nfr (List.mem_filterMap.mpr ⟨e, List.mem_cons_of_mem _ he, q⟩)
    have S3 := J3.suite he3 hd3 na nL nF
    have go : ∀ {hds' : List ExceptHandler} {l' : List Cls3}, HdsA X hds' l' → wAny X.K Wout D l' cls d σ' H' → wpAny (model X.prog X.w) X.A (handleBy (.ref a) X.env hds') (SP X pins D) X.xe { s' with heap := h3 } := by
      intro hds' l' hk
      induction hk with
      | nil =>
        intro w
        refine wpAny_handleBy_nil ?_
        obtain ⟨k1, k2, k3, oe, vs, T, oT, ts', he, hz, hd, h1, hr⟩ := id fl3
        unfold PySem.passOn
        refine wpAny_bind (wpAny_field he hd h1 ?_)
        rw [if_neg (show ¬ ((Value.ref T == Value.none) = true) from by simp)]
        have fin : wpAny (model X.prog X.w) X.A (setFlight (.ref a) X.env.frame) (fun _ s4 => wpAny (model X.prog X.w) X.A (throw (.ref a) : Sem Flow) (SP X pins D) X.xe s4) X.xe { s' with heap := h3 } := by
          rw [hf]
          refine HandSPX.setFlight_upZ fl3 fun h4 hh4 up4 => wpAny_throw (tk _ _ ?_)
          exact ⟨a, B, sI, pins, σ', H', cls, d, rfl, J, nb, (up.trans up3).trans up4, .inr (.inr (by rw [hs]; exact hh4)), na, os, ag, w⟩
        first
          | exact wpAny_bind (wpAny_pure (wpAny_bind fin))
          | exact wpAny_bind fin
      | @cons x c nm i ts b₀ suite np pos' hds2 l2 hc hi hsu r ih =>
        intro w
        obtain ⟨b, hb1, hyes, hno⟩ := w
        refine wpAny_handleBy_cons (codeAny_handlers_test ?_) (by intro q; cases q)
        have LT : PySem.W.Looks (model X.prog X.w) h3 (typeOf (.ref a)) cls := fun A Q E s k q => wpAny_typeOf_ref (k _ _ he3) (by rw [hz3.1]; exact q)
        have LM := PySem.W.exm_one (M := model X.prog X.w) (J3.kIn) LT hb1
        have test : ∀ {Q : Value → Shared → Prop} {E : Value → Shared → Prop}, Q c { s' with heap := h3 } → wpAny (model X.prog X.w) (X.A.mark (some (.ref a))) (eval (.Name x np) X.env) Q E { s' with heap := h3 } := fun {Q E} q => by
          obtain ⟨hg, hdbg, hm | ⟨hm, hv, hnn⟩⟩ := hc
          · exact ld_glob (X := X.suite a ((a, oe3) :: (X.pn ++ pins))) S3 hg hm q hdbg
          · exact ld_blt (X := X.suite a ((a, oe3) :: (X.pn ++ pins))) S3 hg hm hv q hnn hdbg
        refine test (LM.here ?_)
        cases b with
        | false => exact ih (hno rfl)
        | true =>
          cases nm with
          | none =>
            cases i with
            | some i => exact False.elim hi
            | none =>
              refine codeAny_handlers_suite (HandSPX.lands_againZ fl3 fun h4 fl4 up4 => ?_)
              have J4 : Inv X pins σ' H' { s' with heap := h4 } := J.landed nb fl4.1 ((up.trans up3).trans up4) os ag
              obtain ⟨oe4, vs4, he4, hz4, hd4⟩ := fl4.there
              refine wpAny_mono ((hsu a oe4 cls d (X.pn ++ pins) hz4 ⟨_, hd4⟩).run [] _ _ H' _ (J4.suite he4 hd4 na nL nF) (hyes rfl a na)) (fun f s6 hsp => ?_) (fun _ _ z => False.elim z)
              cases f with
              | ret u => obtain ⟨v6, σ6, H6, S6, r6, q6⟩ := hsp; exact ⟨_, _, _, S6.unsuite ok, r6, q6⟩
              | next => obtain ⟨σ6, H6, S6, q6⟩ := hsp; exact ⟨_, _, S6.unsuite ok, q6⟩
              | brk => obtain ⟨σ6, H6, S6, q6⟩ := hsp; exact ⟨_, _, S6.unsuite ok, q6⟩
              | cont => obtain ⟨σ6, H6, S6, q6⟩ := hsp; exact ⟨_, _, S6.unsuite ok, q6⟩
          | some n =>
            cases i with
            | none => exact False.elim hi
            | some i =>
              obtain ⟨hi, hln⟩ := hi
              refine codeAny_handlers_suite_as (HandSPX.lands_againZ fl3 fun h4 fl4 up4 => ?_)
              have J4 : Inv X pins σ' H' { s' with heap := h4 } := J.landed nb fl4.1 ((up.trans up3).trans up4) os ag
              obtain ⟨oe4, vs4, he4, hz4, hd4⟩ := fl4.there
              refine store_ok (X := X.suite a ((a, oe4) :: (X.pn ++ pins))) (v := .ref a) (J4.suite he4 hd4 na nL nF) hN hi (.inl hln) rfl (fun s5 S5 => ?_) (.inr hln)
              refine wpAny_mono ((hsu a oe4 cls d (X.pn ++ pins) hz4 ⟨_, hd4⟩).run [] s5 _ H' _ S5 (hyes rfl a na)) (fun f s6 hsp => ?_) (fun _ _ z => False.elim z)
              have end_ : ∀ {σ6 : St} {H6 : Hp} {Q : Shared → Prop}, Inv (X.suite a ((a, oe4) :: (X.pn ++ pins))) [] σ6 H6 s6 → (∀ s7, Inv X pins (σ6.set i none) H6 s7 → Q s7) →
                  wpAny (model X.prog X.w) X.A (do bindName X.env n .none; unbindBehindTheSuite X.env n pos') (fun _ s7 => Q s7) X.xe s6 := fun {σ6 H6 Q} S6 hq => gone_ok (S6.unsuite ok) hN hi hln hq
              cases f with
              | ret u => obtain ⟨v6, σ6, H6, S6, r6, q6⟩ := hsp; exact end_ S6 fun s7 J7 => ⟨_, _, _, J7, r6, q6⟩
              | next => obtain ⟨σ6, H6, S6, q6⟩ := hsp; exact end_ S6 fun s7 J7 => ⟨_, _, J7, q6⟩
              | brk => obtain ⟨σ6, H6, S6, q6⟩ := hsp; exact end_ S6 fun s7 J7 => ⟨_, _, J7, q6⟩
              | cont => obtain ⟨σ6, H6, S6, q6⟩ := hsp; exact end_ S6 fun s7 J7 => ⟨_, _, J7, q6⟩
    exact go hh w
  · cases f with
    | next => obtain ⟨σ', H', J', q⟩ := hsp; exact wpAny_execs_nil ⟨σ', H', J'.ofTry ok, q⟩
    | brk => obtain ⟨σ', H', J', q⟩ := hsp; exact ⟨σ', H', J'.ofTry ok, q⟩
    | cont => obtain ⟨σ', H', J', q⟩ := hsp; exact ⟨σ', H', J'.ofTry ok, q⟩
    | ret u => obtain ⟨v, σ', H', J', r, q⟩ := hsp; exact ⟨v, σ', H', J'.ofTry ok, r, q⟩
end
end KL
namespace KL
open PySem L2
/-- .. and of an exception that is handled: its class and its fields stand in the slot -/
def excN (N : Fns) (a : Addr) (cls : Value) (d : Option Addr) : Fns where
  pd := N.pd
  pdx := N.pdx
  cl := fun G k r u μ H => (1000 ≤ k → u = .ref a ∧ cls = .ref (G.cm (k - 1000)) ∧ ∃ xs : List Val, r = xs.map .pl ∧ ((G.cf (k - 1000) = [] ∧ xs = [] ∧ d = none) ∨ ∃ dd fs, d = some dd ∧ H dd = some (.xd fs) ∧ fs.map (·.1) = G.cf (k - 1000) ∧ VRs G μ H xs (fs.map (·.2)))) ∧ (k < 1000 → N.cl G k r u μ H)
  clx := fun G k r u μ H μ' H' kx p ⟨h1, h2⟩ => ⟨fun hk => by
    obtain ⟨e1, e2, xs, e3, e4⟩ := h1 hk
    refine ⟨e1, e2, xs, e3, e4.imp id fun ⟨dd, fs, f1, f2, f3, f4⟩ => ⟨dd, fs, f1, kx _ _ f2 rfl, f3, f4.kx kx p⟩⟩, fun hk => N.clx G k r u μ H μ' H' kx p (h2 hk)⟩
/-- a clause: which classes it takes, the slot of its name, what it returns -/
abbrev Hdl := List (Nat × Bool) × Option Nat × E Val
def bindE (i : Option Nat) (c : Nat) (xs : List Val) (ρ : Env) : Env := match i with
  | none => ρ
  | some i => ρ.set i (.cl (1000 + c) (xs.map .pl))
def noE : Slot → Bool
  | .cl k _ => decide (k < 1000)
  | _ => true
def handle : List Hdl → Nat → List Val → C
  | [], c, xs => fun ρ S => .er (.obj c xs) ρ S
  | (t, i, h) :: r, c, xs => fun ρ S => match t.lookup c with
    | some true => if ρ.all noE then (h (bindE i c xs ρ) S).ne.stm ρ fun v S1 => .go (.rt v) ρ S1 else .sk
    | some false => handle r c xs ρ S
    | none => .sk
def sTry (b : C) (hs : List Hdl) : C := fun ρ S => match b ρ S with
  | .er e ρ1 S1 => match e with
    | .obj c xs => handle hs c xs ρ1 S1
    | _ => .sk
  | .go f ρ1 S1 => .go f ρ1 S1
  | .sk => .sk
section
variable {G : GP} {N : Fns} {W : WX} {X : Cx} {ex μ0 μ μ' : List Addr} {H0 H H' : Hp} {σ : St} {ρ : Env} {S S' : Store}
inductive HdR (X : Cx) (G : GP) (N : Fns) : List ExceptHandler → List Hdl → Prop
  | nil : HdR X G N [] []
  | cons {x : Str} {c : Value} {nm : Option Str} {t : List (Nat × Bool)} {i : Option Nat} {e : Expr} {h : E Val} {np rp pos' : Pos} {hds : List ExceptHandler} {l : List Hdl} (hc : Names X x c) (hm : ∀ d b, t.lookup d = some b → PySem.W.exmOne X.K (.ref (G.cm d)) c = some b) (hi : NmOk X nm i)
      (he : ∀ (a : Addr) (oe : Obj) (cls : Value) (d : Option Addr) (pn : List (Addr × Obj)), Zc cls d oe → (∃ vs, oe.data = .fields vs) → PE (X.suite a ((a, oe) :: pn)) e (tE G (excN N a cls d) W0 (MF G) h)) (r : HdR X G N hds l) :
      HdR X G N (.ExceptHandler (some (.Name x np)) nm [.Return (some e) rp] pos' :: hds) ((t, i, h) :: l)
theorem HdR.any {hds : List ExceptHandler} {l : List Hdl} (h : HdR X G N hds l) : ∃ cs : List Value, cs.length = l.length ∧ HdsA X hds ((cs.zip l).map fun p => (p.1, p.2.2.1, fun a cls d D σ H => tE G (excN N a cls d) W0 (MF G) p.2.2.2 σ H D.rt)) ∧
    ∀ (j : Nat) (c : Value) (y : Hdl), cs[j]? = some c → l[j]? = some y → ∀ d b, y.1.lookup d = some b → PySem.W.exmOne X.K (.ref (G.cm d)) c = some b := by
  induction h with
  | nil => exact ⟨[], rfl, .nil, fun j c y h => by simp at h⟩
  | @cons x c nm t i e h np rp pos' hds l hc hm hi he r ih =>
    obtain ⟨cs, h1, h2, h3⟩ := ih
    refine ⟨c :: cs, by simp [h1], .cons hc hi (fun a oe cls d pn hz hf => pss_one (ps_ret (he a oe cls d pn hz hf))) h2, fun j c' y e1 e2 => ?_⟩
    cases j with
    | zero => simp at e1 e2; subst e1 e2; exact hm
    | succ j => exact h3 j c' y (by simpa using e1) (by simpa using e2)
theorem ER.obj {cls : Value} {d : Option Addr} {e : Val} (h : ER G μ H cls d e) : ∃ c xs, e = .obj c xs ∧ cls = .ref (G.cm c) ∧ ((G.cf c = [] ∧ xs = [] ∧ d = none) ∨ ∃ dd fs, d = some dd ∧ H dd = some (.xd fs) ∧ fs.map (·.1) = G.cf c ∧ VRs G μ H xs (fs.map (·.2))) := by
  cases h with
  | own h1 h2 h3 => exact ⟨_, _, rfl, rfl, .inr ⟨_, _, rfl, h1, h2, h3⟩⟩
  | bare h => exact ⟨_, _, rfl, rfl, .inl ⟨h, rfl, rfl⟩⟩
theorem Rel.exc {a : Addr} {cls : Value} {d : Option Addr} {c : Nat} {xs : List Val} {i : Option Nat} (R : Rel G N μ σ H ρ S) (hn : ρ.all noE = true) (e1 : cls = .ref (G.cm c)) (e2 : (G.cf c = [] ∧ xs = [] ∧ d = none) ∨ ∃ dd fs, d = some dd ∧ H dd = some (.xd fs) ∧ fs.map (·.1) = G.cf c ∧ VRs G μ H xs (fs.map (·.2))) :
    Rel G (excN N a cls d) μ (onE i a σ) H (bindE i c xs ρ) S := by
  have base : ∀ (j : Nat) (s : Slot) (o : Option V), ρ[j]? = some s → σ[j]? = some o → SR G N.pd ((excN N a cls d).cl G) μ H s o := fun j s o h1 h2 => by
    have q := R.at_ j s o h1 h2
    cases s with
    | cl k r =>
      have hk := List.all_eq_true.mp hn _ (List.mem_of_getElem? h1)
      have hk : k < 1000 := of_decide_eq_true hk
      obtain ⟨u, e, v⟩ := q
      exact ⟨u, e, fun z => absurd z (by omega), fun _ => v⟩
    | un => exact q
    | pl x => exact q
    | ow x => exact q
    | ob c x => exact q
    | pd k => exact q
  cases i with
  | none => exact ⟨R.len, base, R.own, R.st⟩
  | some i =>
    refine ⟨by simpa [bindE, onE] using R.len, fun j s o h1 h2 => ?_, fun j k xs' ys p h1 h2 h3 h4 => ?_, R.st⟩
    · rcases set_get h1 with ⟨rfl, rfl⟩ | ⟨n1, h1⟩
      · rcases set_get h2 with ⟨_, rfl⟩ | ⟨n2, _⟩
        · exact ⟨_, rfl, fun _ => ⟨rfl, by rw [Nat.add_sub_cancel_left]; exact e1, xs, rfl, by rw [Nat.add_sub_cancel_left]; exact e2⟩, fun z => absurd z (by omega)⟩
        · exact absurd rfl n2
      · rcases set_get h2 with ⟨n2, _⟩ | ⟨_, h2⟩
        · exact absurd n2 n1
        · exact base j s o h1 h2
    · rcases set_get h1 with ⟨_, e⟩ | ⟨n1, h1⟩
      · cases e
      · rcases set_get h2 with ⟨_, e⟩ | ⟨n2, h2⟩
        · cases e
        · rcases set_get h3 with ⟨e, _⟩ | ⟨_, h3⟩
          · exact absurd e n1
          · rcases set_get h4 with ⟨e, _⟩ | ⟨_, h4⟩
            · exact absurd e n2
            · exact R.own j k xs' ys p h1 h2 h3 h4
theorem handle_ok {D : Ends} {c : Nat} {xs : List Val} {cls : Value} {d : Option Addr} (R : RelS G N ex μ0 H0 μ σ H ρ S) (er : ER G μ H cls d (.obj c xs)) (e1 : cls = .ref (G.cm c)) (e2 : (G.cf c = [] ∧ xs = [] ∧ d = none) ∨ ∃ dd fs, d = some dd ∧ H dd = some (.xd fs) ∧ fs.map (·.1) = G.cf c ∧ VRs G μ H xs (fs.map (·.2))) :
    ∀ {l : List Hdl} {cs : List Value}, cs.length = l.length → (∀ (j : Nat) (c : Value) (y : Hdl), cs[j]? = some c → l[j]? = some y → ∀ d b, y.1.lookup d = some b → PySem.W.exmOne X.K (.ref (G.cm d)) c = some b) →
      OutS G N W ex μ0 H0 μ H D (handle l c xs ρ S) → wAny X.K W D ((cs.zip l).map fun p => (p.1, p.2.2.1, fun a cls d D σ H => tE G (excN N a cls d) W0 (MF G) p.2.2.2 σ H D.rt)) cls d σ H
  | [], cs, _, _, o => by
    have : cs.zip ([] : List Hdl) = [] := by simp
    rw [this]
    exact o cls d μ σ H R Kp.refl er
  | (t, i, h) :: l, [], hl, _, _ => by simp at hl
  | (t, i, h) :: l, v :: cs, hl, hm, o => by
    rw [List.zip_cons_cons, List.map_cons]
    have h0 := hm 0 v (t, i, h) rfl rfl
    have ih := handle_ok (D := D) R er e1 e2 (l := l) (cs := cs) (by simpa using hl) fun j c y a b => hm (j + 1) c y (by simpa using a) (by simpa using b)
    unfold handle at o
    cases ht : t.lookup c with
    | none => rw [ht] at o; exact False.elim o
    | some b =>
      rw [ht] at o
      have hx := h0 c b ht
      rw [← e1] at hx
      cases b with
      | false => exact ⟨false, hx, (fun z => by cases z), fun _ => ih o⟩
      | true =>
        refine ⟨true, hx, fun _ a ha => ?_, (fun z => by cases z)⟩
        have o : OutS G N W ex μ0 H0 μ H D (if ρ.all noE then (h (bindE i c xs ρ) S).ne.stm ρ fun v S1 => .go (.rt v) ρ S1 else .sk) := o
        split at o
        · rename_i hn
          refine ⟨bindE i c xs ρ, S, μ, R.rel.exc hn e1 e2, ?_⟩
          have rt : (offD i D).rt = D.rt := by cases i <;> rfl
          rw [rt]
          show Out G W0 _ μ H (h (bindE i c xs ρ) S) _
          cases q : h (bindE i c xs ρ) S with
          | sk => rw [q] at o; exact o
          | er e S1 => rw [q] at o; exact False.elim o
          | ok v S1 =>
            rw [q] at o
            exact fun μ' H' st sr u hu => o μ' σ H' (R.step st sr) (st.kp R.rel.st) u hu
        · exact False.elim o
theorem fs_try {body : List Stmt} {h₀ : ExceptHandler} {hds : List ExceptHandler} {l : List Hdl} {pos : Pos} {mb : C} (hs : X.stack = X.env :: X.outer) (hf : X.env.frame = some X.env.locals) (hN : X.N.Nodup) (tk : Takes X W)
    (hb : ∀ (W' : WX) (pn : List (Addr × Obj)) (xe : Value → Shared → Prop), Takes (X.tr pn xe) W' → PassesOwn (model X.prog X.w) X.A X.env xe → PSs (X.tr pn xe) body (tS G N W' ex μ0 H0 mb))
    (hh : HdR X G N (h₀ :: hds) l) : PS X (.Try body (h₀ :: hds) [] [] pos) (tS G N W ex μ0 H0 (sTry mb l)) := by
  obtain ⟨cs, h1, h2, h3⟩ := hh.any
  refine ps_imp (ps_try_any (tb := fun W' => tS G N W' ex μ0 H0 mb) hs hf hN tk hb h2) fun D σ H ⟨ρ, S, μ, R, o⟩ => ⟨ρ, S, μ, R, ?_⟩
  unfold sTry at o
  cases q : mb ρ S with
  | sk => rw [q] at o; exact o
  | go f ρ1 S1 => rw [q] at o; exact o
  | er e ρ1 S1 =>
    rw [q] at o
    intro cls d μ' σ' H' R' k er
    obtain ⟨c, xs, rfl, e1, e2⟩ := er.obj
    exact handle_ok R' er e1 e2 h1 h3 (OutS.kx (r := handle l c xs ρ1 S1) o k)
/-- e.f of the exception in the slot i, its class one of these -/
def cXf (cs : List Nat) (i : Nat) : E Val := fun ρ S => match ρ[i]? with
  | some (.cl q [.pl v]) => if 1000 ≤ q ∧ (q - 1000) ∈ cs then .ok v S else .sk
  | _ => .sk
theorem fe_xf {cs : List Nat} (i : Nat) {a : Addr} {oe : Obj} {cls : Value} {d : Option Addr} {pn : List (Addr × Obj)} {p pos : Pos} {f x : Str} {W' : WX} (T : ∀ c, c ∈ cs → XfC X.K (G.cm c) ∧ PySem.W.findIn X.K (.ref (G.cm c)) f = some none ∧ G.cf c = [f]) (hz : Zc cls d oe) (hf : ∃ vs, oe.data = .fields vs)
    (hN : X.N[i]? = some x := by rfl) (hv : Vis X.env.scope x := by first | exact Or.inl rfl | exact Or.inr (Or.inl rfl) | exact Or.inr (Or.inr rfl)) (hd : (x == ("__debug__" : Str)) = false := by decide) (hcd : (x == ("__classdict__" : Str)) = false := by decide) (hb : attributeBase (.Name x p) f X.env (eval (.Name x p) X.env) = eval (.Name x p) X.env := by rfl) :
    PE (X.suite a ((a, oe) :: pn)) (.Attribute (.Name x p) f pos) (tE G (excN N a cls d) W' (MF G) (cXf cs i)) := by
  refine ⟨fun pins s σ H Q I ⟨ρ, S, μ, R, o⟩ => ?_⟩
  unfold cXf at o
  split at o
  · rename_i q v hi
    split at o
    · rename_i hq
      obtain ⟨hq, hc⟩ := hq
      obtain ⟨t1, t2, t3⟩ := T _ hc
      obtain ⟨u, e1, u', e2, k1, k2⟩ := R.slot hi
      obtain ⟨eu, ec, xs, ex, k3⟩ := k1 hq
      subst e2
      cases xs with
      | nil => cases ex
      | cons y ys =>
        cases ys with
        | cons _ _ => cases ex
        | nil =>
          rw [List.map_cons, List.map_nil] at ex
          cases ex
          rcases k3 with ⟨z, _⟩ | ⟨dd, fs, ed, ha, hn, vr⟩
          · rw [t3] at z; cases z
          · rw [t3] at hn
            cases fs with
            | nil => cases hn
            | cons g gs =>
              cases gs with
              | cons _ _ => cases hn
              | nil =>
                obtain ⟨n, w⟩ := g
                have hn' : n = f := by simpa using hn
                subst hn'
                cases vr with
                | cons vr _ =>
                  refine (pe_xf (X := X) (pos := pos) t1 t2 hz hf (pe_var (X := X.suite a ((a, oe) :: pn)) (i := i) hN hv hd hcd) hb).run pins s σ H Q I ⟨.ref a, by rw [e1, eu], rfl, ec, dd, _, w, ed, ha, by simp [List.lookup], ?_⟩
                  exact o.ok R.st w vr
    · exact False.elim o
  · exact False.elim o
/-- isinstance(e, C) of the exception in the slot i -/
def cXis (t : List (Nat × Bool)) (i : Nat) : E Val := fun ρ S => match ρ[i]? with
  | some (.cl q _) => if 1000 ≤ q then match t.lookup (q - 1000) with
    | some b => .ok (.bl b) S
    | none => .sk else .sk
  | _ => .sk
/-- what is asked of an exception's class for isinstance -/
structure ExcI (K : PySem.W.Frag) (C : Addr) : Prop where
  xf : XfC K C
  cl : (PySem.W.clsIn K C).isSome = true
  ha : PySem.W.findIn K (.ref C) "__class__" = some (some (.builtin "object.__class__"))
  hn : PySem.W.specialIn K (.builtin "object.__class__") "__get__" = some (some (.builtin "getset_descriptor.__get__"))
  ht : PySem.W.takesIn K (.builtin "object.__class__") = some true
  hm : PySem.W.mroIn K C (.type "object") = some true
/-- a class that stands as a name: an own one, a built-in one -/
def ClsV (cu : V) (cv : Value) : Prop := RelV cu cv ∧ ∀ u, RelV cu u → u = cv
theorem fe_xis {t : List (Nat × Bool)} (i : Nat) {a : Addr} {oe : Obj} {cls cv : Value} {cu : V} {d : Option Addr} {pn : List (Addr × Obj)} {p p1 p2 pos : Pos} {x y : Str} {W' : WX} (T : ∀ c b, t.lookup c = some b → ExcI X.K (G.cm c) ∧ PySem.W.kitOne X.K (.ref (G.cm c)) cv = some b) (hz : Zc cls d oe) (hf : ∃ vs, oe.data = .fields vs)
    (hg : Gl X "isinstance") (hm : X.mg "isinstance" = none) (hcv : ∀ u, RelV cu u → u = cv) (hy : PE (X.suite a ((a, oe) :: pn)) (.Name y p2) (tC cu))
    (hN : X.N[i]? = some x := by rfl) (hv : Vis X.env.scope x := by first | exact Or.inl rfl | exact Or.inr (Or.inl rfl) | exact Or.inr (Or.inr rfl)) (hd : (x == ("__debug__" : Str)) = false := by decide) (hcd : (x == ("__classdict__" : Str)) = false := by decide)
    (hs1 : starEach [.Name x p1, .Name y p2] X.env = (false, eval (.Name x p1) X.env) :: starEach [.Name y p2] X.env := by rfl) (hs2 : starEach [.Name y p2] X.env = (false, eval (.Name y p2) X.env) :: starEach [] X.env := by rfl) (hpl : (backTo pos (starEach [.Name y p2] X.env)).any (·.1) = false := by rfl) :
    PE (X.suite a ((a, oe) :: pn)) (.Call (.Name "isinstance" p) [.Name x p1, .Name y p2] [] pos) (tE G (excN N a cls d) W' (MN G) (cXis t i)) := by
  refine ⟨fun pins s σ H Q I ⟨ρ, S, μ, R, o⟩ => ?_⟩
  unfold cXis at o
  split at o
  · rename_i q r hi
    split at o
    · rename_i hq
      split at o
      · rename_i b hl
        obtain ⟨t1, t2⟩ := T _ _ hl
        obtain ⟨u, e1, u', e2, k1, k2⟩ := R.slot hi
        obtain ⟨eu, ec, xs, ex, k3⟩ := k1 hq
        subst e2
        have cr : CallR (X.suite a ((a, oe) :: pn)) (.builtin "isinstance") (fun us H2 Q2 => us = [.ref a, cu] ∧ H2 = H ∧ Q2 (.bl b) H) := by
          intro pins' s' σ' H2 us vs Q2 Iz r h
          obtain ⟨rfl, rfl, q2⟩ := h
          cases r with
          | cons rx rr =>
            cases rr with
            | cons ry rr =>
              cases rr
              obtain rfl := (show _ = Value.ref a from rx)
              obtain rfl := hcv _ ry
              obtain ⟨hget, _⟩ := Iz.pin (a, oe) (List.mem_append.mpr (.inl List.mem_cons_self))
              obtain ⟨vs, hv⟩ := hf
              have J : ∃ od, PySem.W.InstAt s'.heap a oe (G.cm (q - 1000)) od := by
                obtain ⟨h1, h2⟩ := hz
                rw [ec] at h1
                rcases k3 with z | ⟨dd, fs, ed, ha, hn, vr⟩
                · exact ⟨none, hget, h1, by unfold PySem.W.notCls; rw [hv], by rw [h2, z.2.2]; trivial⟩
                · subst ed
                  obtain ⟨mA, hns, _⟩ : ObjOk X.prog X.w H2 s'.heap dd (.xd fs) := Iz.hok dd _ ha
                  obtain ⟨od, ho, _⟩ := lookIn_ns hns
                  exact ⟨some od, hget, h1, by unfold PySem.W.notCls; rw [hv], by rw [h2]; exact ho⟩
              obtain ⟨od, J⟩ := J
              exact PySem.W.kia_one (PySem.W.kitx_exc t1.cl t1.xf.ga t1.xf.gg t1.xf.exC t1.ha t1.hn t1.ht t1.hm) Iz.kIn J t2 (fun z => nomatch z) fun tk => ⟨.bl b, H2, Iz.kept (t' := tk) fun _ _ z => z, rfl, q2⟩
        refine (pe_callB (X := X.suite a ((a, oe) :: pn)) cr hg hm PyProof.Rows.boot_isinstance (pa_cons (pe_var (X := X.suite a ((a, oe) :: pn)) (i := i) hN hv hd hcd) (pa_cons hy pa_nil hs2) hs1) (by decide) (by decide) hs1 hpl).run pins s σ H Q I ?_
        exact ⟨.ref a, by rw [e1, eu], rfl, rfl, o.ok R.st _ (mn_bl _)⟩
      · exact False.elim o
    · exact False.elim o
  · exact False.elim o
end
end KL

set_option Elab.async false
set_option linter.all false
set_option maxRecDepth 100000
set_option maxHeartbeats 4000000
/-! KStat: C.m(..) of a static method, [..].count(x). -/
namespace KL
open PySem L2
/-- a static method m of C is the function f -/
structure StatC (K : PySem.W.Frag) (C : Addr) (m : Str) (f : Addr) : Prop where
  ga : PySem.W.specialIn K (.ref C) "__getattribute__" = some (some (.builtin "type.__getattribute__"))
  ty : PySem.W.typeIn K (.ref C) = some (.type "type")
  rd : PySem.W.readsIn K C (.type "type") = true
  fc : ∃ p rest, PySem.W.findCls K (.ref C) (.type "type") m = some (.get (.builtin "staticmethod.__get__") (.ref p) .none (.ref C)) ∧ PySem.W.recIn K p "staticmethod" = some (.ref f :: rest)
  kp : PySem.W.keepIn K (.ref f) = true
section
variable {G : GP} {N : Fns} {W : WX} {X : Cx} {μ : List Addr} {H : Hp} {σ : St} {ρ : Env} {S : Store} {f C : Addr} {g : F} {x m : Str} {p apos pos : Pos} {e : Expr} {es : List Expr} {ms : E (List Val)}
theorem fe_stat {pl : Sem Bool} (c : CalF X G W (.ref f) g) (hg : Gl X x) (hm : X.mg x = some (.ref C)) (sc : StatC X.K C m f) (ha : PA X (e :: es) (tA G N W (MFs G) ms)) (hdb : (x == ("__debug__" : Str)) = false := by decide)
    (he : starEach (e :: es) X.env = (false, eval e X.env) :: starEach es X.env := by rfl) (hpl : (backTo pos (starEach es X.env)).any (·.1) = false := by rfl)
    (ht : eval (.Call (.Attribute (.Name x p) m apos) (e :: es) [] pos) X.env = (do
      let ov ← eval (.Name x p) X.env
      standAt apos.atName
      let (f, first) ← holding [ov] (getMethod ov m pl)
      callWith pos f first (backTo pos (starEach (e :: es) X.env)) (backToKw pos (keywordEach [] X.env))) := by rfl) : PE X (.Call (.Attribute (.Name x p) m apos) (e :: es) [] pos) (tE G N W (MF G) (cCall g ms)) := by
  refine ⟨fun pins s σ H Q I h => ?_⟩
  obtain ⟨pa, rest, h1, h2⟩ := sc.fc
  refine PySem.W.methodCall_KW (pl := pl) (ld_glob I hg hm ?_ hdb) ht
  obtain ⟨m', F⟩ := I.fr
  refine PySem.W.method_of_cls F I.ok.mod.kin sc.ga (PySem.W.cls_sm F I.ok.mod.kin sc.ty sc.rd h1 h2 rfl ?_)
  have I' : Inv X pins σ H { s with toks := s.toks + 1 } := I.tok _
  refine PySem.W.callWith_K (h₀ := X.base) I.ok.mod.kin sc.kp (thn (ha.run pos pins _ σ H _ I' (call_imp h)) fun us s1 ⟨vs, H1, I1, r, q⟩ => ⟨I1.kIn, ?_⟩) he hpl
  exact c pins s1 σ H1 us vs Q I1 r q
/-! ### xs.count(y), xs.index(y) of a list -/
/-- x is a list -/
def lsL (K : PySem.W.Frag) (x : V) (H : Hp) : Prop := ∃ p us, x = .ref p ∧ SqL K H p us
theorem ty_lsL : TyOk X "list" (lsL X.K) := fun pins σ H s x v I r ⟨p, us, e, h⟩ => by
  subst e; cases r
  obtain ⟨its, rv, ⟨o, n, ho, hc, hdn, hd⟩, _⟩ := I.list h
  exact ⟨⟨o, ho, hc⟩, fun a e => by cases e; exact ⟨o, ho, hdn⟩⟩
theorem RB.lstp {xs : List Val} {u : V} (h : RB G μ H (.lst xs) u) : ∃ p vs, u = .ref p ∧ SqL G.K H p vs ∧ VRs G μ H xs vs := by
  rcases h with h | ⟨p, ys, us, e, rfl, hp, _, r⟩
  · cases h with
    | lst h r => exact ⟨_, _, rfl, .inl (.inr ⟨_, h⟩), r⟩
  · cases e; exact ⟨_, _, rfl, .inl (.inl hp), r⟩
def cntV (xs : List Val) (y : Val) : Option Val := match toDs xs, y.toD with
  | some ds, some d => if (PyData.plainAll ds && d.plain && decide (d.depth ≤ 60)) = true then some (.int ((ds.countP fun z => PyData.eqv z d : Nat) : Int)) else none
  | _, _ => none
/-- xs.count(y) -/
def cCnt (a b : E Val) : E Val := fun ρ S => (a ρ S).bind fun x S1 => match x with
  | .lst xs => (b ρ S1).bind fun y S2 => R.of (cntV xs y) S2
  | _ => .sk
def rCnt (G : GP) : V → List V → Hp → VK → Prop := fun x us H Q => ∃ μ xs p vs y u n, x = .ref p ∧ us = [u] ∧ SqL G.K H p vs ∧ VRs G μ H xs vs ∧ VR G μ H y u ∧ cntV xs y = some (.int n) ∧ Q (.int n) H
theorem cntV_int {xs : List Val} {y z : Val} (h : cntV xs y = some z) : ∃ n, z = .int n := by
  unfold cntV at h
  split at h
  · split at h
    · cases h; exact ⟨_, rfl⟩
    · cases h
  · cases h
theorem mt_cnt (hK : X.K = G.K) (hu : X.A.units + 64 < cLine) : MtR X "list.count" (rCnt G) := by
  intro pins s σ H x us v vs Q I rx rv ⟨μ, xs, p, ws, y, u, n, ex, eu, hp, rr, ry, e, q⟩
  subst ex eu
  cases rx
  cases rv with
  | cons r1 rr1 =>
    cases rr1
    unfold cntV at e
    split at e
    · rename_i ds d e1 e2
      split at e
      · rename_i hc
        simp only [Bool.and_eq_true, decide_eq_true_eq] at hc
        obtain ⟨⟨h1, h2⟩, h3⟩ := hc
        cases e
        obtain ⟨its, rv, ⟨o, k, ho, hcl, hdn, hd⟩, _⟩ := I.list (by rw [hK]; exact hp)
        obtain ⟨as, a1⟩ := rr.reads hK I e1 rv
        obtain ⟨bs, a2⟩ := ry.reads hK I e2 r1
        exact PySem.SeqAt.count_list_data (vs := its.toArray) ⟨o, ho, hcl, k, hd⟩ a1 a2 h1 h2 (by omega) ⟨.int _, H, I.tok _, ⟨_, rfl⟩, q⟩
      · cases e
    · cases e
theorem fe_cnt {o b : Expr} {ma mb : E Val} {cpos : Pos} (hK : X.K = G.K) (hu : X.A.units + 64 < cLine) (ho : PE X o (tE G N W (MB G) ma)) (hb : PE X b (tE G N W (MF G) mb))
    (hbase : attributeBase o "count" X.env (eval o X.env) = eval o X.env := by rfl)
    (hfew : ((backTo cpos (starEach [b] X.env)).all (fun x => !x.1) && (backToKw cpos (keywordEach [] X.env)).all (fun x => x.1.isSome) && decide ([b].length + ([] : List Keyword).length + (if ([] : List Keyword).isEmpty then 0 else 1) < 30)) = true := by rfl)
    (hline : (apos.endLine == cpos.line) = true := by rfl) (hs : starEach [b] X.env = (false, eval b X.env) :: starEach [] X.env := by rfl) (hplain : (backTo cpos (starEach [] X.env)).any (·.1) = false := by rfl) :
    PE X (.Call (.Attribute o "count" apos) [b] [] cpos) (tE G N W (MN G) (cCnt ma mb)) := by
  refine pe_imp (pe_mG ty_lsL F.plainAttrs_list F.slot_list_count F.type_list_count (mt_cnt hK hu) ho (pa_cons hb pa_nil hs) hbase hfew hline hs hplain) fun σ H Q ⟨ρ, S, μ, R, o⟩ => ⟨ρ, S, μ, R, (Out.bind o).mono fun x S1 μ1 H1 st1 sr1 k1 u hu => ?_⟩
  cases x with
  | lst xs =>
    obtain ⟨p, vs, e, h1, _⟩ := hu.lstp
    refine ⟨⟨p, vs, e, by rw [hK]; exact h1⟩, ρ, S1, μ1, R.step st1 sr1, (Out.bind k1).mono fun y S2 μ2 H2 st2 sr2 k2 w hw => ?_⟩
    obtain ⟨p', vs', e', h1', r'⟩ := (hu.step st2 sr1).lstp
    obtain ⟨z, ez, k3⟩ := Out.of k2
    obtain ⟨n, rfl⟩ := cntV_int ez
    exact ⟨μ2, xs, p', vs', y, w, n, e', rfl, h1', r', hw, ez, k3 _ _ Step.refl sr2 _ (mn_int n)⟩
  | _ => exact False.elim k1
/-- the first place of y in xs -/
def idxV (xs : List Val) (y : Val) : Option Val := match asInts xs, y with
  | some ns, .int k => if k ∈ ns then some (.int ((ns.idxOf k : Nat) : Int)) else none
  | _, _ => none
def cIdxL (a b : E Val) : E Val := fun ρ S => (a ρ S).bind fun x S1 => match x with
  | .lst xs => (b ρ S1).bind fun y S2 => R.of (idxV xs y) S2
  | _ => .sk
theorem asInts_toDs : ∀ {xs : List Val} {ns : List Int}, asInts xs = some ns → toDs xs = some (ns.map PyData.int)
  | [], ns, h => by cases h; rfl
  | .int i :: xs, ns, h => by
    have h' : (asInts xs).map (i :: ·) = some ns := h
    cases q : asInts xs with
    | none => rw [q] at h'; cases h'
    | some ms =>
      rw [q] at h'; cases h'
      unfold toDs
      rw [asInts_toDs q]; rfl
  | .non :: _, _, h => by cases h
  | .bl _ :: _, _, h => by cases h
  | .str _ :: _, _, h => by cases h
  | .tup _ :: _, _, h => by cases h
  | .lst _ :: _, _, h => by cases h
  | .arr _ :: _, _, h => by cases h
  | .dic _ :: _, _, h => by cases h
  | .obj _ _ :: _, _, h => by cases h
  | .ref _ :: _, _, h => by cases h
  | .fn _ :: _, _, h => by cases h
theorem idxV_int {xs : List Val} {y z : Val} (h : idxV xs y = some z) : ∃ n, z = .int n := by
  unfold idxV at h
  split at h
  · split at h
    · cases h; exact ⟨_, rfl⟩
    · cases h
  · cases h
def rIdxL (G : GP) : V → List V → Hp → VK → Prop := fun x us H Q => ∃ μ xs p vs y u n, x = .ref p ∧ us = [u] ∧ SqL G.K H p vs ∧ VRs G μ H xs vs ∧ VR G μ H y u ∧ idxV xs y = some (.int n) ∧ Q (.int n) H
theorem mt_idxL (hK : X.K = G.K) (hu : X.A.units + 64 < cLine) : MtR X "list.index" (rIdxL G) := by
  intro pins s σ H x us v vs Q I rx rv ⟨μ, xs, p, ws, y, u, n, ex, eu, hp, rr, ry, e, q⟩
  subst ex eu
  cases rx
  cases rv with
  | cons r1 rr1 =>
    cases rr1
    unfold idxV at e
    split at e
    · rename_i ns k e1
      split at e
      · rename_i hc
        cases e
        obtain ⟨its, rv, ⟨o, m, ho, hcl, hdn, hd⟩, hz⟩ := I.list (by rw [hK]; exact hp)
        obtain ⟨as, a1⟩ := rr.reads hK I (asInts_toDs e1) rv
        obtain ⟨bs, a2⟩ := ry.reads hK I (show (Val.int k).toD = some (.int k) from rfl) r1
        have hl : ns.length ≤ sizeLine := by
          have h1 := rr.length
          have h2 : xs.length = ns.length := by
            rw [KL.asInts_len e1, List.length_map]
          have h3 := rv.length
          omega
        exact PySem.W.index_list_datum (vs := its) ⟨o, ho, hcl, m, hd⟩ ⟨as, a1⟩ ⟨bs, a2⟩ (by show X.A.units + 1 + 0 < cLine; omega) hl hc ⟨.int _, H, I.tok _, ⟨_, rfl⟩, q⟩
      · cases e
    · cases e
theorem fe_idxL {o b : Expr} {ma mb : E Val} {cpos : Pos} (hK : X.K = G.K) (hu : X.A.units + 64 < cLine) (ho : PE X o (tE G N W (MB G) ma)) (hb : PE X b (tE G N W (MF G) mb))
    (hbase : attributeBase o "index" X.env (eval o X.env) = eval o X.env := by rfl)
    (hfew : ((backTo cpos (starEach [b] X.env)).all (fun x => !x.1) && (backToKw cpos (keywordEach [] X.env)).all (fun x => x.1.isSome) && decide ([b].length + ([] : List Keyword).length + (if ([] : List Keyword).isEmpty then 0 else 1) < 30)) = true := by rfl)
    (hline : (apos.endLine == cpos.line) = true := by rfl) (hs : starEach [b] X.env = (false, eval b X.env) :: starEach [] X.env := by rfl) (hplain : (backTo cpos (starEach [] X.env)).any (·.1) = false := by rfl) :
    PE X (.Call (.Attribute o "index" apos) [b] [] cpos) (tE G N W (MN G) (cIdxL ma mb)) := by
  refine pe_imp (pe_mG ty_lsL F.plainAttrs_list F.slot_list_index F.type_list_index (mt_idxL hK hu) ho (pa_cons hb pa_nil hs) hbase hfew hline hs hplain) fun σ H Q ⟨ρ, S, μ, R, o⟩ => ⟨ρ, S, μ, R, (Out.bind o).mono fun x S1 μ1 H1 st1 sr1 k1 u hu => ?_⟩
  cases x with
  | lst xs =>
    obtain ⟨p, vs, e, h1, _⟩ := hu.lstp
    refine ⟨⟨p, vs, e, by rw [hK]; exact h1⟩, ρ, S1, μ1, R.step st1 sr1, (Out.bind k1).mono fun y S2 μ2 H2 st2 sr2 k2 w hw => ?_⟩
    obtain ⟨p', vs', e', h1', r'⟩ := (hu.step st2 sr1).lstp
    obtain ⟨z, ez, k3⟩ := Out.of k2
    obtain ⟨n, rfl⟩ := idxV_int ez
    exact ⟨μ2, xs, p', vs', y, w, n, e', rfl, h1', r', hw, ez, k3 _ _ Step.refl sr2 _ (mn_int n)⟩
  | _ => exact False.elim k1
/-! ### what is never reached: nothing is told -/
def cSk : E Val := fun _ _ => .sk
theorem fe_sk {M : Md} {e : Expr} : PE X e (tE G N W M cSk) := ⟨fun pins s σ H Q I ⟨ρ, S, μ, R, o⟩ => False.elim o⟩
def sSk : KL.C := fun _ _ => .sk
theorem fs_sk {ex μ0 : List Addr} {H0 : Hp} {st : Stmt} : PS X st (tS G N W ex μ0 H0 sSk) := ⟨fun pins s σ H D I ⟨ρ, S, μ, R, o⟩ => False.elim (show False from o)⟩
theorem fss_sk {ex μ0 : List Addr} {H0 : Hp} {st : Stmt} {sts : List Stmt} : PSs X (st :: sts) (tS G N W ex μ0 H0 sSk) := ⟨fun pins s σ H D I ⟨ρ, S, μ, R, o⟩ => False.elim (show False from o)⟩
/-! ### defs of the top as values, called by a name -/
theorem fe_fnv {n : Nat} {a : Addr} (hf : G.fv n = .ref a) (hg : Gl X x) (hm : X.mg x = some (.ref a)) (hdb : (x == ("__debug__" : Str)) = false := by decide) : PE X (.Name x p) (tE G N W (MF G) (cC (.fn n))) :=
  pe_imp (pe_glob (v := .ref a) hg hm rfl hdb) fun σ H Q ⟨ρ, S, μ, R, o⟩ => o μ H Step.refl R.st _ (.fn hf)
def TblF (X : Cx) (G : GP) (W : WX) (tbl : List (Nat × F)) : Prop := ∀ n g, tbl.lookup n = some g → ∃ a, G.fv n = .ref a ∧ CalF X G W (.ref a) g ∧ PySem.W.keepIn X.K (.ref a) = true
theorem tbl_nil : TblF X G W [] := fun n g h => by cases h
theorem tbl_cons {n : Nat} {a : Addr} {tbl : List (Nat × F)} (hf : G.fv n = .ref a) (c : CalF X G W (.ref a) g) (hk : PySem.W.keepIn X.K (.ref a) = true) (r : TblF X G W tbl) : TblF X G W ((n, g) :: tbl) := fun m g' h => by
  rw [List.lookup_cons] at h
  split at h
  · rename_i e
    cases h
    rw [beq_iff_eq.mp e]
    exact ⟨a, hf, c, hk⟩
  · exact r m g' h
def TblK (X : Cx) (G : GP) (W : WX) (np : Nat) (ks : List Str) (tbl : List (Nat × F)) : Prop := ∀ n g, tbl.lookup n = some g → ∃ a, G.fv n = .ref a ∧ CalK X G W (.ref a) np ks g ∧ PySem.W.keepIn X.K (.ref a) = true
theorem tbk_nil {np : Nat} {ks : List Str} : TblK X G W np ks [] := fun n g h => by cases h
theorem tbk_cons {np : Nat} {ks : List Str} {n : Nat} {a : Addr} {tbl : List (Nat × F)} (hf : G.fv n = .ref a) (c : CalK X G W (.ref a) np ks g) (hk : PySem.W.keepIn X.K (.ref a) = true) (r : TblK X G W np ks tbl) : TblK X G W np ks ((n, g) :: tbl) := fun m g' h => by
  rw [List.lookup_cons] at h
  split at h
  · rename_i e
    cases h
    rw [beq_iff_eq.mp e]
    exact ⟨a, hf, c, hk⟩
  · exact r m g' h
def cCallV (tbl : List (Nat × F)) (i : Nat) (ms : E (List Val)) : E Val := fun ρ S => match ρ[i]? with
  | some (.pl (.fn n)) => match tbl.lookup n with
    | some g => cCall g ms ρ S
    | none => .sk
  | _ => .sk
def cCallKV (tbl : List (Nat × F)) (i n m : Nat) (ms mk : E (List Val)) : E Val := fun ρ S => match ρ[i]? with
  | some (.pl (.fn q)) => match tbl.lookup q with
    | some g => cCallK n m g ms mk ρ S
    | none => .sk
  | _ => .sk
theorem fe_callV {tbl : List (Nat × F)} (i : Nat) (T : TblF X G W tbl) (ha : PA X (e :: es) (tA G N W (MFs G) ms)) (hN : X.N[i]? = some x := by rfl) (hv : Vis X.env.scope x := by first | exact Or.inl rfl | exact Or.inr (Or.inl rfl) | exact Or.inr (Or.inr rfl)) (hd : (x == ("__debug__" : Str)) = false := by decide) (hcd : (x == ("__classdict__" : Str)) = false := by decide)
    (he : starEach (e :: es) X.env = (false, eval e X.env) :: starEach es X.env := by rfl) (hpl : (backTo pos (starEach es X.env)).any (·.1) = false := by rfl) : PE X (.Call (.Name x p) (e :: es) [] pos) (tE G N W (MF G) (cCallV tbl i ms)) := by
  refine ⟨fun pins s σ H Q I ⟨ρ, S, μ, R, o⟩ => ?_⟩
  unfold cCallV at o
  split at o
  · rename_i n hi
    split at o
    · rename_i g hgt
      obtain ⟨a, e1, cf, hk⟩ := T n g hgt
      obtain ⟨q, e2, u, rfl, hu⟩ := R.slot hi
      cases hu with
      | fn e3 =>
        rw [e1] at e3; cases e3
        refine wpAny_Call_Name_kw (var_p I hN e2 hv (fun u r => ?_) hd hcd)
        cases r
        refine PySem.W.callWith_K (h₀ := X.base) I.ok.mod.kin hk (thn (ha.run pos pins s σ H _ I (call_imp ⟨ρ, S, μ, R, o⟩)) fun us s1 ⟨vs, H1, I1, r, q⟩ => ⟨I1.kIn, ?_⟩) he hpl
        exact cf pins s1 σ H1 us vs Q I1 r q
    · exact False.elim o
  · exact False.elim o
theorem fe_callKV0 {tbl : List (Nat × F)} {ks : List Str} {kws : List Keyword} {mk : E (List Val)} (i : Nat) (T : TblK X G W 0 ks tbl) (hkw : PK X kws (tA G N W (MFs G) mk)) (hN : X.N[i]? = some x := by rfl) (hv : Vis X.env.scope x := by first | exact Or.inl rfl | exact Or.inr (Or.inl rfl) | exact Or.inr (Or.inr rfl)) (hd : (x == ("__debug__" : Str)) = false := by decide) (hcd : (x == ("__classdict__" : Str)) = false := by decide)
    (hall : (backToKw pos (keywordEach kws X.env)).all (·.1.isSome) = true := by rfl) (hks : (backToKw pos (keywordEach kws X.env)).filterMap (·.1) = ks := by rfl)
    (hpl : ((backTo pos (starEach [] X.env)).any (·.1) || (backToKw pos (keywordEach kws X.env)).any (·.1.isNone)) = false := by rfl) : PE X (.Call (.Name x p) [] kws pos) (tE G N W (MF G) (cCallKV tbl i 0 ks.length cNil mk)) := by
  refine ⟨fun pins s σ H Q I ⟨ρ, S, μ, R, o⟩ => ?_⟩
  unfold cCallKV at o
  split at o
  · rename_i n hi
    split at o
    · rename_i g hgt
      obtain ⟨a, e1, cf, hk⟩ := T n g hgt
      obtain ⟨q, e2, u, rfl, hu⟩ := R.slot hi
      cases hu with
      | fn e3 =>
        rw [e1] at e3; cases e3
        refine wpAny_Call_Name_kw (var_p I hN e2 hv (fun u r => ?_) hd hcd)
        cases r
        refine PySem.W.callWith_KW0 (h₀ := X.base) I.ok.mod.kin hk hall ?_ hpl
        have h2 := callk_imp ⟨ρ, S, μ, R, o⟩
        have h3 : tA G N W (MFs G) mk σ H fun zs H2 => ([] : List V).length = 0 ∧ zs.length = ks.length ∧ ∃ xs S μ, StR G μ H2 S ∧ VRs G μ H2 xs ([] ++ zs) ∧ Out G W σ μ H2 (g xs S) fun v _ μ' H' => ∀ u, VR G μ' H' v u → Q u H' := by
          obtain ⟨ρ, S, μ, R, o⟩ := h2
          exact (Out.ok o R.st) [] .nil
        refine thn (hkw.run pos pins s σ H _ I h3) fun ws s2 ⟨zs, H2, I2, rz, _, l2, q2⟩ => ⟨I2.kIn, ?_⟩
        rw [hks]
        exact cf pins s2 σ H2 [] ws [] zs Q I2 .nil rz rfl (by rw [← rz.length]; exact l2) q2
    · exact False.elim o
  · exact False.elim o
/-! ### methods and static methods by keyword -/
def cMethK (c m : Nat) (g : F) (o : E Val) (b : E (List Val)) : E Val := fun ρ S => (o ρ S).bind fun x S1 => if isOf S1 c x then (b ρ S1).bind fun ys S2 => if ys.length = m then g (x :: ys) S2 else .sk else .sk
theorem fe_methK0 {pl : Sem Bool} {c : Nat} {o : Expr} {mo : E Val} {ks : List Str} {kws : List Keyword} {mk : E (List Val)} (cf : CalK X G W (.ref f) 1 ks g) (hc : Cls X.K (G.cm c)) (hm : Meth X.K (G.cm c) m f) (hn : m ∉ G.cf c) (ho : PE X o (tE G N W (MF G) mo)) (hkw : PK X kws (tA G N W (MFs G) mk))
    (hall : (backToKw pos (keywordEach kws X.env)).all (·.1.isSome) = true := by rfl) (hks : (backToKw pos (keywordEach kws X.env)).filterMap (·.1) = ks := by rfl)
    (hpl : ((backTo pos (starEach [] X.env)).any (·.1) || (backToKw pos (keywordEach kws X.env)).any (·.1.isNone)) = false := by rfl)
    (ht : eval (.Call (.Attribute o m apos) [] kws pos) X.env = (do
      let ov ← eval o X.env
      standAt apos.atName
      let (f, first) ← holding [ov] (getMethod ov m pl)
      callWith pos f first (backTo pos (starEach [] X.env)) (backToKw pos (keywordEach kws X.env))) := by rfl) : PE X (.Call (.Attribute o m apos) [] kws pos) (tE G N W (MF G) (cMethK c ks.length g mo mk)) := by
  refine ⟨fun pins s σ H Q I ⟨ρ, S, μ, R, h⟩ => ?_⟩
  refine PySem.W.methodCall_KW (pl := pl) (thn (ho.run pins s σ H (fun x H1 => ∃ a dx fs, x = .ref a ∧ H1 a = some (.ins (G.cm c) dx fs) ∧ fs.lookup m = none ∧ tA G N W (MFs G) mk σ H1 fun zs H2 => zs.length = ks.length ∧ ∃ xs S μ, StR G μ H2 S ∧ VRs G μ H2 xs ([x] ++ zs) ∧ Out G W σ μ H2 (g xs S) fun v _ μ' H' => ∀ u, VR G μ' H' v u → Q u H') I
    ⟨ρ, S, μ, R, (Out.bind h).mono fun x S1 μ1 H1 st1 sr1 k1 u hu => ?_⟩) fun u s1 ⟨x, H1, I1, rx, a, dx, fs, ex, ea, l, q⟩ => ?_) ht
  · split at k1
    · rename_i hi
      obtain ⟨a, dx, fs, e1, e2, e3⟩ := isOf_at sr1 hu hi
      refine ⟨a, dx, fs, e1, e2, lookup_none (by rw [e3]; exact hn), ρ, S1, μ1, R.step st1 sr1, (Out.bind k1).mono fun xs S2 μ2 H2 st2 sr2 k2 us hus => ?_⟩
      clear k1 h
      split at k2
      · rename_i hl
        exact ⟨by rw [← hus.length]; exact hl, x :: xs, S2, μ2, sr2, .cons (hu.kx (st2.kx sr1) st2.pre) hus, k2⟩
      · exact False.elim k2
    · exact False.elim k1
  · subst ex
    obtain rfl : u = Value.ref a := rx
    refine getmeth_ok I1 ea hc hm l ?_
    refine PySem.W.callWith_KW0 (first := [.ref a]) (h₀ := X.base) I.ok.mod.kin hm.kp hall ?_ hpl
    refine thn (hkw.run pos pins s1 σ H1 _ I1 q) fun ws s2 ⟨zs, H2, I2, rz, l2, q2⟩ => ⟨I2.kIn, ?_⟩
    rw [hks]
    exact cf pins s2 σ H2 [.ref a] ws [.ref a] zs Q I2 (.cons rfl .nil) rz rfl (by rw [← rz.length]; exact l2) q2
theorem fe_statK0 {pl : Sem Bool} {ks : List Str} {kws : List Keyword} {mk : E (List Val)} (c : CalK X G W (.ref f) 0 ks g) (hg : Gl X x) (hm : X.mg x = some (.ref C)) (sc : StatC X.K C m f) (hkw : PK X kws (tA G N W (MFs G) mk)) (hdb : (x == ("__debug__" : Str)) = false := by decide)
    (hall : (backToKw pos (keywordEach kws X.env)).all (·.1.isSome) = true := by rfl) (hks : (backToKw pos (keywordEach kws X.env)).filterMap (·.1) = ks := by rfl)
    (hpl : ((backTo pos (starEach [] X.env)).any (·.1) || (backToKw pos (keywordEach kws X.env)).any (·.1.isNone)) = false := by rfl)
    (ht : eval (.Call (.Attribute (.Name x p) m apos) [] kws pos) X.env = (do
      let ov ← eval (.Name x p) X.env
      standAt apos.atName
      let (f, first) ← holding [ov] (getMethod ov m pl)
      callWith pos f first (backTo pos (starEach [] X.env)) (backToKw pos (keywordEach kws X.env))) := by rfl) : PE X (.Call (.Attribute (.Name x p) m apos) [] kws pos) (tE G N W (MF G) (cCallK 0 ks.length g cNil mk)) := by
  refine ⟨fun pins s σ H Q I h => ?_⟩
  obtain ⟨pa, rest, h1, h2⟩ := sc.fc
  refine PySem.W.methodCall_KW (pl := pl) (ld_glob I hg hm ?_ hdb) ht
  obtain ⟨m', F⟩ := I.fr
  refine PySem.W.method_of_cls F I.ok.mod.kin sc.ga (PySem.W.cls_sm F I.ok.mod.kin sc.ty sc.rd h1 h2 rfl ?_)
  have I' : Inv X pins σ H { s with toks := s.toks + 1 } := I.tok _
  refine PySem.W.callWith_KW0 (h₀ := X.base) I.ok.mod.kin sc.kp hall ?_ hpl
  have h2 := callk_imp h
  have h3 : tA G N W (MFs G) mk σ H fun zs H2 => ([] : List V).length = 0 ∧ zs.length = ks.length ∧ ∃ xs S μ, StR G μ H2 S ∧ VRs G μ H2 xs ([] ++ zs) ∧ Out G W σ μ H2 (g xs S) fun v _ μ' H' => ∀ u, VR G μ' H' v u → Q u H' := by
    obtain ⟨ρ, S, μ, R, o⟩ := h2
    exact (Out.ok o R.st) [] .nil
  refine thn (hkw.run pos pins _ σ H _ I' h3) fun ws s2 ⟨zs, H2, I2, rz, _, l2, q2⟩ => ⟨I2.kIn, ?_⟩
  rw [hks]
  exact c pins s2 σ H2 [] ws [] zs Q I2 .nil rz rfl (by rw [← rz.length]; exact l2) q2
end
end KL

set_option Elab.async false
set_option linter.all false
set_option maxRecDepth 100000
set_option maxHeartbeats 4000000
/-! KComp2: comprehensions of two clauses. -/
namespace KL
open PySem L2
section
variable {G : GP} {N : Fns} {W : WX} {X : Cx} {μ : List Addr} {H : Hp} {σ : St} {ρ : Env} {S : Store} {tg tg1 : Expr} {pos : Pos} {me : E Val} {vs vs1 : List Nat}
def lcG2 (g : Tg) (t : T) (mi1 : E (List Val)) (g1 : Tg) (t1 : T) (e : E Val) (vs1 : List Nat) (ρ : Env) : List Val → Store → List Val → R (List Val)
  | [], S, acc => .ok acc S
  | x :: xs, S, acc => match g x ρ with
    | none => .sk
    | some ρ1 => (t ρ1 S).ne.bind fun b S1 => if b then (mi1 ρ1 S1).ne.bind fun ys S2 => (lcG g1 t1 e (wip ρ1 vs1) ys S2 acc).bind fun acc2 S3 => lcG2 g t mi1 g1 t1 e vs1 ρ xs S3 acc2 else lcG2 g t mi1 g1 t1 e vs1 ρ xs S1 acc
/-- [e for g in mi if t for g1 in mi1 if t1] -/
def cLC2 (mi : E (List Val)) (g : Tg) (t : T) (mi1 : E (List Val)) (g1 : Tg) (t1 : T) (e : E Val) (vs vs1 : List Nat) : E Val := fun ρ S => (mi ρ S).bind fun xs S1 => (lcG2 g t mi1 g1 t1 e vs1 (wip ρ vs) xs S1 []).bind fun ys S2 => .ok (.lst ys) S2
def flat : Slot → Prop
  | .ow _ => False
  | .ob _ _ => False
  | _ => True
/-- nobody's own thing is D -/
def NoD (D : Addr) (σ : St) (ρ : Env) : Prop := ∀ (k : Nat) (s : Slot), σ[k]? = some (some (.ref D)) → ρ[k]? = some s → flat s
theorem NoD.of {D : Addr} (R : Rel G N μ σ H ρ S) (h : H D = none) : NoD D σ ρ := fun k s h1 h2 => by
  have q := R.at_ k s _ h2 h1
  cases s with
  | ow xs => obtain ⟨p, us, e, hp, _⟩ := q; cases e; rw [h] at hp; cases hp
  | ob c xs => obtain ⟨a, dx, fs, e, ha, _⟩ := q; cases e; rw [h] at ha; cases ha
  | _ => trivial
theorem NoD.set {D : Addr} {i : Nat} {o : Option V} {s : Slot} (h : NoD D σ ρ) (hs : flat s) : NoD D (σ.set i o) (ρ.set i s) := fun k s' h1 h2 => by
  rcases set_get h2 with ⟨rfl, rfl⟩ | ⟨n1, h2⟩
  · exact hs
  · rcases set_get h1 with ⟨e, _⟩ | ⟨_, h1⟩
    · exact absurd e n1
    · exact h k s' h1 h2
theorem NoD.wipe {D : Addr} (h : NoD D σ ρ) : ∀ vs : List Nat, NoD D (L2.wipe σ vs) (wip ρ vs)
  | [] => h
  | i :: vs => NoD.set (NoD.wipe h vs) trivial
theorem Rel.updD {D : Addr} {us us' : List V} (R : Rel G N μ σ H ρ S) (hD : H D = some (.lst us)) (np : D ∉ μ) (nd : NoD D σ ρ) : Rel G N μ σ (upd H D (.lst us')) ρ S := by
  have nf : ∀ u, H D = some u → fixdT G u = false := fun u q => by rw [hD] at q; cases q; rfl
  have kx : Kx G H (upd H D (.lst us')) := kx_upd nf
  refine ⟨R.len, fun k s o h1 h2 => ?_, R.own, R.st.upd np nf⟩
  have q := R.at_ k s o h1 h2
  cases s with
  | un => trivial
  | pl x => obtain ⟨u, e, v⟩ := q; exact ⟨u, e, v.kx kx (List.prefix_refl _)⟩
  | ow xs =>
    obtain ⟨p, ws, e, hp, v, n⟩ := q
    have ne : p ≠ D := fun z => by subst z; subst e; exact nd k _ h2 h1
    exact ⟨p, ws, e, by rw [upd_ne ne]; exact hp, v.kx kx (List.prefix_refl _), n⟩
  | ob c xs =>
    obtain ⟨a, dx, fs, e, ha, n1, n2, n3, v, n⟩ := q
    have ne : a ≠ D := fun z => by subst z; subst e; exact nd k _ h2 h1
    exact ⟨a, dx, fs, e, by rw [upd_ne ne]; exact ha, n1, n2, n3, v.kx kx (List.prefix_refl _), n⟩
  | pd j => obtain ⟨u, e, v⟩ := q; exact ⟨u, e, N.pdx _ _ _ _ _ kx v⟩
  | cl j r => obtain ⟨u, e, v⟩ := q; exact ⟨u, e, N.clx _ _ _ _ _ _ _ _ kx (List.prefix_refl _) v⟩
theorem lc2_walk {mi mi1 : E (List Val)} {g g1 : Tg} {t t1 : T} {Q : VK} (h : tE G N W (MN G) (cLC2 mi g t mi1 g1 t1 me vs vs1) σ H Q) :
    tLc2 (tI G N W (ItB G) mi) (tGE G vs g) (tT G N W0 t) (tI G N W0 (ItF G) mi1) (tGE G vs1 g1) (tT G N W0 t1) (tE G N W0 (MF G) me) vs vs1 σ H Q := by
  obtain ⟨ρ, S, μ, R, o⟩ := h
  refine ⟨ρ, S, μ, R, (Out.bind o).mono fun xs S1 μ1 H1 st1 sr1 k1 J hJ D hD => ?_⟩
  have R1 := (R.step st1 sr1).wipe vs
  have nD1 : NoD D (wipe σ vs) (wip ρ vs) := NoD.of R1 hD
  have hD0 : H D = none := st1.fresh sr1 hD
  have npD : D ∉ μ1 := np_of sr1.there hD
  refine ⟨fun i m H2 => m = xs.length - i ∧ i ≤ xs.length ∧ ∃ (S2 : Store) (μ2 : List Addr) (acc : List Val) (us : List V), StR G μ2 H2 S2 ∧ Step μ1 H1 μ2 H2 ∧ H2 D = some (.lst us) ∧ VRs G μ2 H2 acc us ∧ D ∉ μ2 ∧
    Out G W σ μ1 H1 ((lcG2 g t mi1 g1 t1 me vs1 (wip ρ vs) (xs.drop i) S2 acc).bind fun ys S2 => KL.R.ok (Val.lst ys) S2) (fun v _ μ' H' => ∀ u, MN G μ' H H' v u → Q u H'),
    ⟨xs.length, rfl, Nat.zero_le _, S1, μ1, [], [], sr1.ext (ext_upd hD), Step.made hD, upd_same, .nil, npD, k1⟩, ?_⟩
  rintro i m H2 ⟨rfl, hi, S2, μ2, acc, us, sr2, st2, hl, ra, np, o2⟩
  have it := hJ μ2 H2 st2 (st2.kp sr1)
  by_cases hlt : i < xs.length
  · refine .inr ⟨(it.1 i xs[i] (List.getElem?_eq_getElem hlt)).1, fun H3 => ∃ (S2 : Store) (μ2 : List Addr) (acc : List Val) (us : List V), StR G μ2 H3 S2 ∧ Step μ1 H1 μ2 H3 ∧ H3 D = some (.lst us) ∧ VRs G μ2 H3 acc us ∧ D ∉ μ2 ∧
      Out G W σ μ1 H1 ((lcG2 g t mi1 g1 t1 me vs1 (wip ρ vs) (xs.drop (i + 1)) S2 acc).bind fun ys S2 => KL.R.ok (Val.lst ys) S2) (fun v _ μ' H' => ∀ u, MN G μ' H H' v u → Q u H'), fun H3 q => ⟨xs.length - (i + 1), by omega, rfl, hlt, q⟩, fun u H3 y => ?_⟩
    obtain ⟨ext, hu⟩ := (it.1 i xs[i] (List.getElem?_eq_getElem hlt)).2 u H3 y
    have st3 : Step μ2 H2 μ2 H3 := Step.ext ext
    have sr3 := sr2.ext ext
    have R3 := R1.step (st2.trans st3) sr3
    rw [List.drop_eq_getElem_cons hlt] at o2
    unfold lcG2 at o2
    cases hg : g xs[i] (wip ρ vs) with
    | none => rw [hg] at o2; exact False.elim o2
    | some ρ1 =>
      rw [hg] at o2
      refine ⟨μ2, xs[i], wip ρ vs, ρ1, fun σ2 ρ2 => Rel G N μ2 σ2 H3 ρ2 S2 ∧ wipe σ2 vs = wipe σ vs ∧ NoD D σ2 ρ2, ⟨R3, wipe_wipe, nD1⟩, fun j hj y u σ2 ρ2 ⟨p1, p2, p3⟩ hy => ⟨p1.setPl hy, by rw [wipe_set hj]; exact p2, p3.set trivial⟩, hu, hg, fun σ2 ⟨p1, p2, p3⟩ => ⟨p2, ?_⟩⟩
      simp only [bind_assoc] at o2
      refine ⟨ρ1, S2, μ2, p1, (Out.ne (W' := W0) o2).mono fun b S4 μ4 H4 st4 sr4 k4 => ?_⟩
      have st14 := (st2.trans st3).trans st4
      have hl4 : H4 D = some (.lst us) := st4.keep D _ (ext _ _ hl) np rfl
      have np4 : D ∉ μ4 := fun z => (st4.new D z).elim np fun q => by rw [ext _ _ hl] at q; cases q
      have ra4 := (ra.kp (st3.kp sr2)).kp (st4.kp sr3)
      cases b with
      | false => exact ⟨S4, μ4, acc, us, sr4, st14, hl4, ra4, np4, k4⟩
      | true =>
        simp only [if_true, bind_assoc] at k4
        have p14 := p1.step st4 sr4
        refine ⟨ρ1, S4, μ4, p14, (Out.ne (W' := W0) k4).mono fun ys S5 μ5 H5 st5 sr5 k5 J1 hJ1 => ?_⟩
        have st15 := st14.trans st5
        have R5 := (p14.step st5 sr5).wipe vs1
        have nD5 : NoD D (wipe σ2 vs1) (wip ρ1 vs1) := p3.wipe vs1
        have hl5 : H5 D = some (.lst us) := st5.keep D _ hl4 np4 rfl
        have np5 : D ∉ μ5 := fun z => (st5.new D z).elim np4 fun q => by rw [hl4] at q; cases q
        have ra5 := ra4.kp (st5.kp sr4)
        refine ⟨fun j k H6 => k = ys.length - j ∧ j ≤ ys.length ∧ ∃ (S6 : Store) (μ6 : List Addr) (acc : List Val) (us : List V), Rel G N μ6 (wipe σ2 vs1) H6 (wip ρ1 vs1) S6 ∧ Step μ1 H1 μ6 H6 ∧ Kp G μ5 H5 μ6 H6 ∧ H6 D = some (.lst us) ∧ VRs G μ6 H6 acc us ∧ D ∉ μ6 ∧
          Out G W σ μ1 H1 ((lcG g1 t1 me (wip ρ1 vs1) (ys.drop j) S6 acc).bind fun acc2 S3 => (lcG2 g t mi1 g1 t1 me vs1 (wip ρ vs) (xs.drop (i + 1)) S3 acc2).bind fun ys S2 => KL.R.ok (Val.lst ys) S2) (fun v _ μ' H' => ∀ u, MN G μ' H H' v u → Q u H'),
          ⟨ys.length, rfl, Nat.zero_le _, S5, μ5, acc, us, R5, st15, Kp.refl, hl5, ra5, np5, k5⟩, ?_⟩
        clear hl4 np4 ra4 hl5 np5 ra5 k5 k4 o2 hl ra np
        rintro j k H6 ⟨rfl, hj, S6, μ6, acc, us, R6, st6, kp6, hl, ra, np, o6⟩
        have sr6 := R6.st
        have it1 := hJ1 μ6 H6 kp6
        by_cases hjt : j < ys.length
        · refine .inr ⟨(it1.1 j ys[j] (List.getElem?_eq_getElem hjt)).1, fun H7 => ∃ (S6 : Store) (μ6 : List Addr) (acc : List Val) (us : List V), Rel G N μ6 (wipe σ2 vs1) H7 (wip ρ1 vs1) S6 ∧ Step μ1 H1 μ6 H7 ∧ Kp G μ5 H5 μ6 H7 ∧ H7 D = some (.lst us) ∧ VRs G μ6 H7 acc us ∧ D ∉ μ6 ∧
            Out G W σ μ1 H1 ((lcG g1 t1 me (wip ρ1 vs1) (ys.drop (j + 1)) S6 acc).bind fun acc2 S3 => (lcG2 g t mi1 g1 t1 me vs1 (wip ρ vs) (xs.drop (i + 1)) S3 acc2).bind fun ys S2 => KL.R.ok (Val.lst ys) S2) (fun v _ μ' H' => ∀ u, MN G μ' H H' v u → Q u H'), fun H7 q => ⟨ys.length - (j + 1), by omega, rfl, hjt, q⟩, fun u H7 y => ?_⟩
          obtain ⟨ext7, hu7⟩ := (it1.1 j ys[j] (List.getElem?_eq_getElem hjt)).2 u H7 y
          have st7 : Step μ6 H6 μ6 H7 := Step.ext ext7
          have sr7 := sr6.ext ext7
          have R7 := R6.step st7 sr7
          rw [List.drop_eq_getElem_cons hjt] at o6
          unfold lcG at o6
          cases hg1 : g1 ys[j] (wip ρ1 vs1) with
          | none => rw [hg1] at o6; exact False.elim o6
          | some ρ7 =>
            rw [hg1] at o6
            refine ⟨μ6, ys[j], wip ρ1 vs1, ρ7, fun σ7 ρ2 => Rel G N μ6 σ7 H7 ρ2 S6 ∧ wipe σ7 vs1 = wipe σ2 vs1, ⟨R7, wipe_wipe⟩, fun j hj y u σ2 ρ2 ⟨p1, p2⟩ hy => ⟨p1.setPl hy, by rw [wipe_set hj]; exact p2⟩, hu7, hg1, fun σ7 ⟨p7, p8⟩ => ⟨p8, ?_⟩⟩
            simp only [bind_assoc] at o6
            refine ⟨ρ7, S6, μ6, p7, (Out.ne (W' := W0) o6).mono fun b S8 μ8 H8 st8 sr8 k8 => ?_⟩
            have st78 := st7.trans st8
            have st18 := st6.trans st78
            have R8 := R6.step st78 sr8
            have hl8 : H8 D = some (.lst us) := st8.keep D _ (ext7 _ _ hl) np rfl
            have np8 : D ∉ μ8 := fun z => (st8.new D z).elim np fun q => by rw [ext7 _ _ hl] at q; cases q
            have ra8 := (ra.kp (st7.kp sr6)).kp (st8.kp sr7)
            cases b with
            | false => exact ⟨S8, μ8, acc, us, R8, st18, kp6.trans (st78.kp sr6), hl8, ra8, np8, k8⟩
            | true =>
              simp only [if_true, bind_assoc] at k8
              refine ⟨ρ7, S8, μ8, p7.step st8 sr8, (Out.ne (W' := W0) k8).mono fun y S9 μ9 H9 st9 sr9 k9 w hw => ?_⟩
              have st79 := st78.trans st9
              have st19 := st6.trans st79
              have R9 := R6.step st79 sr9
              have hl9 : H9 D = some (.lst us) := st9.keep D _ hl8 np8 rfl
              have np9 : D ∉ μ9 := fun z => (st9.new D z).elim np8 fun q => by rw [hl8] at q; cases q
              have ra9 := ra8.kp (st9.kp sr8)
              have nf : ∀ u, H9 D = some u → fixdT G u = false := fun u q => by rw [hl9] at q; cases q; rfl
              split at k9
              · rename_i hb
                refine ⟨us, hl9, by rw [← ra9.length]; exact hb, S9, μ9, acc ++ [y], us ++ [w], R9.updD hl9 np9 nD5, st19.upd hD, (kp6.trans (st79.kp sr6)).trans (.of (kx_upd nf)), upd_same, (ra9.snoc hw).kx (kx_upd nf) (List.prefix_refl _), np9, k9⟩
              · exact False.elim k9
        · have e : j = ys.length := by omega
          subst e
          rw [List.drop_length] at o6
          exact .inl ⟨it1.2, S6, μ6, acc, us, sr6, st6, hl, ra, np, o6⟩
  · have e : i = xs.length := by omega
    subst e
    rw [List.drop_length] at o2
    refine .inl ⟨it.2, ?_⟩
    exact o2 μ2 H2 st2 sr2 _ (.inl ⟨D, acc, us, rfl, rfl, hD0, np, hl, ra⟩)
theorem fe_lc2 {elt iter iter1 : Expr} {ifs ifs1 : List Expr} {scope : Scope} {own : List (Str × Nat)} {mi mi1 : E (List Val)} {g g1 : Tg} {t t1 : T} (hc : X.calm = true) (hN : X.N.Nodup) (hi : PI X tg iter (tI G N W (ItB G) mi)) (ok : BlkOk X.N X.env.scope scope own)
    (hg : ∀ (s : Shared) (H : Hp) (C : Addr) (cl : List (Str × Addr)) (fp : List Addr), PG (X.blk s H scope (compEnvC scope cl C X.env) fp) tg (tGE G (own.map (·.2)) g)) (ht : ∀ (s : Shared) (H : Hp) (C : Addr) (cl : List (Str × Addr)) (fp : List Addr), PTs (X.blk s H scope (compEnvC scope cl C X.env) fp) ifs (tT G N W0 t))
    (hi1 : ∀ (s : Shared) (H : Hp) (C : Addr) (cl : List (Str × Addr)) (fp : List Addr), PI (X.blk s H scope (compEnvC scope cl C X.env) fp) tg1 iter1 (tI G N W0 (ItF G) mi1))
    (hg1 : ∀ (s : Shared) (H : Hp) (C : Addr) (cl : List (Str × Addr)) (fp : List Addr), PG (X.blk s H scope (compEnvC scope cl C X.env) fp) tg1 (tGE G vs1 g1)) (ht1 : ∀ (s : Shared) (H : Hp) (C : Addr) (cl : List (Str × Addr)) (fp : List Addr), PTs (X.blk s H scope (compEnvC scope cl C X.env) fp) ifs1 (tT G N W0 t1))
    (he : ∀ (s : Shared) (H : Hp) (C : Addr) (cl : List (Str × Addr)) (fp : List Addr), PE (X.blk s H scope (compEnvC scope cl C X.env) fp) elt (tE G N W0 (MF G) me)) (hv : ∀ i ∈ vs1, i ∈ own.map (·.2) := by decide) (hs : ∀ x, foldedSetIterable iter X.env x = pure x := by intro _; rfl) (hs1 : ∀ env x, foldedSetIterable iter1 env x = pure x := by intro _ _; rfl) :
    PE X (.ListComp elt [⟨tg, iter, ifs, 0⟩, ⟨tg1, iter1, ifs1, 0⟩] scope pos) (tE G N W (MN G) (cLC2 mi g t mi1 g1 t1 me (own.map (·.2)) vs1)) :=
  pe_imp (pe_lc2 hc hN hi ok hv hg ht hi1 hg1 ht1 he hs hs1) fun σ H Q q => lc2_walk q
variable {ex μ0 : List Addr} {H0 : Hp}
theorem fs_newLc2 (i : Nat) {y : Str} {py : Pos} {elt iter iter1 : Expr} {ifs ifs1 : List Expr} {scope : Scope} {own : List (Str × Nat)} {spos : Pos} {mi mi1 : E (List Val)} {g g1 : Tg} {t t1 : T} (hc : X.calm = true) (hN : X.N.Nodup) (hy : X.N[i]? = some y) (hyl : X.env.scope.names.lookup y = some .local)
    (hsw : swapsWith (.ListComp elt [⟨tg, iter, ifs, 0⟩, ⟨tg1, iter1, ifs1, 0⟩] scope pos) (some (.Name y py)) spos.line X.env = pure true) (hi : PI X tg iter (tI G N W (ItB G) mi)) (ok : BlkOk X.N X.env.scope scope own)
    (hg : ∀ (s : Shared) (H : Hp) (C : Addr) (cl : List (Str × Addr)) (fp : List Addr), PG (X.blk s H scope (compEnvC scope cl C X.env) fp) tg (tGE G (own.map (·.2)) g)) (ht : ∀ (s : Shared) (H : Hp) (C : Addr) (cl : List (Str × Addr)) (fp : List Addr), PTs (X.blk s H scope (compEnvC scope cl C X.env) fp) ifs (tT G N W0 t))
    (hi1 : ∀ (s : Shared) (H : Hp) (C : Addr) (cl : List (Str × Addr)) (fp : List Addr), PI (X.blk s H scope (compEnvC scope cl C X.env) fp) tg1 iter1 (tI G N W0 (ItF G) mi1))
    (hg1 : ∀ (s : Shared) (H : Hp) (C : Addr) (cl : List (Str × Addr)) (fp : List Addr), PG (X.blk s H scope (compEnvC scope cl C X.env) fp) tg1 (tGE G vs1 g1)) (ht1 : ∀ (s : Shared) (H : Hp) (C : Addr) (cl : List (Str × Addr)) (fp : List Addr), PTs (X.blk s H scope (compEnvC scope cl C X.env) fp) ifs1 (tT G N W0 t1))
    (he : ∀ (s : Shared) (H : Hp) (C : Addr) (cl : List (Str × Addr)) (fp : List Addr), PE (X.blk s H scope (compEnvC scope cl C X.env) fp) elt (tE G N W0 (MF G) me)) (hv : ∀ i ∈ vs1, i ∈ own.map (·.2) := by decide) (hs : ∀ x, foldedSetIterable iter X.env x = pure x := by intro _; rfl) (hs1 : ∀ env x, foldedSetIterable iter1 env x = pure x := by intro _ _; rfl) :
    PS X (.Assign [.Name y py] (.ListComp elt [⟨tg, iter, ifs, 0⟩, ⟨tg1, iter1, ifs1, 0⟩] scope pos) spos) (tS G N W ex μ0 H0 (sNew i (cLC2 mi g t mi1 g1 t1 me (own.map (·.2)) vs1))) :=
  ps_imp (ps_setLc2 hc hN hy hyl hsw hi ok hv hg ht hi1 hg1 ht1 he hs hs1) fun D σ H ⟨ρ, S, μ, R, o⟩ => lc2_walk ⟨ρ, S, μ, R.rel, new_imp R o⟩
end
end KL

set_option Elab.async false
set_option linter.all false
set_option maxRecDepth 100000
set_option maxHeartbeats 1000000
/-! KZipS: zip of two texts; a.join(xs). -/
namespace KL
open PySem PySem.Spec L2 RZ
open PyProof.Rows hiding St
/-- the signs of two texts, each pair in a new tuple -/
def ItzS (x y : Str) : It :=
  ⟨fun i _ => i < x.cps.size ∧ i < y.cps.size,
    fun i H v H' => ∃ T c d, v = .ref T ∧ H T = none ∧ x.cps[i]? = some c ∧ y.cps[i]? = some d ∧ H' = upd H T (.tup [.str ⟨#[c]⟩, .str ⟨#[d]⟩]),
    fun i _ => i ≤ x.cps.size ∧ i ≤ y.cps.size ∧ (i = x.cps.size ∨ i = y.cps.size)⟩
theorem turn_zipS {P : Program} {w : World} {K : PySem.W.Frag} {elts : List Expr} {kk : Nat} {tpos : Pos} {z TI TO i1 i2 : Addr} (x y : Str) (t t2 : Tok) (D : ZipSep2 z TI TO i1 i2 [i1] [i2]) :
    Turn P w K (.Tuple elts kk tpos) (ItzS x y) [z, TI, TO, i1, i2] z (fun i h => IsZip h z TI TO .none ∧ IsTupOf2 h TI (.ref i1) (.ref i2) ∧ (∃ a b, IsTupOf2 h TO a b) ∧ h.IsStrIter i1 (strIterType x) x t i ∧ h.IsStrIter i2 (strIterType y) y t2 i) where
  mem := by simp
  obj := fun i h st c hc => by
    obtain ⟨hz, hTI, ⟨a, b, hTO⟩, ⟨o1, e1, _, d1⟩, ⟨o2, e2, _, d2⟩⟩ := st
    have e' : c = z ∨ c = TI ∨ c = TO ∨ c = i1 ∨ c = i2 := by simpa using hc
    rcases e' with q | q | q | q | q
    · rw [q]; exact ⟨_, hz, fun v q => nomatch q⟩
    · rw [q]; exact ⟨_, hTI, fun v q => nomatch q⟩
    · rw [q]; exact ⟨_, hTO, fun v q => nomatch q⟩
    · rw [q]; exact ⟨o1, e1, fun v q => by rw [d1] at q; cases q⟩
    · rw [q]; exact ⟨o2, e2, fun v q => by rw [d2] at q; cases q⟩
  keep := fun i h h' st k => by
    obtain ⟨hz, hTI, ⟨a, b, hTO⟩, ⟨o1, e1, c1, d1⟩, ⟨o2, e2, c2, d2⟩⟩ := st
    exact ⟨k z (by simp) _ hz, k TI (by simp) _ hTI, ⟨a, b, k TO (by simp) _ hTO⟩, ⟨o1, k i1 (by simp) o1 e1, c1, d1⟩, ⟨o2, k i2 (by simp) o2 e2, c2, d2⟩⟩
  item := by
    intro X hP hw hK hc i pins s σ H E I hf st hg
    subst hP hw hK
    obtain ⟨hz, hTI, ⟨x0, y0, hTO⟩, h1, h2⟩ := st
    have hzl : z < s.heap.objs.size := Heap.lt_size hz
    refine wpAny_pyNext_zipD2_item D (Draws.text (A := X.A.in1) (I.ok.hd hc) i1 x t) (Draws.text (A := X.A.in1) (I.ok.hd hc) i2 y t2) hz hTI hTO h1 h2 hg.1 hg.2 fun u u2 h' tk p1 p2 z' TO' h1' h2' hT hsz hk => ?_
    obtain ⟨c, tc, hx, rfl⟩ := p1
    obtain ⟨d, td, hy, rfl⟩ := p2
    refine ⟨_, rfl, wpAny_letOwnedTupleGo_zip (s := { s with heap := h', toks := tk }) z' fun h'' z'' sb => ?_⟩
    have hT2 : h''.get? s.heap.objs.size = some { cls := .type "tuple", data := .seq #[.str ⟨#[c]⟩ tc, .str ⟨#[d]⟩ td] } := (sb.2 _ (Nat.ne_of_gt hzl)).trans hT
    have new : ObjOk X.prog X.w (upd H s.heap.objs.size (.tup [.str ⟨#[c]⟩, .str ⟨#[d]⟩])) h'' s.heap.objs.size (.tup [.str ⟨#[c]⟩, .str ⟨#[d]⟩]) :=
      ⟨by show 2 ≤ sizeLine; decide, [.str ⟨#[c]⟩ tc, .str ⟨#[d]⟩ td], .cons ⟨_, rfl⟩ (.cons ⟨_, rfl⟩ .nil), ⟨_, hT2, rfl, _, rfl⟩⟩
    have I1 : Inv X pins σ (upd H s.heap.objs.size (.tup [.str ⟨#[c]⟩, .str ⟨#[d]⟩])) { s with heap := h'', toks := tk } :=
      I.turnedNew (t' := tk) (ch := [z, TI, TO, i1, i2]) (fun c o hb q => (sb.2 c (fun q' => hb (by simp [q']))).trans (hk c o (fun q' => hb (by simp [q'])) (fun q' => hb (by simp [q'])) (fun q' => hb (by simp [q'])) (fun q' => hb (by simp [q'])) q)) hf (Nat.le_refl _) new
    have i1z : i1 ≠ z := fun q => D.zf1 (by simp [q])
    have i2z : i2 ≠ z := fun q => D.zf2 (by simp [q])
    obtain ⟨o1, e1, c1, d1⟩ := h1'
    obtain ⟨o2, e2, c2, d2⟩ := h2'
    refine ⟨.ref s.heap.objs.size, _, I1, rfl, ⟨_, c, d, rfl, I.hok.fresh (Nat.le_refl _), hx, hy, rfl⟩, ⟨z'', ?_, ⟨_, _, (sb.2 _ D.TOz).trans TO'⟩, ⟨o1, (sb.2 _ i1z).trans e1, c1, d1⟩, ⟨o2, (sb.2 _ i2z).trans e2, c2, d2⟩⟩, fun c hcm => ?_⟩
    · exact (sb.2 _ D.TIz).trans (hk _ _ D.TIz D.TITO D.TIi1 D.TIi2 hTI)
    · have hlt : c < s.heap.objs.size := by
        have e' : c = z ∨ c = TI ∨ c = TO ∨ c = i1 ∨ c = i2 := by simpa using hcm
        rcases e' with q | q | q | q | q
        · rw [q]; exact hzl
        · rw [q]; exact Heap.lt_size hTI
        · rw [q]; exact Heap.lt_size hTO
        · rw [q]; obtain ⟨_, e1, _⟩ := h1; exact Heap.lt_size e1
        · rw [q]; obtain ⟨_, e2, _⟩ := h2; exact Heap.lt_size e2
      rw [upd_ne (Nat.ne_of_lt hlt)]
      exact (hf c hcm).1
  done := by
    intro X hP hw hK hc i pins s σ H E I hf st hg
    subst hP hw hK
    obtain ⟨hz, hTI, ⟨x0, y0, hTO⟩, h1, h2⟩ := st
    exact wpAny_pyNext_zipD2_end D (Draws.text (A := X.A.in1) (I.ok.hd hc) i1 x t) (Draws.text (A := X.A.in1) (I.ok.hd hc) i2 y t2) hz hTI hTO h1 h2 hg.1 hg.2.1 hg.2.2 fun h' tk hk => ⟨rfl, I.turnedL (t' := tk) (ch := [z, TI, TO, i1, i2]) (fun c o hb q =>
      hk c o (fun q' => hb (by simp [q'])) (fun q' => hb (by simp [q'])) (fun q' => hb (by simp [q'])) (fun q' => hb (by simp [q'])) q) hf⟩
  self := fun A i s Q E st h => wpAny_pyIter_zip st.1 h
def iZipSA (ta : TA) : TI := fun σ H R => ta σ H fun vs H1 => ∃ x y, vs = [.str x, .str y] ∧ R (ItzS x y) H1
theorem pi_zipS {X : Cx} {e e2 : Expr} {ta : TA} {p pos tpos : Pos} {elts : List Expr} {kk : Nat} (hg : Gl X "zip") (hm : X.mg "zip" = none) (ha : PA X [e, e2] ta)
    (hs : starEach [e, e2] X.env = (false, eval e X.env) :: starEach [e2] X.env := by rfl) (hpl : (backTo pos (starEach [e2] X.env)).any (·.1) = false := by rfl) :
    PI X (.Tuple elts kk tpos) (.Call (.Name "zip" p) [e, e2] [] pos) (iZipSA ta) := by
  refine ⟨fun pins s σ H R I h => ?_⟩
  refine Call_ (ld_blt I hg hm PyProof.Rows.boot_zip (PyProof.Rows.callWith_type1 (thn (ha.run pos pins s σ H _ I h) fun us s1 ⟨vs, H1, I1, r1, q1⟩ => ?_) hs hpl))
  obtain ⟨x, y, ex, q⟩ := q1
  subst ex
  cases r1 with
  | cons r rr =>
    cases rr with
    | cons r' rr =>
      cases rr
      obtain ⟨t, rfl⟩ := r
      obtain ⟨t2, rfl⟩ := r'
      have fresh5 : ∀ c, c ∈ [s1.heap.objs.size + 4, s1.heap.objs.size + 2, s1.heap.objs.size + 3, s1.heap.objs.size, s1.heap.objs.size + 1] → FpOk X pins H1 c := fun c hcm => by
        have e' : c = s1.heap.objs.size + 4 ∨ c = s1.heap.objs.size + 2 ∨ c = s1.heap.objs.size + 3 ∨ c = s1.heap.objs.size ∨ c = s1.heap.objs.size + 1 := by simpa using hcm
        have hle : s1.heap.objs.size ≤ c := by
          rcases e' with z | z | z | z | z
          · rw [z]; exact Nat.le_add_right _ _
          · rw [z]; exact Nat.le_add_right _ _
          · rw [z]; exact Nat.le_add_right _ _
          · rw [z]; exact Nat.le_refl _
          · rw [z]; exact Nat.le_add_right _ _
        exact I1.fpOk hle (I1.hok.fresh hle)
      refine zip_begins2 (begins_text x t) (begins_text y t2) trivial trivial fun h' hz hTI hTO h1 h2 hsz hk => wpAny_pyIter_zip hz ?_
      have I2 : Inv X pins σ H1 { s1 with heap := h' } := I1.kept (t' := s1.toks) hk
      have D : ZipSep2 (s1.heap.objs.size + 4) (s1.heap.objs.size + 2) (s1.heap.objs.size + 3) s1.heap.objs.size (s1.heap.objs.size + 1) [s1.heap.objs.size] [s1.heap.objs.size + 1] := by
        constructor <;> simp
      exact ⟨s1.heap.objs.size + 4, [s1.heap.objs.size + 4, s1.heap.objs.size + 2, s1.heap.objs.size + 3, s1.heap.objs.size, s1.heap.objs.size + 1], _, _, H1, rfl, I2, turn_zipS x y t t2 D, ⟨hz, hTI, ⟨_, _, hTO⟩, ⟨_, h1, rfl, rfl⟩, ⟨_, h2, rfl, rfl⟩⟩, fresh5, q⟩
section
variable {G : GP} {N : Fns} {W : WX} {X : Cx} {μ μ' : List Addr} {H H' : Hp} {σ : St} {ρ : Env} {S S' : Store} {e e2 tg : Expr} {me me2 : E Val} {xs ys : List Val}
/-- the signs of a text -/
def signs (s : Str) : List Val := s.cps.toList.map fun c => .str ⟨#[c]⟩
def iZs (a b : E Val) : E (List Val) := fun ρ S => (a ρ S).bind fun x S1 => (b ρ S1).bind fun y S2 => match x, y with
  | .str s, .str t => .ok (zipV (signs s) (signs t)) S2
  | _, _ => .sk
theorem signs_get {s : Str} {i : Nat} {z : Val} (h : (signs s)[i]? = some z) : ∃ c, s.cps[i]? = some c ∧ z = .str ⟨#[c]⟩ := by
  unfold signs at h
  rw [List.getElem?_map] at h
  cases q : s.cps.toList[i]? with
  | none => rw [q] at h; cases h
  | some c => rw [q] at h; cases h; exact ⟨c, by rw [← Array.getElem?_toList]; exact q, rfl⟩
theorem lt_of_some {α : Type} {a : Array α} {i : Nat} {c : α} (h : a[i]? = some c) : i < a.size := (Array.getElem?_eq_some_iff.mp h).1
theorem signs_len (s : Str) : (signs s).length = s.cps.size := by unfold signs; rw [List.length_map, Array.length_toList]
theorem at_zipS (x y : Str) : ItAt G μ H (zipV (signs x) (signs y)) (ItzS x y) :=
  ⟨fun i v hx => by
    obtain ⟨p, q, h1, h2, rfl⟩ := zipV_get hx
    obtain ⟨c, hc, rfl⟩ := signs_get h1
    obtain ⟨d, hd, rfl⟩ := signs_get h2
    refine ⟨⟨lt_of_some hc, lt_of_some hd⟩, fun w H3 yy => ?_⟩
    obtain ⟨T, c', d', rfl, hT, e1, e2, rfl⟩ := yy
    rw [hc] at e1; cases e1
    rw [hd] at e2; cases e2
    exact vr_two hT (.str _) (.str _), by rw [zipV_len, signs_len, signs_len]; exact ⟨Nat.min_le_left _ _, Nat.min_le_right _ _, by omega⟩⟩
theorem fi_zipS {p pos tpos : Pos} {elts : List Expr} {kk : Nat} (hg : Gl X "zip") (hm : X.mg "zip" = none) (he : PE X e (tE G N W (MF G) me)) (he2 : PE X e2 (tE G N W (MF G) me2))
    (hs : starEach [e, e2] X.env = (false, eval e X.env) :: starEach [e2] X.env := by rfl) (hs2 : starEach [e2] X.env = (false, eval e2 X.env) :: starEach [] X.env := by rfl) (hpl : (backTo pos (starEach [e2] X.env)).any (·.1) = false := by rfl) :
    PI X (.Tuple elts kk tpos) (.Call (.Name "zip" p) [e, e2] [] pos) (tI G N W (ItF G) (iZs me me2)) :=
  pi_imp (pi_zipS hg hm (pa_cons he (pa_cons he2 pa_nil hs2) hs) hs hpl) fun σ H R ⟨ρ, S, μ, Rl, o⟩ => ⟨ρ, S, μ, Rl, (Out.bind o).mono fun x S1 μ1 H1 st1 sr1 k1 u hu => ⟨ρ, S1, μ1, Rl.step st1 sr1, (Out.bind k1).mono fun y S2 μ2 H2 st2 sr2 k2 w hw => by
    split at k2
    · rename_i s t
      cases hu
      cases hw
      exact ⟨s, t, rfl, Out.ok k2 sr2 _ fun μ3 H3 kp => at_zipS s t⟩
    · exact False.elim k2⟩⟩
/-! ### a.join(xs) -/
def allStr : List Val → Option (List Str)
  | [] => some []
  | .str s :: r => (allStr r).map (s :: ·)
  | _ :: _ => none
theorem VRs.strs : ∀ {xs : List Val} {us : List V} {ys : List Str}, VRs G μ H xs us → allStr xs = some ys → us = ys.map V.str
  | [], _, ys, .nil, h => by cases h; rfl
  | .str s :: r, _, ys, .cons (.str _) t, h => by
    have h' : (allStr r).map (s :: ·) = some ys := h
    cases q : allStr r with
    | none => rw [q] at h'; cases h'
    | some zs => rw [q] at h'; cases h'; rw [VRs.strs t q]; rfl
def joinV (x y : Val) : Option Val := match x, y with
  | .str a, .lst xs => match allStr xs with
    | some ys => if (ys.map (·.length)).sum + ys.length * a.length ≤ 16777216 then some (.str (Txt.join a ys)) else none
    | none => none
  | _, _ => none
def cJoinX (a b : E Val) : E Val := fun ρ S => (a ρ S).bind fun x S1 => match x with
  | .str a => (b ρ S1).bind fun y S2 => R.of (joinV (.str a) y) S2
  | _ => .sk
theorem fe_joinX {o b : Expr} {ma mb : E Val} {apos pos : Pos} (hK : X.K = G.K) (ho : PE X o (tE G N W (MF G) ma)) (hb : PE X b (tE G N W (MB G) mb))
    (hs : starEach [b] X.env = [(false, eval b X.env)] := by rfl) (hbase : attributeBase o "join" X.env (eval o X.env) = eval o X.env := by rfl) (hline : (apos.endLine == pos.line) = true := by rfl) :
    PE X (.Call (.Attribute o "join" apos) [b] [] pos) (tE G N W (MF G) (cJoinX ma mb)) := by
  refine pe_imp (pe_join ho hb hs hbase hline) fun σ H Q ⟨ρ, S, μ, R, o⟩ => ⟨ρ, S, μ, R, (Out.bind o).mono fun x S1 μ1 H1 st1 sr1 k1 u hu => ?_⟩
  cases x with
  | str a =>
    cases hu
    refine ⟨⟨a, rfl⟩, ρ, S1, μ1, R.step st1 sr1, (Out.bind k1).mono fun y S2 μ2 H2 st2 sr2 k2 w hw => ?_⟩
    obtain ⟨z, ez, k3⟩ := Out.of k2
    unfold joinV at ez
    split at ez
    · rename_i a' xs ea
      cases ea
      split at ez
      · rename_i ys hys
        split at ez
        · rename_i hz
          cases ez
          obtain ⟨p, vs, rfl, h1, r⟩ := hw.lstp
          have e := r.strs hys
          subst e
          exact ⟨_, p, ys, rfl, rfl, .inl (by rw [hK]; exact h1), hz, k3 _ _ Step.refl sr2 _ (.str _)⟩
        · cases ez
      · cases ez
    · cases ez
  | _ => exact False.elim k1
end
end KL

set_option Elab.async false
set_option linter.all false
set_option maxRecDepth 100000
set_option maxHeartbeats 4000000
/-! law_k03_whole_lines_and_words: readings and derivations (printed by genlaw.py) -/
namespace KG
open PySem L2 KL
def top (i : Nat) : Stmt := PySem.Challenge.pw_keptlikes_k03_whole_lines_and_words.main.body.getD i (.Pass ⟨0, 0, 0, 0⟩)
abbrev s_InvalidPairs___init__ : Stmt := (inClass (top 6) 0)
abbrev s_is_integer : Stmt := (top 12)
abbrev s_is_pair : Stmt := (top 14)
abbrev s_check_pairs : Stmt := (top 15)
abbrev s_InvalidWorths___init__ : Stmt := (inClass (top 5) 0)
abbrev s_check_worths : Stmt := (top 13)
abbrev s_lot_of : Stmt := (top 21)
abbrev s_Heap___init__ : Stmt := (inClass (top 22) 0)
abbrev s_InvalidPlaces___init__ : Stmt := (inClass (top 7) 0)
abbrev s_check_places : Stmt := (top 17)
abbrev s_InvalidReach___init__ : Stmt := (inClass (top 4) 0)
abbrev s_check_reach : Stmt := (top 16)
abbrev s_pairs_with : Stmt := (top 20)
abbrev s_Heap_line : Stmt := (inClass (top 22) 1)
abbrev s_are_close : Stmt := (top 19)
abbrev s_InvalidWords___init__ : Stmt := (inClass (top 8) 0)
abbrev s_check_words : Stmt := (top 18)
abbrev s_Heap_words : Stmt := (inClass (top 22) 2)
abbrev s__law_scoop : Stmt := (top 26)
abbrev s__law_any_of : Stmt := (top 27)
abbrev s__law_pairs_of : Stmt := (top 29)
abbrev s__law_unlike : Stmt := (top 30)
abbrev s__law_values : Stmt := (top 28)
abbrev s__law_right : Stmt := (top 31)
abbrev s__law_well : Stmt := (top 25)
abbrev s_law : Stmt := (top 32)
def cfs : Nat → List Str
  | 0 => ["worths", "pairs", "by_thing", "lots", "passes_on"]
  | 20 => ["value"]
  | 24 => ["index"]
  | 25 => ["index"]
  | 26 => ["index"]
  | 27 => ["index"]
  | _ => []
def fins : List (List Str) := [["worths", "pairs", "by_thing", "lots", "passes_on"]]
def gp (w : World) (K : PySem.W.Frag) (ad : Nat → Addr) (tl : List (Addr × Str)) : GP := ⟨K, ad, cfs, fun n => .ref (ad n), fun _ ns => decide (ns ∈ fins), w, tl⟩
def own_all : List Nat := [0]
def own_Heap : List Nat := [0]
def sub_Heap : List (Nat × Bool) := [(0, true)]
/-! the readings -/
def b_is_integer : C := (sRt (cAndV (cIsT .int own_all (cVar 0)) (cNotV (cIsT .bl own_all (cVar 0)))))
def f_is_integer : F := defF 1 1 b_is_integer
def b_is_pair : C := (sSeq (sIf (cOr (cNot (cT (cIsT .tup own_all (cVar 0)))) (cT (cOp opNe (cBi bLen (cCons (cVar 0) cNil)) (cC (.int 2))))) (sRt (cC (.bl false))) sNil) (sRt (cAndV (cBi bAll (cCons (cLC (iSq (cVar 0)) (tgName 2) cYes (cCall f_is_integer (cCons (cVar 2) cNil)) [2]) cNil)) (cB (cChain3 opLe opLt opLt (cC (.int 0)) (cOp opIx (cVar 0) (cC (.int 0))) (cOp opIx (cVar 0) (cC (.int 1))) (cVar 1))))))
def f_is_pair : F := defF 2 3 b_is_pair
def b_check_pairs : C := (sSeq (sIf (cNot (cT (cIsT .tup own_all (cVar 0)))) (sRaise (cExc 25 (cC .non))) sNil) (sForG (iEn (cVar 0)) (stTup [(stName 2), (stName 3)]) (sIf (cOr (cNot (cT (cCall f_is_pair (cCons (cVar 3) (cCons (cVar 1) cNil))))) (cAnd (cT (cOp opGt (cVar 2) (cC (.int 0)))) (cNot (cT (cOp opLt (cOp opIx (cVar 0) (cOp opSub (cVar 2) (cC (.int 1)))) (cVar 3)))))) (sRaise (cExc 25 (cVar 2))) sNil)))
def f_check_pairs : F := defF 2 4 b_check_pairs
def b_check_worths : C := (sSeq (sIf (cOr (cNot (cT (cIsT .tup own_all (cVar 0)))) (cNot (cChain opLe opLe (cC (.int 1)) (cBi bLen (cCons (cVar 0) cNil)) (cC (.int 9))))) (sRaise (cExc 24 (cC .non))) sNil) (sForG (iEn (cVar 0)) (stTup [(stName 1), (stName 2)]) (sIf (cNot (cT (cCall f_is_integer (cCons (cVar 2) cNil)))) (sRaise (cExc 24 (cVar 1))) sNil)))
def f_check_worths : F := defF 1 3 b_check_worths
def b_lot_of : C := (sSeq (sPN [2, 3] (lOw (cLst cNil) (lOw (cLst (cCons (cVar 0) cNil)) lNil))) (sSeq (sWhl 100000 (cT (cOp opGt (cBi bLen (cCons (cBor 3) cNil)) (cC (.int 0)))) (sSeq (sAsg 4 (cOp opIx (cBor 3) (cUn opNeg (cC (.int 1))))) (sSeq (sDel 3 (cUn opNeg (cC (.int 1)))) (sIf (cT (cOp opNotIn (cVar 4) (cBor 2))) (sSeq (sApp 2 (cVar 4)) (sForG (iSq (cVar 1)) (stTup [(stName 5), (stName 6)]) (sIf (cT (cOp opIn (cVar 4) (cTup (cCons (cVar 5) (cCons (cVar 6) cNil))))) (sApp 3 (cOp opSub (cOp opAdd (cVar 5) (cVar 6)) (cVar 4))) sNil))) sNil)))) (sRt (cBi bTup (cCons (cBi bSortD (cCons (cBor 2) cNil)) cNil)))))
def f_lot_of : F := defF 2 7 b_lot_of
def b_Heap___init__ : C := (sSeq (sDrop (cCall f_check_worths (cCons (cVar 1) cNil))) (sSeq (sDrop (cCall f_check_pairs (cCons (cVar 2) (cCons (cBi bLen (cCons (cVar 1) cNil)) cNil)))) (sSeq (sFldI 0 0 0 (cVar 1)) (sSeq (sFldI 0 0 1 (cVar 2)) (sSeq (sFldI 0 0 2 (cBi bTup (cCons (cLC (iRa (cBi bLen (cCons (cVar 1) cNil))) (tgName 3) cYes (cCall f_lot_of (cCons (cVar 3) (cCons (cVar 2) cNil))) [3]) cNil))) (sSeq (sFldI 0 0 3 (cBi bTup (cCons (cLC (iEn (cFldO 0 0 2)) (tgTup [(tgName 3), (tgName 4)]) (cT (cOp opEq (cOp opIx (cVar 4) (cC (.int 0))) (cVar 3))) (cVar 4) [3, 4]) cNil))) (sFldI 0 0 4 (cOp opEq (cBi bSum (cCons (cLC (iSq (cFldO 0 0 3)) (tgName 4) cYes (cOp opDiv (cOp opMul (cBi bLen (cCons (cVar 4) cNil)) (cOp opSub (cBi bLen (cCons (cVar 4) cNil)) (cC (.int 1)))) (cC (.int 2))) [4]) cNil)) (cBi bLen (cCons (cVar 2) cNil))))))))))
def i_Heap : FI := initF 2 5 0 5 b_Heap___init__
def f_Heap : F := mkF 0 true i_Heap
def b_check_places : C := (sSeq (sIf (cOr (cNot (cT (cIsT .tup own_all (cVar 0)))) (cT (cOp opNe (cBi bLen (cCons (cVar 0) cNil)) (cVar 1)))) (sRaise (cExc 26 (cC .non))) sNil) (sForG (iEn (cVar 0)) (stTup [(stName 2), (stName 3)]) (sIf (cNot (cT (cCall f_is_integer (cCons (cVar 3) cNil)))) (sRaise (cExc 26 (cVar 2))) sNil)))
def f_check_places : F := defF 2 4 b_check_places
def b_check_reach : C := (sIf (cOr (cNot (cT (cCall f_is_integer (cCons (cVar 0) cNil)))) (cT (cOp opLt (cVar 0) (cC (.int 0))))) (sRaise (cExc 20 (cVar 0))) sNil)
def f_check_reach : F := defF 1 1 b_check_reach
def b_pairs_with (g : F) : C := (sSeq (sNew 2 (cLst cNil)) (sSeq (sForG (iRa (cVar 0)) (stName 3) (sForG (iRb (cOp opAdd (cVar 3) (cC (.int 1))) (cVar 0)) (stName 4) (sIf (cT (cHand 1 g (cCons (cVar 3) (cCons (cVar 4) cNil)))) (sApp 2 (cTup (cCons (cVar 3) (cCons (cVar 4) cNil)))) sNil))) (sRt (cBi bTup (cCons (cBor 2) cNil)))))
def f_pairs_with : F → F := defH 1 5 1 b_pairs_with
def b_Heap_line : C := (sSeq (sDrop (cCall f_check_worths (cCons (cVar 0) cNil))) (sSeq (sDrop (cCall f_check_places (cCons (cVar 1) (cCons (cBi bLen (cCons (cVar 0) cNil)) cNil)))) (sSeq (sDrop (cCall f_check_reach (cCons (cVar 2) cNil))) (sRt (cCall f_Heap (cCons (cVar 0) (cCons (cCallL f_pairs_with (cCons (cBi bLen (cCons (cVar 0) cNil)) cNil) [2, 1] 2 4 (cOp opLe (cBi bAbs (cCons (cOp opSub (cOp opIx (cVar 3) (cVar 0)) (cOp opIx (cVar 3) (cVar 1))) cNil)) (cVar 2))) cNil)))))))
def f_Heap_line : F := defF 3 3 b_Heap_line
def b_are_close : C := (sRt (cAndV (cOp opEq (cBi bLen (cCons (cVar 0) cNil)) (cBi bLen (cCons (cVar 1) cNil))) (cOp opLe (cCnt (cLC (iZs (cVar 0) (cVar 1)) (tgTup [(tgName 3), (tgName 4)]) cYes (cOp opEq (cVar 3) (cVar 4)) [3, 4]) (cC (.bl false))) (cVar 2))))
def f_are_close : F := defF 3 5 b_are_close
def b_check_words : C := (sSeq (sIf (cOr (cNot (cT (cIsT .tup own_all (cVar 0)))) (cT (cOp opNe (cBi bLen (cCons (cVar 0) cNil)) (cVar 1)))) (sRaise (cExc 27 (cC .non))) sNil) (sForG (iEn (cVar 0)) (stTup [(stName 2), (stName 3)]) (sIf (cOr (cNot (cT (cIsT .str own_all (cVar 3)))) (cT (cOp opGt (cBi bLen (cCons (cVar 3) cNil)) (cC (.int 20))))) (sRaise (cExc 27 (cVar 2))) sNil)))
def f_check_words : F := defF 2 4 b_check_words
def b_Heap_words : C := (sSeq (sDrop (cCall f_check_worths (cCons (cVar 0) cNil))) (sSeq (sDrop (cCall f_check_words (cCons (cVar 1) (cCons (cBi bLen (cCons (cVar 0) cNil)) cNil)))) (sSeq (sDrop (cCall f_check_reach (cCons (cVar 2) cNil))) (sRt (cCall f_Heap (cCons (cVar 0) (cCons (cCallL f_pairs_with (cCons (cBi bLen (cCons (cVar 0) cNil)) cNil) [2, 1] 2 4 (cCall f_are_close (cCons (cOp opIx (cVar 3) (cVar 0)) (cCons (cOp opIx (cVar 3) (cVar 1)) (cCons (cVar 2) cNil))))) cNil)))))))
def f_Heap_words : F := defF 3 3 b_Heap_words
def b__law_scoop : C := (sSeq (sAsgG (cOp opAdd (cOp opIx (cVar 0) (cC (.int 2))) (cC (.int 2))) (stSub (cVar 0) (cC (.int 2)))) (sSeq (sIf (cT (cOp opGt (cOp opIx (cVar 0) (cC (.int 1))) (cC (.int 0)))) (sSeq (sAsgG (cBi bDivmod (cCons (cBi bInt (cCons (cOp opIx (cVar 0) (cC (.int 1))) cNil)) (cCons (cVar 1) cNil))) (stTup [(stSub (cVar 0) (cC (.int 1))), (stName 2)])) (sRt (cVar 2))) sNil) (sSeq (sAsgG (cOp opMod (cBi bInt (cCons (cOp opAdd (cOp opAdd (cOp opMul (cOp opIx (cVar 0) (cC (.int 0))) (cC (.int 41011))) (cOp opMul (cOp opIx (cVar 0) (cC (.int 2))) (cC (.int 60013)))) (cOp opMul (cOp opDiv (cOp opIx (cVar 0) (cC (.int 0))) (cC (.int 5003))) (cC (.int 29)))) cNil)) (cC (.int 1999999913))) (stSub (cVar 0) (cC (.int 0)))) (sRt (cOp opMod (cBi bInt (cCons (cOp opDiv (cOp opIx (cVar 0) (cC (.int 0))) (cC (.int 191))) cNil)) (cVar 1))))))
def f__law_scoop : F := defF 2 3 b__law_scoop
def b__law_any_of : C := (sRt (cOp opIx (cVar 1) (cCall f__law_scoop (cCons (cVar 0) (cCons (cBi bLen (cCons (cVar 1) cNil)) cNil)))))
def f__law_any_of : F := defF 2 2 b__law_any_of
def b__law_pairs_of (g : F) : C := (sSeq (sNew 2 (cLst cNil)) (sSeq (sForG (iRa (cVar 0)) (stName 3) (sForG (iRb (cOp opAdd (cVar 3) (cC (.int 1))) (cVar 0)) (stName 4) (sIf (cT (cHand 1 g (cCons (cVar 3) (cCons (cVar 4) cNil)))) (sApp 2 (cTup (cCons (cVar 3) (cCons (cVar 4) cNil)))) sNil))) (sRt (cBi bTup (cCons (cBor 2) cNil)))))
def f__law_pairs_of : F → F := defH 1 5 1 b__law_pairs_of
def b__law_unlike : C := (sSeq (sIf (cT (cOp opNe (cBi bLen (cCons (cVar 0) cNil)) (cBi bLen (cCons (cVar 1) cNil)))) (sRt (cC (.int 99))) sNil) (sRt (cBi bLen (cCons (cLC (iRa (cBi bLen (cCons (cVar 0) cNil))) (tgName 2) (cT (cOp opNe (cOp opIx (cVar 0) (cVar 2)) (cOp opIx (cVar 1) (cVar 2)))) (cVar 2) [2]) cNil))))
def f__law_unlike : F := defF 2 3 b__law_unlike
def b__law_values : C := (sSeq (sAsg 2 (cCall f__law_scoop (cCons (cVar 0) (cCons (cC (.int 4)) cNil)))) (sSeq (sIf (cT (cOp opEq (cVar 2) (cC (.int 0)))) (sSeq (sPN [3, 4] (lOw (cLstRg (cVar 1)) (lOw (cLst cNil) lNil))) (sSeq (sForG (iRa (cVar 1)) (stName 5) (sAppPop 4 3 (cCall f__law_scoop (cCons (cVar 0) (cCons (cBi bLen (cCons (cBor 3) cNil)) cNil))))) (sFr 4 (sRt (cVar 4))))) sNil) (sSeq (sIf (cT (cOp opEq (cVar 2) (cC (.int 1)))) (sRt (cLC (iRa (cVar 1)) (tgName 5) cYes (cOp opSub (cCall f__law_scoop (cCons (cVar 0) (cCons (cOp opPow (cC (.int 10)) (cC (.int 12))) cNil))) (cOp opMul (cC (.int 5)) (cOp opPow (cC (.int 10)) (cC (.int 11))))) [5])) sNil) (sRt (cLC (iRa (cVar 1)) (tgName 5) cYes (cCall f__law_scoop (cCons (cVar 0) (cCons (cC (.int 3)) cNil))) [5])))))
def f__law_values : F := defF 2 6 b__law_values
def b__law_right : C := (sSeq (sForG (iRa (cC (.int 4))) (stName 1) (sSeq (sAsg 2 (cOp opAdd (cC (.int 1)) (cCall f__law_scoop (cCons (cVar 0) (cCons (cC (.int 9)) cNil))))) (sSeq (sPN [3, 4] (lPl (cBi bTup (cCons (cCall f__law_values (cCons (cVar 0) (cCons (cVar 2) cNil))) cNil)) (lPl (cCall f__law_any_of (cCons (cVar 0) (cCons (cLst (cCons (cC (.int 6)) (cCons (cC (.int 40)) (cCons (cOp opPow (cC (.int 10)) (cC (.int 19))) cNil)))) cNil))) lNil))) (sSeq (sPN [5, 6] (lPl (cBi bTup (cCons (cLC (iRa (cVar 2)) (tgName 7) cYes (cOp opSub (cCall f__law_scoop (cCons (cVar 0) (cCons (cVar 4) cNil))) (cOp opDiv (cVar 4) (cC (.int 2)))) [7]) cNil)) (lPl (cCall f__law_scoop (cCons (cVar 0) (cCons (cOp opAdd (cC (.int 1)) (cOp opDiv (cVar 4) (cC (.int 3)))) cNil))) lNil))) (sSeq (sAsg 8 (cCallL f__law_pairs_of (cCons (cVar 2) cNil) [6, 5] 2 4 (cB (cChain opLe opLe (cUn opNeg (cVar 2)) (cOp opSub (cOp opIx (cVar 3) (cVar 0)) (cOp opIx (cVar 3) (cVar 1))) (cVar 2))))) (sSeq (sAsg 9 (cLst (cCons (cCall f_Heap_line (cCons (cVar 3) (cCons (cVar 5) (cCons (cVar 6) cNil)))) (cCons (cCallK 0 3 (pmF [2, 1, 0] f_Heap_line) cNil (cCons (cVar 6) (cCons (cVar 5) (cCons (cVar 3) cNil)))) cNil)))) (sSeq (sIf (cNot (cT (cBi bAll (cCons (cLC (iSq (cVar 9)) (tgName 10) cYes (cAndV (cOp opEq (cFld 0 1 (cVar 10)) (cVar 8)) (cOp opEq (cFld 0 0 (cVar 10)) (cVar 3))) [10]) cNil)))) (sRt (cC (.bl false))) sNil) (sSeq (sPN [11, 12] (lOw (cLst cNil) (lPl (cCall f__law_any_of (cCons (cVar 0) (cCons (cLst (cCons (cC (.str "abc")) (cCons (cC (.str "aA1 ")) (cCons (cC (.str "xyz-\n")) cNil)))) cNil))) lNil))) (sSeq (sAsg 13 (cCall f__law_any_of (cCons (cVar 0) (cCons (cLst (cCons (cLst (cCons (cC (.int 0)) (cCons (cC (.int 2)) (cCons (cC (.int 3)) (cCons (cC (.int 3)) (cCons (cC (.int 6)) cNil)))))) (cCons (cLst (cCons (cC (.int 20)) (cCons (cC (.int 20)) (cCons (cC (.int 19)) cNil)))) cNil))) cNil)))) (sSeq (sForG (iRa (cVar 2)) (stName 7) (sApp 11 (cJoinX (cC (.str "")) (cLC (iRa (cCall f__law_any_of (cCons (cVar 0) (cCons (cVar 13) cNil)))) (tgName 14) cYes (cCall f__law_any_of (cCons (cVar 0) (cCons (cVar 12) cNil))) [14])))) (sSeq (sAsg 15 (cCall f__law_scoop (cCons (cVar 0) (cCons (cCall f__law_any_of (cCons (cVar 0) (cCons (cLst (cCons (cC (.int 4)) (cCons (cC (.int 22)) cNil))) cNil))) cNil)))) (sSeq (sFr 11 (sAsg 8 (cCallL f__law_pairs_of (cCons (cVar 2) cNil) [15, 11] 2 4 (cOp opLe (cCall f__law_unlike (cCons (cOp opIx (cVar 3) (cVar 0)) (cCons (cOp opIx (cVar 3) (cVar 1)) cNil))) (cVar 2))))) (sSeq (sAsg 9 (cLst (cCons (cCall f_Heap_words (cCons (cVar 3) (cCons (cBi bTup (cCons (cBor 11) cNil)) (cCons (cVar 15) cNil)))) (cCons (cCallK 0 3 (pmF [2, 1, 0] f_Heap_words) cNil (cCons (cVar 15) (cCons (cBi bTup (cCons (cBor 11) cNil)) (cCons (cVar 3) cNil)))) cNil)))) (sIf (cNot (cT (cBi bAll (cCons (cLC (iSq (cVar 9)) (tgName 10) cYes (cAndV (cOp opEq (cFld 0 1 (cVar 10)) (cVar 8)) (cOp opEq (cFld 0 0 (cVar 10)) (cVar 3))) [10]) cNil)))) (sRt (cC (.bl false))) sNil)))))))))))))) (sRt (cC (.bl true))))
def f__law_right : F := defF 1 16 b__law_right
def b__law_well : C := (sSeq (sAsg 2 (cIf (cT (cOp opLt (cVar 1) (cBi bLen (cCons (cVar 0) cNil)))) (cBi bInt (cCons (cOp opIx (cVar 0) (cVar 1)) cNil)) (cOp opAdd (cOp opMul (cC (.int 23)) (cVar 1)) (cC (.int 19))))) (sSeq (sAsg 3 (cOp opAdd (cC (.int 80021)) (cOp opMul (cC (.int 1213)) (cVar 1)))) (sSeq (sForG (iSq (cSl (cVar 0) cPn (cPs (cC (.int 12))))) (stName 4) (sAsg 3 (cOp opMod (cBi bInt (cCons (cOp opAdd (cOp opMul (cVar 3) (cC (.int 33331))) (cOp opMod (cBi bInt (cCons (cVar 4) cNil)) (cC (.int 1999999913)))) cNil)) (cC (.int 1999999913))))) (sRt (cShare (cLst (cCons (cOp opMod (cBi bInt (cCons (cOp opAdd (cOp opMul (cVar 3) (cC (.int 7))) (cOp opMod (cVar 2) (cC (.int 1999999913)))) cNil)) (cC (.int 1999999913))) (cCons (cIf (cOr (cT (cOp opLt (cVar 2) (cC (.int 0)))) (cT (cOp opGe (cVar 2) (cOp opPow (cC (.int 10)) (cC (.int 13)))))) (cBi bAbs (cCons (cVar 2) cNil)) (cC (.int 0))) (cCons (cC (.int 1)) cNil)))))))))
def f__law_well : F := defF 2 5 b__law_well
def b_law : C := (sRt (cBi bAll (cCons (cLC (iRa (cBi bMax (cCons (cC (.int 2)) (cCons (cBi bMin (cCons (cBi bLen (cCons (cVar 0) cNil)) (cCons (cC (.int 5)) cNil))) cNil)))) (tgName 1) cYes (cCall f__law_right (cCons (cCall f__law_well (cCons (cVar 0) (cCons (cVar 1) cNil))) cNil)) [1]) cNil)))
def f_law : F := defF 1 2 b_law
/-! what is asked of the top -/
structure Txt (K : PySem.W.Frag) (mg : Str → Option Value) (base : Heap) (ad : Nat → Addr) (fd : Nat → FuncData) (tl : List (Addr × Str)) : Prop where
  d_InvalidPairs___init__ : Fun K "__init__" "InvalidPairs.__init__" s_InvalidPairs___init__ (ad 108) (fd 108)
  b_InvalidPairs___init__ : Binds K (fd 108) ["self", "index"] []
  d_is_integer : Fun K "is_integer" "is_integer" s_is_integer (ad 109) (fd 109)
  b_is_integer : Binds K (fd 109) ["value"] []
  m_is_integer : mg "is_integer" = some (.ref (ad 109))
  k_is_integer : PySem.W.keepIn K (.ref (ad 109)) = true
  d_is_pair : Fun K "is_pair" "is_pair" s_is_pair (ad 110) (fd 110)
  b_is_pair : Binds K (fd 110) ["value", "count"] []
  m_is_pair : mg "is_pair" = some (.ref (ad 110))
  k_is_pair : PySem.W.keepIn K (.ref (ad 110)) = true
  d_check_pairs : Fun K "check_pairs" "check_pairs" s_check_pairs (ad 111) (fd 111)
  b_check_pairs : Binds K (fd 111) ["value", "count"] []
  m_check_pairs : mg "check_pairs" = some (.ref (ad 111))
  k_check_pairs : PySem.W.keepIn K (.ref (ad 111)) = true
  d_InvalidWorths___init__ : Fun K "__init__" "InvalidWorths.__init__" s_InvalidWorths___init__ (ad 112) (fd 112)
  b_InvalidWorths___init__ : Binds K (fd 112) ["self", "index"] []
  d_check_worths : Fun K "check_worths" "check_worths" s_check_worths (ad 113) (fd 113)
  b_check_worths : Binds K (fd 113) ["value"] []
  m_check_worths : mg "check_worths" = some (.ref (ad 113))
  k_check_worths : PySem.W.keepIn K (.ref (ad 113)) = true
  d_lot_of : Fun K "lot_of" "lot_of" s_lot_of (ad 114) (fd 114)
  b_lot_of : Binds K (fd 114) ["thing", "pairs"] []
  m_lot_of : mg "lot_of" = some (.ref (ad 114))
  k_lot_of : PySem.W.keepIn K (.ref (ad 114)) = true
  d_Heap___init__ : Fun K "__init__" "Heap.__init__" s_Heap___init__ (ad 115) (fd 115)
  b_Heap___init__ : Binds K (fd 115) ["self", "worths", "pairs"] []
  d_InvalidPlaces___init__ : Fun K "__init__" "InvalidPlaces.__init__" s_InvalidPlaces___init__ (ad 116) (fd 116)
  b_InvalidPlaces___init__ : Binds K (fd 116) ["self", "index"] []
  d_check_places : Fun K "check_places" "check_places" s_check_places (ad 117) (fd 117)
  b_check_places : Binds K (fd 117) ["value", "count"] []
  m_check_places : mg "check_places" = some (.ref (ad 117))
  k_check_places : PySem.W.keepIn K (.ref (ad 117)) = true
  d_InvalidReach___init__ : Fun K "__init__" "InvalidReach.__init__" s_InvalidReach___init__ (ad 118) (fd 118)
  b_InvalidReach___init__ : Binds K (fd 118) ["self", "value"] []
  d_check_reach : Fun K "check_reach" "check_reach" s_check_reach (ad 119) (fd 119)
  b_check_reach : Binds K (fd 119) ["value"] []
  m_check_reach : mg "check_reach" = some (.ref (ad 119))
  k_check_reach : PySem.W.keepIn K (.ref (ad 119)) = true
  d_pairs_with : Fun K "pairs_with" "pairs_with" s_pairs_with (ad 120) (fd 120)
  b_pairs_with : Binds K (fd 120) ["count", "test"] []
  m_pairs_with : mg "pairs_with" = some (.ref (ad 120))
  k_pairs_with : PySem.W.keepIn K (.ref (ad 120)) = true
  d_Heap_line : Fun K "line" "Heap.line" s_Heap_line (ad 121) (fd 121)
  b_Heap_line : Binds K (fd 121) ["worths", "places", "reach"] []
  tb_Heap_line : ∃ c P, LamX.TabB base mg c P ∧ (fd 121).code = .ref c ∧ (P, ("Heap.line.<locals>.<lambda>" : Str)) ∈ tl ∧ ∀ p, p ∈ tl → p.1 = P → p.2 = "Heap.line.<locals>.<lambda>"
  d_are_close : Fun K "are_close" "are_close" s_are_close (ad 122) (fd 122)
  b_are_close : Binds K (fd 122) ["one", "other", "most"] []
  m_are_close : mg "are_close" = some (.ref (ad 122))
  k_are_close : PySem.W.keepIn K (.ref (ad 122)) = true
  d_InvalidWords___init__ : Fun K "__init__" "InvalidWords.__init__" s_InvalidWords___init__ (ad 123) (fd 123)
  b_InvalidWords___init__ : Binds K (fd 123) ["self", "index"] []
  d_check_words : Fun K "check_words" "check_words" s_check_words (ad 124) (fd 124)
  b_check_words : Binds K (fd 124) ["value", "count"] []
  m_check_words : mg "check_words" = some (.ref (ad 124))
  k_check_words : PySem.W.keepIn K (.ref (ad 124)) = true
  d_Heap_words : Fun K "words" "Heap.words" s_Heap_words (ad 125) (fd 125)
  b_Heap_words : Binds K (fd 125) ["worths", "words", "most"] []
  tb_Heap_words : ∃ c P, LamX.TabB base mg c P ∧ (fd 125).code = .ref c ∧ (P, ("Heap.words.<locals>.<lambda>" : Str)) ∈ tl ∧ ∀ p, p ∈ tl → p.1 = P → p.2 = "Heap.words.<locals>.<lambda>"
  d__law_scoop : Fun K "_law_scoop" "_law_scoop" s__law_scoop (ad 126) (fd 126)
  b__law_scoop : Binds K (fd 126) ["_law_well_here", "_law_many"] []
  m__law_scoop : mg "_law_scoop" = some (.ref (ad 126))
  k__law_scoop : PySem.W.keepIn K (.ref (ad 126)) = true
  d__law_any_of : Fun K "_law_any_of" "_law_any_of" s__law_any_of (ad 127) (fd 127)
  b__law_any_of : Binds K (fd 127) ["_law_well_here", "_law_some"] []
  m__law_any_of : mg "_law_any_of" = some (.ref (ad 127))
  k__law_any_of : PySem.W.keepIn K (.ref (ad 127)) = true
  d__law_pairs_of : Fun K "_law_pairs_of" "_law_pairs_of" s__law_pairs_of (ad 128) (fd 128)
  b__law_pairs_of : Binds K (fd 128) ["_law_many", "_law_test"] []
  m__law_pairs_of : mg "_law_pairs_of" = some (.ref (ad 128))
  k__law_pairs_of : PySem.W.keepIn K (.ref (ad 128)) = true
  d__law_unlike : Fun K "_law_unlike" "_law_unlike" s__law_unlike (ad 129) (fd 129)
  b__law_unlike : Binds K (fd 129) ["_law_one", "_law_two"] []
  m__law_unlike : mg "_law_unlike" = some (.ref (ad 129))
  k__law_unlike : PySem.W.keepIn K (.ref (ad 129)) = true
  d__law_values : Fun K "_law_values" "_law_values" s__law_values (ad 130) (fd 130)
  b__law_values : Binds K (fd 130) ["_law_well_here", "_law_many"] []
  m__law_values : mg "_law_values" = some (.ref (ad 130))
  k__law_values : PySem.W.keepIn K (.ref (ad 130)) = true
  d__law_right : Fun K "_law_right" "_law_right" s__law_right (ad 131) (fd 131)
  b__law_right : Binds K (fd 131) ["_law_well_here"] []
  tb__law_right : ∃ c P, LamX.TabB base mg c P ∧ (fd 131).code = .ref c ∧ (P, ("_law_right.<locals>.<lambda>" : Str)) ∈ tl ∧ ∀ p, p ∈ tl → p.1 = P → p.2 = "_law_right.<locals>.<lambda>"
  m__law_right : mg "_law_right" = some (.ref (ad 131))
  k__law_right : PySem.W.keepIn K (.ref (ad 131)) = true
  d__law_well : Fun K "_law_well" "_law_well" s__law_well (ad 132) (fd 132)
  b__law_well : Binds K (fd 132) ["_law_script", "_law_k"] []
  m__law_well : mg "_law_well" = some (.ref (ad 132))
  k__law_well : PySem.W.keepIn K (.ref (ad 132)) = true
  d_law : Fun K "law" "law" s_law (ad 133) (fd 133)
  b_law : Binds K (fd 133) ["_law_script"] []
  m_law : mg "law" = some (.ref (ad 133))
  k_law : PySem.W.keepIn K (.ref (ad 133)) = true
  mk_Heap : Mk K (ad 0) (ad 115)
  m_Heap : mg "Heap" = some (.ref (ad 0))
  k_Heap : PySem.W.keepIn K (.ref (ad 0)) = true
  cl_Heap : Cls K (ad 0)
  no_Heap_worths : NoAttr K (ad 0) "worths"
  no_Heap_pairs : NoAttr K (ad 0) "pairs"
  no_Heap_by_thing : NoAttr K (ad 0) "by_thing"
  no_Heap_lots : NoAttr K (ad 0) "lots"
  no_Heap_passes_on : NoAttr K (ad 0) "passes_on"
  cI_Heap : ClsI K (ad 0)
  kT_Heap_bool : PySem.W.kitOne K (.ref (ad 0)) (.type "bool") = some false
  kT_Heap_int : PySem.W.kitOne K (.ref (ad 0)) (.type "int") = some false
  kT_Heap_str : PySem.W.kitOne K (.ref (ad 0)) (.type "str") = some false
  kT_Heap_tuple : PySem.W.kitOne K (.ref (ad 0)) (.type "tuple") = some false
  sg_Heap_line : PySem.W.specialIn K (.ref (ad 0)) "__getattribute__" = some (some (.builtin "type.__getattribute__"))
  sy_Heap_line : PySem.W.typeIn K (.ref (ad 0)) = some (.type "type")
  sr_Heap_line : PySem.W.readsIn K (ad 0) (.type "type") = true
  sf_Heap_line : ∃ p rest, PySem.W.findCls K (.ref (ad 0)) (.type "type") "line" = some (.get (.builtin "staticmethod.__get__") (.ref p) .none (.ref (ad 0))) ∧ PySem.W.recIn K p "staticmethod" = some (.ref (ad 121) :: rest)
  sk_Heap_line : PySem.W.keepIn K (.ref (ad 121)) = true
  sg_Heap_words : PySem.W.specialIn K (.ref (ad 0)) "__getattribute__" = some (some (.builtin "type.__getattribute__"))
  sy_Heap_words : PySem.W.typeIn K (.ref (ad 0)) = some (.type "type")
  sr_Heap_words : PySem.W.readsIn K (ad 0) (.type "type") = true
  sf_Heap_words : ∃ p rest, PySem.W.findCls K (.ref (ad 0)) (.type "type") "words" = some (.get (.builtin "staticmethod.__get__") (.ref p) .none (.ref (ad 0))) ∧ PySem.W.recIn K p "staticmethod" = some (.ref (ad 125) :: rest)
  sk_Heap_words : PySem.W.keepIn K (.ref (ad 125)) = true
  x_InvalidReach : OexC K (ad 20)
  ii_InvalidReach : PySem.W.findIn K (.ref (ad 20)) "__init__" = some (some (.ref (ad 118)))
  ti_InvalidReach : PySem.W.typeIn K (.ref (ad 118)) = some (.type "function")
  xn_InvalidReach : PySem.W.findIn K (.ref (ad 20)) "value" = some none
  m_InvalidReach : mg "InvalidReach" = some (.ref (ad 20))
  x_InvalidWorths : OexC K (ad 24)
  ii_InvalidWorths : PySem.W.findIn K (.ref (ad 24)) "__init__" = some (some (.ref (ad 112)))
  ti_InvalidWorths : PySem.W.typeIn K (.ref (ad 112)) = some (.type "function")
  xn_InvalidWorths : PySem.W.findIn K (.ref (ad 24)) "index" = some none
  m_InvalidWorths : mg "InvalidWorths" = some (.ref (ad 24))
  x_InvalidPairs : OexC K (ad 25)
  ii_InvalidPairs : PySem.W.findIn K (.ref (ad 25)) "__init__" = some (some (.ref (ad 108)))
  ti_InvalidPairs : PySem.W.typeIn K (.ref (ad 108)) = some (.type "function")
  xn_InvalidPairs : PySem.W.findIn K (.ref (ad 25)) "index" = some none
  m_InvalidPairs : mg "InvalidPairs" = some (.ref (ad 25))
  x_InvalidPlaces : OexC K (ad 26)
  ii_InvalidPlaces : PySem.W.findIn K (.ref (ad 26)) "__init__" = some (some (.ref (ad 116)))
  ti_InvalidPlaces : PySem.W.typeIn K (.ref (ad 116)) = some (.type "function")
  xn_InvalidPlaces : PySem.W.findIn K (.ref (ad 26)) "index" = some none
  m_InvalidPlaces : mg "InvalidPlaces" = some (.ref (ad 26))
  x_InvalidWords : OexC K (ad 27)
  ii_InvalidWords : PySem.W.findIn K (.ref (ad 27)) "__init__" = some (some (.ref (ad 123)))
  ti_InvalidWords : PySem.W.typeIn K (.ref (ad 123)) = some (.type "function")
  xn_InvalidWords : PySem.W.findIn K (.ref (ad 27)) "index" = some none
  m_InvalidWords : mg "InvalidWords" = some (.ref (ad 27))
  i_MOST_LETTERS : ∃ t, mg "MOST_LETTERS" = some (.int 20 t)
  i_MOST_THINGS : ∃ t, mg "MOST_THINGS" = some (.int 9 t)
  n_abs : mg "abs" = none
  n_all : mg "all" = none
  n_bool : mg "bool" = none
  n_divmod : mg "divmod" = none
  n_enumerate : mg "enumerate" = none
  n_int : mg "int" = none
  n_isinstance : mg "isinstance" = none
  n_len : mg "len" = none
  n_list : mg "list" = none
  n_max : mg "max" = none
  n_min : mg "min" = none
  n_range : mg "range" = none
  n_sorted : mg "sorted" = none
  n_str : mg "str" = none
  n_sum : mg "sum" = none
  n_tuple : mg "tuple" = none
  n_zip : mg "zip" = none
theorem units65 {k : Nat} {A : Around} (r : Room k A) : A.units + 65 < cLine := by have := r.un; omega
section
variable {P : Program} {w : World} {K : PySem.W.Frag} {mg : Str → Option Value} {base : Heap} {ad : Nat → Addr} {fd : Nat → FuncData} {tl : List (Addr × Str)} {X : Cx} {W : WX} {k : Nat}
theorem fa_Heap_worths (T : Txt K mg base ad fd tl) : FieldAt (gp w K ad tl) K 0 0 "worths" := ⟨rfl, by show (cfs 0).Nodup; decide +kernel, T.cl_Heap, T.no_Heap_worths⟩
theorem fi_Heap_worths (T : Txt K mg base ad fd tl) : FieldI (gp w K ad tl) K 0 0 "worths" := ⟨fa_Heap_worths T, by show decide ((cfs 0).take 0 ∈ fins) = false; decide +kernel, by show (cfs 0).length ≤ 900; decide +kernel, fun _ => by show decide ((cfs 0).take (0 + 1) ∈ fins) = false; decide +kernel⟩
theorem fa_Heap_pairs (T : Txt K mg base ad fd tl) : FieldAt (gp w K ad tl) K 0 1 "pairs" := ⟨rfl, by show (cfs 0).Nodup; decide +kernel, T.cl_Heap, T.no_Heap_pairs⟩
theorem fi_Heap_pairs (T : Txt K mg base ad fd tl) : FieldI (gp w K ad tl) K 0 1 "pairs" := ⟨fa_Heap_pairs T, by show decide ((cfs 0).take 1 ∈ fins) = false; decide +kernel, by show (cfs 0).length ≤ 900; decide +kernel, fun _ => by show decide ((cfs 0).take (1 + 1) ∈ fins) = false; decide +kernel⟩
theorem fa_Heap_by_thing (T : Txt K mg base ad fd tl) : FieldAt (gp w K ad tl) K 0 2 "by_thing" := ⟨rfl, by show (cfs 0).Nodup; decide +kernel, T.cl_Heap, T.no_Heap_by_thing⟩
theorem fi_Heap_by_thing (T : Txt K mg base ad fd tl) : FieldI (gp w K ad tl) K 0 2 "by_thing" := ⟨fa_Heap_by_thing T, by show decide ((cfs 0).take 2 ∈ fins) = false; decide +kernel, by show (cfs 0).length ≤ 900; decide +kernel, fun _ => by show decide ((cfs 0).take (2 + 1) ∈ fins) = false; decide +kernel⟩
theorem fa_Heap_lots (T : Txt K mg base ad fd tl) : FieldAt (gp w K ad tl) K 0 3 "lots" := ⟨rfl, by show (cfs 0).Nodup; decide +kernel, T.cl_Heap, T.no_Heap_lots⟩
theorem fi_Heap_lots (T : Txt K mg base ad fd tl) : FieldI (gp w K ad tl) K 0 3 "lots" := ⟨fa_Heap_lots T, by show decide ((cfs 0).take 3 ∈ fins) = false; decide +kernel, by show (cfs 0).length ≤ 900; decide +kernel, fun _ => by show decide ((cfs 0).take (3 + 1) ∈ fins) = false; decide +kernel⟩
theorem fa_Heap_passes_on (T : Txt K mg base ad fd tl) : FieldAt (gp w K ad tl) K 0 4 "passes_on" := ⟨rfl, by show (cfs 0).Nodup; decide +kernel, T.cl_Heap, T.no_Heap_passes_on⟩
theorem fi_Heap_passes_on (T : Txt K mg base ad fd tl) : FieldI (gp w K ad tl) K 0 4 "passes_on" := ⟨fa_Heap_passes_on T, by show decide ((cfs 0).take 4 ∈ fins) = false; decide +kernel, by show (cfs 0).length ≤ 900; decide +kernel, fun h => absurd h (by show ¬ (4 + 1 < (cfs 0).length); decide +kernel)⟩
theorem it_bool (T : Txt X.K X.mg X.base ad fd tl) : ∀ c, c ∈ own_all → ClsI X.K ((gp X.w X.K ad tl).cm c) ∧ PySem.W.kitOne X.K (.ref ((gp X.w X.K ad tl).cm c)) (.type (Ty.nm .bl)) = some false := by
  intro c hc
  simp only [own_all, List.mem_cons, List.not_mem_nil, or_false] at hc
  subst hc; exact ⟨T.cI_Heap, T.kT_Heap_bool⟩
theorem it_int (T : Txt X.K X.mg X.base ad fd tl) : ∀ c, c ∈ own_all → ClsI X.K ((gp X.w X.K ad tl).cm c) ∧ PySem.W.kitOne X.K (.ref ((gp X.w X.K ad tl).cm c)) (.type (Ty.nm .int)) = some false := by
  intro c hc
  simp only [own_all, List.mem_cons, List.not_mem_nil, or_false] at hc
  subst hc; exact ⟨T.cI_Heap, T.kT_Heap_int⟩
theorem it_str (T : Txt X.K X.mg X.base ad fd tl) : ∀ c, c ∈ own_all → ClsI X.K ((gp X.w X.K ad tl).cm c) ∧ PySem.W.kitOne X.K (.ref ((gp X.w X.K ad tl).cm c)) (.type (Ty.nm .str)) = some false := by
  intro c hc
  simp only [own_all, List.mem_cons, List.not_mem_nil, or_false] at hc
  subst hc; exact ⟨T.cI_Heap, T.kT_Heap_str⟩
theorem it_tuple (T : Txt X.K X.mg X.base ad fd tl) : ∀ c, c ∈ own_all → ClsI X.K ((gp X.w X.K ad tl).cm c) ∧ PySem.W.kitOne X.K (.ref ((gp X.w X.K ad tl).cm c)) (.type (Ty.nm .tup)) = some false := by
  intro c hc
  simp only [own_all, List.mem_cons, List.not_mem_nil, or_false] at hc
  subst hc; exact ⟨T.cI_Heap, T.kT_Heap_tuple⟩
theorem st_Heap_line (T : Txt X.K X.mg X.base ad fd tl) : StatC X.K (ad 0) "line" (ad 121) := ⟨T.sg_Heap_line, T.sy_Heap_line, T.sr_Heap_line, T.sf_Heap_line, T.sk_Heap_line⟩
theorem st_Heap_words (T : Txt X.K X.mg X.base ad fd tl) : StatC X.K (ad 0) "words" (ad 125) := ⟨T.sg_Heap_words, T.sy_Heap_words, T.sr_Heap_words, T.sf_Heap_words, T.sk_Heap_words⟩
/-! the derivations -/
theorem sc_InvalidPairs___init__ : FnScope ["self", "index"] ["self", "index"] (defScope s_InvalidPairs___init__) := ⟨rfl, rfl, rfl, by decide +kernel, rfl, by decide +kernel, by decide +kernel⟩
theorem okx_InvalidPairs (T : Txt K mg base ad fd tl) : FnOk P w K mg base (L2.CX P w) 1 (ad 108) (fd 108) ["self", "index"] (spX (ad 25) "index") := initX_of T.d_InvalidPairs___init__ sc_InvalidPairs___init__ rfl T.x_InvalidPairs T.xn_InvalidPairs (by decide +kernel) (by decide +kernel)
theorem sc_is_integer : FnScope ["value"] ["value"] (defScope s_is_integer) := ⟨rfl, rfl, rfl, by decide +kernel, rfl, by decide +kernel, by decide +kernel⟩
theorem ok_is_integer (T : Txt K mg base ad fd tl) : FnOk P w K mg base (L2.CX P w) 1 (ad 109) (fd 109) ["value"] (spF (gp w K ad tl) f_is_integer) :=
  fnOk_of (N := ["value"]) T.d_is_integer sc_is_integer (fun cdv A outer s H E μ _ hr =>
    (fss_one (fs_ret (fe_and (pe_nf (fe_isT .int own_all rfl rfl T.n_isinstance rfl T.n_int PyProof.Rows.boot_int (it_int T) (pe_b (fe_var 0)))) (fe_one (fe_not (M' := MF _) (pe_nf (fe_isT .bl own_all rfl rfl T.n_isinstance rfl T.n_bool PyProof.Rows.boot_bool (it_bool T) (pe_b (fe_var 0))))))))))
theorem cal_is_integer (T : Txt X.K X.mg X.base ad fd tl) (tk : Takes X W) (hr : Room k X.A) (hk : 1 ≤ k := by decide) : CalF X (gp X.w X.K ad tl) W (.ref (ad 109)) f_is_integer := cal_ok (ok_is_integer T) (hr.mono hk) T.b_is_integer tk
theorem sc_is_pair : FnScope ["value", "count", "thing"] ["value", "count"] (defScope s_is_pair) := ⟨rfl, rfl, rfl, by decide +kernel, rfl, by decide +kernel, by decide +kernel⟩
theorem ok_is_pair (T : Txt K mg base ad fd tl) : FnOk P w K mg base (L2.CX P w) 2 (ad 110) (fd 110) ["value", "count"] (spF (gp w K ad tl) f_is_pair) :=
  fnOk_of (N := ["value", "count", "thing"]) T.d_is_pair sc_is_pair (fun cdv A outer s H E μ _ hr =>
    (fss_cons (fs_if (ft_w (fw_or (ft_not (ft_val (fe_isT .tup own_all rfl rfl T.n_isinstance rfl T.n_tuple PyProof.Rows.boot_tuple (it_tuple T) (pe_b (fe_var 0))))) (fw_or1 (ft_cmp (op_neF rfl hr.units) (pe_nb (fe_bi (cb_len rfl) rfl T.n_len boot_len (fa_consB (pe_b (fe_var 0)) fa_nilB))) (pe_b fe_int))))) (fss_one (fs_ret fe_bl)) fss_nil) (fss_one (fs_ret (fe_and (pe_nf (fe_bi (cb_all rfl rfl) rfl T.n_all PyProof.Rows.boot_all (fa_consB (pe_nb (fe_lc (own := [("thing", 2)]) rfl sc_is_pair.nd (fi_seqB rfl (pe_b (fe_var 0))) (blkOk_by rfl) (fun _ _ _ _ _ => (fge_name 2 sc_is_pair.nd rfl (by first | exact .inl rfl | exact .inr rfl))) (fun _ _ _ _ _ => fpts_nil) (fun _ _ _ _ _ => (fe_call (cal_is_integer T takes0 hr) rfl T.m_is_integer T.k_is_integer (fa_consF (fe_var 2) fa_nilF))))) fa_nilB))) (fe_one (fe_chain3 (M := MF _) op_leF (op_ltF rfl hr.units0) (op_ltF rfl hr.units0) (pe_b fe_int) (pe_b (fe_ix rfl (pe_b (fe_var 0)) (pe_b fe_int))) (pe_b (fe_ix rfl (pe_b (fe_var 0)) (pe_b fe_int))) (pe_b (fe_var 1)))))))))
theorem cal_is_pair (T : Txt X.K X.mg X.base ad fd tl) (tk : Takes X W) (hr : Room k X.A) (hk : 2 ≤ k := by decide) : CalF X (gp X.w X.K ad tl) W (.ref (ad 110)) f_is_pair := cal_ok (ok_is_pair T) (hr.mono hk) T.b_is_pair tk
theorem sc_check_pairs : FnScope ["value", "count", "index", "pair"] ["value", "count"] (defScope s_check_pairs) := ⟨rfl, rfl, rfl, by decide +kernel, rfl, by decide +kernel, by decide +kernel⟩
theorem ok_check_pairs (T : Txt K mg base ad fd tl) : FnOk P w K mg base (L2.CX P w) 3 (ad 111) (fd 111) ["value", "count"] (spF (gp w K ad tl) f_check_pairs) :=
  fnOk_of (N := ["value", "count", "index", "pair"]) T.d_check_pairs sc_check_pairs (fun cdv A outer s H E μ _ hr =>
    (fss_cons (fs_if (ft_not (ft_val (fe_isT .tup own_all rfl rfl T.n_isinstance rfl T.n_tuple PyProof.Rows.boot_tuple (it_tuple T) (pe_b (fe_var 0))))) (fss_one (fs_raise rfl (takes_of rfl rfl rfl rfl) (fmk_exc T.x_InvalidPairs T.ii_InvalidPairs T.ti_InvalidPairs rfl (okx_InvalidPairs T) (hr.mono (by decide)) T.b_InvalidPairs___init__ passL rfl T.m_InvalidPairs fe_non))) fss_nil) (fss_one (fs_for (passes_of rfl) rfl (fi_enumF rfl rfl T.n_enumerate (fe_var 0)) (fg_tup rfl rfl (fgs_cons (fg_name 2 sc_check_pairs.nd rfl (by first | exact .inl rfl | exact .inr rfl)) (fgs_cons (fg_name 3 sc_check_pairs.nd rfl (by first | exact .inl rfl | exact .inr rfl)) fgs_nil))) (fss_one (fs_if (ft_w (fw_or (ft_not (ft_val (fe_call (cal_is_pair T (takes_of rfl rfl rfl rfl) hr) rfl T.m_is_pair T.k_is_pair (fa_consF (fe_var 3) (fa_consF (fe_var 1) fa_nilF))))) (fw_or1 (ft_w (fw_and (ft_cmp op_gtF (pe_b (fe_var 2)) (pe_b fe_int)) (fw_and1 (ft_not (ft_cmp (op_ltF rfl hr.units0) (pe_b (fe_ix rfl (pe_b (fe_var 0)) (pe_nb (fe_op op_subF (pe_b (fe_var 2)) (pe_b fe_int))))) (pe_b (fe_var 3)))))))))) (fss_one (fs_raise rfl (takes_of rfl rfl rfl rfl) (fmk_exc T.x_InvalidPairs T.ii_InvalidPairs T.ti_InvalidPairs rfl (okx_InvalidPairs T) (hr.mono (by decide)) T.b_InvalidPairs___init__ passL rfl T.m_InvalidPairs (fe_var 2)))) fss_nil))))))
theorem cal_check_pairs (T : Txt X.K X.mg X.base ad fd tl) (tk : Takes X W) (hr : Room k X.A) (hk : 3 ≤ k := by decide) : CalF X (gp X.w X.K ad tl) W (.ref (ad 111)) f_check_pairs := cal_ok (ok_check_pairs T) (hr.mono hk) T.b_check_pairs tk
theorem sc_InvalidWorths___init__ : FnScope ["self", "index"] ["self", "index"] (defScope s_InvalidWorths___init__) := ⟨rfl, rfl, rfl, by decide +kernel, rfl, by decide +kernel, by decide +kernel⟩
theorem okx_InvalidWorths (T : Txt K mg base ad fd tl) : FnOk P w K mg base (L2.CX P w) 1 (ad 112) (fd 112) ["self", "index"] (spX (ad 24) "index") := initX_of T.d_InvalidWorths___init__ sc_InvalidWorths___init__ rfl T.x_InvalidWorths T.xn_InvalidWorths (by decide +kernel) (by decide +kernel)
theorem sc_check_worths : FnScope ["value", "index", "worth"] ["value"] (defScope s_check_worths) := ⟨rfl, rfl, rfl, by decide +kernel, rfl, by decide +kernel, by decide +kernel⟩
theorem ok_check_worths (T : Txt K mg base ad fd tl) : FnOk P w K mg base (L2.CX P w) 3 (ad 113) (fd 113) ["value"] (spF (gp w K ad tl) f_check_worths) :=
  fnOk_of (N := ["value", "index", "worth"]) T.d_check_worths sc_check_worths (fun cdv A outer s H E μ _ hr =>
    (fss_cons (fs_if (ft_w (fw_or (ft_not (ft_val (fe_isT .tup own_all rfl rfl T.n_isinstance rfl T.n_tuple PyProof.Rows.boot_tuple (it_tuple T) (pe_b (fe_var 0))))) (fw_or1 (ft_not (ft_chain op_leF op_leF (pe_b fe_int) (pe_nb (fe_bi (cb_len rfl) rfl T.n_len boot_len (fa_consB (pe_b (fe_var 0)) fa_nilB))) (pe_b (fe_gint rfl T.i_MOST_THINGS))))))) (fss_one (fs_raise rfl (takes_of rfl rfl rfl rfl) (fmk_exc T.x_InvalidWorths T.ii_InvalidWorths T.ti_InvalidWorths rfl (okx_InvalidWorths T) (hr.mono (by decide)) T.b_InvalidWorths___init__ passL rfl T.m_InvalidWorths fe_non))) fss_nil) (fss_one (fs_for (passes_of rfl) rfl (fi_enumF rfl rfl T.n_enumerate (fe_var 0)) (fg_tup rfl rfl (fgs_cons (fg_name 1 sc_check_worths.nd rfl (by first | exact .inl rfl | exact .inr rfl)) (fgs_cons (fg_name 2 sc_check_worths.nd rfl (by first | exact .inl rfl | exact .inr rfl)) fgs_nil))) (fss_one (fs_if (ft_not (ft_val (fe_call (cal_is_integer T (takes_of rfl rfl rfl rfl) hr) rfl T.m_is_integer T.k_is_integer (fa_consF (fe_var 2) fa_nilF)))) (fss_one (fs_raise rfl (takes_of rfl rfl rfl rfl) (fmk_exc T.x_InvalidWorths T.ii_InvalidWorths T.ti_InvalidWorths rfl (okx_InvalidWorths T) (hr.mono (by decide)) T.b_InvalidWorths___init__ passL rfl T.m_InvalidWorths (fe_var 1)))) fss_nil))))))
theorem cal_check_worths (T : Txt X.K X.mg X.base ad fd tl) (tk : Takes X W) (hr : Room k X.A) (hk : 3 ≤ k := by decide) : CalF X (gp X.w X.K ad tl) W (.ref (ad 113)) f_check_worths := cal_ok (ok_check_worths T) (hr.mono hk) T.b_check_worths tk
theorem sc_lot_of : FnScope ["thing", "pairs", "found", "waiting", "here", "one", "other"] ["thing", "pairs"] (defScope s_lot_of) := ⟨rfl, rfl, rfl, by decide +kernel, rfl, by decide +kernel, by decide +kernel⟩
theorem ok_lot_of (T : Txt K mg base ad fd tl) : FnOk P w K mg base (L2.CX P w) 1 (ad 114) (fd 114) ["thing", "pairs"] (spF (gp w K ad tl) f_lot_of) :=
  fnOk_of (N := ["thing", "pairs", "found", "waiting", "here", "one", "other"]) T.d_lot_of sc_lot_of (fun cdv A outer s H E μ _ hr =>
    (fss_cons (fs_par 2 3 rfl sc_lot_of.nd rfl rfl (by decide) rfl rfl (fl_ow (fe_lst fa_nilF) (fl_ow (fe_lst (fa_consF (fe_var 0) fa_nilF)) fl_nil)) rfl) (fss_cons (fs_while 100000 (passes_of rfl) (ft_cmp op_gtF (pe_nb (fe_bi (cb_len rfl) rfl T.n_len boot_len (fa_consB (fe_bor 3) fa_nilB))) (pe_b fe_int)) (fss_cons (fs_asg 4 sc_lot_of.nd rfl (by first | exact .inl rfl | exact .inr rfl) (fe_ix rfl (fe_bor 3) (pe_nb (fe_un un_negF (pe_b fe_int))))) (fss_cons (fs_del 3 rfl (pe_nb (fe_un un_negF (pe_b fe_int)))) (fss_one (fs_if (ft_cmp (op_notInF rfl (units65 hr)) (pe_b (fe_var 4)) (fe_bor 2)) (fss_cons (fs_app 2 rfl (fe_var 4)) (fss_one (fs_for (passes_of rfl) rfl (fi_seqF rfl (fe_var 1)) (fg_tup rfl rfl (fgs_cons (fg_name 5 sc_lot_of.nd rfl (by first | exact .inl rfl | exact .inr rfl)) (fgs_cons (fg_name 6 sc_lot_of.nd rfl (by first | exact .inl rfl | exact .inr rfl)) fgs_nil))) (fss_one (fs_if (ft_cmp (op_inF rfl (units65 hr)) (pe_b (fe_var 4)) (pe_b (fe_tup (fa_consF (fe_var 5) (fa_consF (fe_var 6) fa_nilF))))) (fss_one (fs_app 3 rfl (pe_nf (fe_op op_subF (pe_nb (fe_op (op_addF rfl) (pe_b (fe_var 5)) (pe_b (fe_var 6)))) (pe_b (fe_var 4)))))) fss_nil))))) fss_nil))))) (fss_one (fs_ret (pe_nf (fe_ty (cb_tup rfl) rfl T.n_tuple PyProof.Rows.boot_tuple (fa_consB (pe_nb (fe_bi (cb_sortD rfl hr.units) rfl T.n_sorted PyProof.Rows.boot_sorted (fa_consB (fe_bor 2) fa_nilB))) fa_nilB))))))))
theorem cal_lot_of (T : Txt X.K X.mg X.base ad fd tl) (tk : Takes X W) (hr : Room k X.A) (hk : 1 ≤ k := by decide) : CalF X (gp X.w X.K ad tl) W (.ref (ad 114)) f_lot_of := cal_ok (ok_lot_of T) (hr.mono hk) T.b_lot_of tk
theorem sc_Heap___init__ : FnScope ["self", "worths", "pairs", "thing", "lot"] ["self", "worths", "pairs"] (defScope s_Heap___init__) := ⟨rfl, rfl, rfl, by decide +kernel, rfl, by decide +kernel, by decide +kernel⟩
theorem ok_Heap___init__ (T : Txt K mg base ad fd tl) : FnOk P w K mg base (L2.CX P w) 4 (ad 115) (fd 115) ["self", "worths", "pairs"] (spI (gp w K ad tl) 0 i_Heap) :=
  initOk_of (G := gp w K ad tl) (c := 0) T.d_Heap___init__ sc_Heap___init__ rfl (fun _ => by show decide ([] ∈ fins) = false; decide +kernel) (fun cdv A outer s H E μ x hr =>
    (fss_cons (fs_expr (fe_call (cal_check_worths T (takes_of rfl rfl rfl rfl) hr) rfl T.m_check_worths T.k_check_worths (fa_consF (fe_var 1) fa_nilF))) (fss_cons (fs_expr (fe_call (cal_check_pairs T (takes_of rfl rfl rfl rfl) hr) rfl T.m_check_pairs T.k_check_pairs (fa_consF (fe_var 2) (fa_consF (pe_nf (fe_bi (cb_len rfl) rfl T.n_len boot_len (fa_consB (pe_b (fe_var 1)) fa_nilB))) fa_nilF)))) (fss_cons (fs_fldI 0 (fi_Heap_worths T) (fe_var 1)) (fss_cons (fs_fldI 0 (fi_Heap_pairs T) (fe_var 2)) (fss_cons (fs_fldI 0 (fi_Heap_by_thing T) (pe_nf (fe_ty (cb_tup rfl) rfl T.n_tuple PyProof.Rows.boot_tuple (fa_consB (pe_nb (fe_lc (own := [("thing", 3)]) rfl sc_Heap___init__.nd (fi_fb (fi_range1 rfl T.n_range (pe_nb (fe_bi (cb_len rfl) rfl T.n_len boot_len (fa_consB (pe_b (fe_var 1)) fa_nilB))))) (blkOk_by rfl) (fun _ _ _ _ _ => (fge_name 3 sc_Heap___init__.nd rfl (by first | exact .inl rfl | exact .inr rfl))) (fun _ _ _ _ _ => fpts_nil) (fun _ _ _ _ _ => (fe_call (cal_lot_of T takes0 hr) rfl T.m_lot_of T.k_lot_of (fa_consF (fe_var 3) (fa_consF (fe_var 2) fa_nilF)))))) fa_nilB)))) (fss_cons (fs_fldI 0 (fi_Heap_lots T) (pe_nf (fe_ty (cb_tup rfl) rfl T.n_tuple PyProof.Rows.boot_tuple (fa_consB (pe_nb (fe_lc (own := [("thing", 3), ("lot", 4)]) rfl sc_Heap___init__.nd (fi_enumB rfl rfl T.n_enumerate (pe_b (fe_fldO 0 (fa_Heap_by_thing T)))) (blkOk_by rfl) (fun _ _ _ _ _ => (fge_tup rfl rfl (fges_cons (fge_name 3 sc_Heap___init__.nd rfl (by first | exact .inl rfl | exact .inr rfl)) (fges_cons (fge_name 4 sc_Heap___init__.nd rfl (by first | exact .inl rfl | exact .inr rfl)) fges_nil)))) (fun _ _ _ _ _ => (fpts_one (ft_cmp (op_eqF rfl hr.units) (pe_b (fe_ix rfl (pe_b (fe_var 4)) (pe_b fe_int))) (pe_b (fe_var 3))))) (fun _ _ _ _ _ => (fe_var 4)))) fa_nilB)))) (fss_one (fs_fldI 0 (fi_Heap_passes_on T) (pe_nf (fe_cmp (op_eqF rfl hr.units) (pe_nb (fe_bi (cb_sum rfl rfl) rfl T.n_sum PyProof.Rows.boot_sum (fa_consB (pe_nb (fe_lc (own := [("lot", 4)]) rfl sc_Heap___init__.nd (fi_seqB rfl (pe_b (fe_fldO 0 (fa_Heap_lots T)))) (blkOk_by rfl) (fun _ _ _ _ _ => (fge_name 4 sc_Heap___init__.nd rfl (by first | exact .inl rfl | exact .inr rfl))) (fun _ _ _ _ _ => fpts_nil) (fun _ _ _ _ _ => (pe_nf (fe_op op_divF (pe_nb (fe_op (op_mulF rfl) (pe_nb (fe_bi (cb_len rfl) rfl T.n_len boot_len (fa_consB (pe_b (fe_var 4)) fa_nilB))) (pe_nb (fe_op op_subF (pe_nb (fe_bi (cb_len rfl) rfl T.n_len boot_len (fa_consB (pe_b (fe_var 4)) fa_nilB))) (pe_b fe_int))))) (pe_b fe_int)))))) fa_nilB))) (pe_nb (fe_bi (cb_len rfl) rfl T.n_len boot_len (fa_consB (pe_b (fe_var 2)) fa_nilB))))))))))))))
theorem cal_Heap (T : Txt X.K X.mg X.base ad fd tl) (tk : Takes X W) (hr : Room k X.A) (hk : 5 ≤ k := by decide) : CalF X (gp X.w X.K ad tl) W (.ref (ad 0)) f_Heap :=
  cal_make (G := gp X.w X.K ad tl) (c := 0) (im := true) T.mk_Heap (ok_Heap___init__ T) (by show decide (cfs 0 ∈ fins) = _; decide +kernel) (hr.mono hk) T.b_Heap___init__ tk
theorem sc_InvalidPlaces___init__ : FnScope ["self", "index"] ["self", "index"] (defScope s_InvalidPlaces___init__) := ⟨rfl, rfl, rfl, by decide +kernel, rfl, by decide +kernel, by decide +kernel⟩
theorem okx_InvalidPlaces (T : Txt K mg base ad fd tl) : FnOk P w K mg base (L2.CX P w) 1 (ad 116) (fd 116) ["self", "index"] (spX (ad 26) "index") := initX_of T.d_InvalidPlaces___init__ sc_InvalidPlaces___init__ rfl T.x_InvalidPlaces T.xn_InvalidPlaces (by decide +kernel) (by decide +kernel)
theorem sc_check_places : FnScope ["value", "count", "index", "place"] ["value", "count"] (defScope s_check_places) := ⟨rfl, rfl, rfl, by decide +kernel, rfl, by decide +kernel, by decide +kernel⟩
theorem ok_check_places (T : Txt K mg base ad fd tl) : FnOk P w K mg base (L2.CX P w) 3 (ad 117) (fd 117) ["value", "count"] (spF (gp w K ad tl) f_check_places) :=
  fnOk_of (N := ["value", "count", "index", "place"]) T.d_check_places sc_check_places (fun cdv A outer s H E μ _ hr =>
    (fss_cons (fs_if (ft_w (fw_or (ft_not (ft_val (fe_isT .tup own_all rfl rfl T.n_isinstance rfl T.n_tuple PyProof.Rows.boot_tuple (it_tuple T) (pe_b (fe_var 0))))) (fw_or1 (ft_cmp (op_neF rfl hr.units) (pe_nb (fe_bi (cb_len rfl) rfl T.n_len boot_len (fa_consB (pe_b (fe_var 0)) fa_nilB))) (pe_b (fe_var 1)))))) (fss_one (fs_raise rfl (takes_of rfl rfl rfl rfl) (fmk_exc T.x_InvalidPlaces T.ii_InvalidPlaces T.ti_InvalidPlaces rfl (okx_InvalidPlaces T) (hr.mono (by decide)) T.b_InvalidPlaces___init__ passL rfl T.m_InvalidPlaces fe_non))) fss_nil) (fss_one (fs_for (passes_of rfl) rfl (fi_enumF rfl rfl T.n_enumerate (fe_var 0)) (fg_tup rfl rfl (fgs_cons (fg_name 2 sc_check_places.nd rfl (by first | exact .inl rfl | exact .inr rfl)) (fgs_cons (fg_name 3 sc_check_places.nd rfl (by first | exact .inl rfl | exact .inr rfl)) fgs_nil))) (fss_one (fs_if (ft_not (ft_val (fe_call (cal_is_integer T (takes_of rfl rfl rfl rfl) hr) rfl T.m_is_integer T.k_is_integer (fa_consF (fe_var 3) fa_nilF)))) (fss_one (fs_raise rfl (takes_of rfl rfl rfl rfl) (fmk_exc T.x_InvalidPlaces T.ii_InvalidPlaces T.ti_InvalidPlaces rfl (okx_InvalidPlaces T) (hr.mono (by decide)) T.b_InvalidPlaces___init__ passL rfl T.m_InvalidPlaces (fe_var 2)))) fss_nil))))))
theorem cal_check_places (T : Txt X.K X.mg X.base ad fd tl) (tk : Takes X W) (hr : Room k X.A) (hk : 3 ≤ k := by decide) : CalF X (gp X.w X.K ad tl) W (.ref (ad 117)) f_check_places := cal_ok (ok_check_places T) (hr.mono hk) T.b_check_places tk
theorem sc_InvalidReach___init__ : FnScope ["self", "value"] ["self", "value"] (defScope s_InvalidReach___init__) := ⟨rfl, rfl, rfl, by decide +kernel, rfl, by decide +kernel, by decide +kernel⟩
theorem okx_InvalidReach (T : Txt K mg base ad fd tl) : FnOk P w K mg base (L2.CX P w) 1 (ad 118) (fd 118) ["self", "value"] (spX (ad 20) "value") := initX_of T.d_InvalidReach___init__ sc_InvalidReach___init__ rfl T.x_InvalidReach T.xn_InvalidReach (by decide +kernel) (by decide +kernel)
theorem sc_check_reach : FnScope ["value"] ["value"] (defScope s_check_reach) := ⟨rfl, rfl, rfl, by decide +kernel, rfl, by decide +kernel, by decide +kernel⟩
theorem ok_check_reach (T : Txt K mg base ad fd tl) : FnOk P w K mg base (L2.CX P w) 3 (ad 119) (fd 119) ["value"] (spF (gp w K ad tl) f_check_reach) :=
  fnOk_of (N := ["value"]) T.d_check_reach sc_check_reach (fun cdv A outer s H E μ _ hr =>
    (fss_one (fs_if (ft_w (fw_or (ft_not (ft_val (fe_call (cal_is_integer T (takes_of rfl rfl rfl rfl) hr) rfl T.m_is_integer T.k_is_integer (fa_consF (fe_var 0) fa_nilF)))) (fw_or1 (ft_cmp (op_ltF rfl hr.units0) (pe_b (fe_var 0)) (pe_b fe_int))))) (fss_one (fs_raise rfl (takes_of rfl rfl rfl rfl) (fmk_exc T.x_InvalidReach T.ii_InvalidReach T.ti_InvalidReach rfl (okx_InvalidReach T) (hr.mono (by decide)) T.b_InvalidReach___init__ passL rfl T.m_InvalidReach (fe_var 0)))) fss_nil)))
theorem cal_check_reach (T : Txt X.K X.mg X.base ad fd tl) (tk : Takes X W) (hr : Room k X.A) (hk : 3 ≤ k := by decide) : CalF X (gp X.w X.K ad tl) W (.ref (ad 119)) f_check_reach := cal_ok (ok_check_reach T) (hr.mono hk) T.b_check_reach tk
theorem sc_pairs_with : FnScope ["count", "test", "found", "one", "other"] ["count", "test"] (defScope s_pairs_with) := ⟨rfl, rfl, rfl, by decide +kernel, rfl, by decide +kernel, by decide +kernel⟩
theorem okH_pairs_with (T : Txt K mg base ad fd tl) : FnH P w K mg base (gp w K ad tl) False 3 2 1 (ad 120) (fd 120) ["count", "test"] f_pairs_with :=
  fnH_of (N := ["count", "test", "found", "one", "other"]) (n := 1) T.d_pairs_with sc_pairs_with rfl (fun cdv hc A outer s H E μ h C g hg hr hd => by
    exact (fss_cons (fs_new 2 sc_pairs_with.nd rfl (by first | exact .inl rfl | exact .inr rfl) (fe_lst fa_nilF)) (fss_cons (fs_for (passes_of rfl) rfl (fi_range1 rfl T.n_range (pe_b (fe_var 0))) (fg_name 3 sc_pairs_with.nd rfl (by first | exact .inl rfl | exact .inr rfl)) (fss_one (fs_for (passes_of rfl) rfl (fi_range2 rfl T.n_range (pe_nb (fe_op (op_addF rfl) (pe_b (fe_var 3)) (pe_b fe_int))) (pe_b (fe_var 0))) (fg_name 4 sc_pairs_with.nd rfl (by first | exact .inl rfl | exact .inr rfl)) (fss_one (fs_if (ft_val (fe_hand 1 hd (hr.mono (by decide)) (takes_of rfl rfl rfl rfl) (fa_consF (fe_var 3) (fa_consF (fe_var 4) fa_nilF)))) (fss_one (fs_app 2 rfl (fe_tup (fa_consF (fe_var 3) (fa_consF (fe_var 4) fa_nilF))))) fss_nil))))) (fss_one (fs_ret (pe_nf (fe_ty (cb_tup rfl) rfl T.n_tuple PyProof.Rows.boot_tuple (fa_consB (fe_bor 2) fa_nilB))))))))
theorem sc_Heap_line : FnScope ["worths", "places", "reach"] ["worths", "places", "reach"] (defScope s_Heap_line) := ⟨rfl, rfl, rfl, by decide +kernel, rfl, by decide +kernel, by decide +kernel⟩
theorem ok_Heap_line (T : Txt K mg base ad fd tl) : FnOk P w K mg base (L2.CX P w) 6 (ad 121) (fd 121) ["worths", "places", "reach"] (spF (gp w K ad tl) f_Heap_line) :=
  fnOkC_of (N := ["worths", "places", "reach"]) T.d_Heap_line sc_Heap_line (fun cdv hc A outer s H E μ _ hr =>
    (fss_cons (fs_expr (fe_call (cal_check_worths T (takes_of rfl rfl rfl rfl) hr) rfl T.m_check_worths T.k_check_worths (fa_consF (fe_var 0) fa_nilF))) (fss_cons (fs_expr (fe_call (cal_check_places T (takes_of rfl rfl rfl rfl) hr) rfl T.m_check_places T.k_check_places (fa_consF (fe_var 1) (fa_consF (pe_nf (fe_bi (cb_len rfl) rfl T.n_len boot_len (fa_consB (pe_b (fe_var 0)) fa_nilB))) fa_nilF)))) (fss_cons (fs_expr (fe_call (cal_check_reach T (takes_of rfl rfl rfl rfl) hr) rfl T.m_check_reach T.k_check_reach (fa_consF (fe_var 2) fa_nilF))) (fss_one (fs_ret (fe_call (cal_Heap T (takes_of rfl rfl rfl rfl) hr) rfl T.m_Heap T.k_Heap (fa_consF (fe_var 0) (fa_consF (fe_callL (q := "Heap.line.<locals>.<lambda>") (ps := ["one", "other"]) (fr := ["reach", "places"]) (N' := ["one", "other", "reach", "places"]) (js := [2, 1]) (okH_pairs_with T) (fun z => z.elim) (hr.mono (by decide)) T.b_pairs_with (takes_of rfl rfl rfl rfl) rfl rfl T.m_pairs_with T.k_pairs_with (fal_cons (pe_nf (fe_bi (cb_len rfl) rfl T.n_len boot_len (fa_consB (pe_b (fe_var 0)) fa_nilB))) fal_one) ⟨own_of hc T.tb_Heap_line, (by kernel_rfl), rfl, (by kernel_rfl), NdefX.nscope_by (by kernel_rfl), rfl, fun _ _ _ _ _ _ us hl => match us, hl with | [_, _], _ => rfl⟩ (kb := 0) (by decide) (fun f c A outer s H E hr => (pe_nf (fe_cmp op_leF (pe_nb (fe_bi cb_abs rfl T.n_abs PyProof.Rows.boot_abs (fa_consB (pe_nb (fe_op op_subF (pe_b (fe_ix rfl (pe_b (fe_var 3)) (pe_b (fe_var 0)))) (pe_b (fe_ix rfl (pe_b (fe_var 3)) (pe_b (fe_var 1)))))) fa_nilB))) (pe_b (fe_var 2)))))) fa_nilF)))))))))
theorem cal_Heap_line (T : Txt X.K X.mg X.base ad fd tl) (tk : Takes X W) (hr : Room k X.A) (hk : 6 ≤ k := by decide) : CalF X (gp X.w X.K ad tl) W (.ref (ad 121)) f_Heap_line := cal_ok (ok_Heap_line T) (hr.mono hk) T.b_Heap_line tk
theorem calk_Heap_line_0_reach_places_worths (T : Txt X.K X.mg X.base ad fd tl) (tk : Takes X W) (hr : Room k X.A) (hk : 6 ≤ k := by decide) : CalK X (gp X.w X.K ad tl) W (.ref (ad 121)) 0 ["reach", "places", "worths"] (pmF [2, 1, 0] f_Heap_line) :=
  calk_ok (ok_Heap_line T) (hr.mono hk) (bindK_of T.d_Heap_line fun _ _ _ _ _ _ us ws hl hw => match us, ws, hl, hw with | [], [_, _, _], _, _ => rfl) tk
theorem sc_are_close : FnScope ["one", "other", "most", "sign", "mate"] ["one", "other", "most"] (defScope s_are_close) := ⟨rfl, rfl, rfl, by decide +kernel, rfl, by decide +kernel, by decide +kernel⟩
theorem ok_are_close (T : Txt K mg base ad fd tl) : FnOk P w K mg base (L2.CX P w) 1 (ad 122) (fd 122) ["one", "other", "most"] (spF (gp w K ad tl) f_are_close) :=
  fnOk_of (N := ["one", "other", "most", "sign", "mate"]) T.d_are_close sc_are_close (fun cdv A outer s H E μ _ hr =>
    (fss_one (fs_ret (fe_and (pe_nf (fe_cmp (op_eqF rfl hr.units) (pe_nb (fe_bi (cb_len rfl) rfl T.n_len boot_len (fa_consB (pe_b (fe_var 0)) fa_nilB))) (pe_nb (fe_bi (cb_len rfl) rfl T.n_len boot_len (fa_consB (pe_b (fe_var 1)) fa_nilB))))) (fe_one (pe_nf (fe_cmp op_leF (pe_nb (fe_cnt rfl hr.units (pe_nb (fe_lc (own := [("sign", 3), ("mate", 4)]) rfl sc_are_close.nd (fi_fb (fi_zipS rfl T.n_zip (fe_var 0) (fe_var 1))) (blkOk_by rfl) (fun _ _ _ _ _ => (fge_tup rfl rfl (fges_cons (fge_name 3 sc_are_close.nd rfl (by first | exact .inl rfl | exact .inr rfl)) (fges_cons (fge_name 4 sc_are_close.nd rfl (by first | exact .inl rfl | exact .inr rfl)) fges_nil)))) (fun _ _ _ _ _ => fpts_nil) (fun _ _ _ _ _ => (pe_nf (fe_cmp (op_eqF rfl hr.units) (pe_b (fe_var 3)) (pe_b (fe_var 4))))))) fe_bl)) (pe_b (fe_var 2)))))))))
theorem cal_are_close (T : Txt X.K X.mg X.base ad fd tl) (tk : Takes X W) (hr : Room k X.A) (hk : 1 ≤ k := by decide) : CalF X (gp X.w X.K ad tl) W (.ref (ad 122)) f_are_close := cal_ok (ok_are_close T) (hr.mono hk) T.b_are_close tk
theorem sc_InvalidWords___init__ : FnScope ["self", "index"] ["self", "index"] (defScope s_InvalidWords___init__) := ⟨rfl, rfl, rfl, by decide +kernel, rfl, by decide +kernel, by decide +kernel⟩
theorem okx_InvalidWords (T : Txt K mg base ad fd tl) : FnOk P w K mg base (L2.CX P w) 1 (ad 123) (fd 123) ["self", "index"] (spX (ad 27) "index") := initX_of T.d_InvalidWords___init__ sc_InvalidWords___init__ rfl T.x_InvalidWords T.xn_InvalidWords (by decide +kernel) (by decide +kernel)
theorem sc_check_words : FnScope ["value", "count", "index", "word"] ["value", "count"] (defScope s_check_words) := ⟨rfl, rfl, rfl, by decide +kernel, rfl, by decide +kernel, by decide +kernel⟩
theorem ok_check_words (T : Txt K mg base ad fd tl) : FnOk P w K mg base (L2.CX P w) 3 (ad 124) (fd 124) ["value", "count"] (spF (gp w K ad tl) f_check_words) :=
  fnOk_of (N := ["value", "count", "index", "word"]) T.d_check_words sc_check_words (fun cdv A outer s H E μ _ hr =>
    (fss_cons (fs_if (ft_w (fw_or (ft_not (ft_val (fe_isT .tup own_all rfl rfl T.n_isinstance rfl T.n_tuple PyProof.Rows.boot_tuple (it_tuple T) (pe_b (fe_var 0))))) (fw_or1 (ft_cmp (op_neF rfl hr.units) (pe_nb (fe_bi (cb_len rfl) rfl T.n_len boot_len (fa_consB (pe_b (fe_var 0)) fa_nilB))) (pe_b (fe_var 1)))))) (fss_one (fs_raise rfl (takes_of rfl rfl rfl rfl) (fmk_exc T.x_InvalidWords T.ii_InvalidWords T.ti_InvalidWords rfl (okx_InvalidWords T) (hr.mono (by decide)) T.b_InvalidWords___init__ passL rfl T.m_InvalidWords fe_non))) fss_nil) (fss_one (fs_for (passes_of rfl) rfl (fi_enumF rfl rfl T.n_enumerate (fe_var 0)) (fg_tup rfl rfl (fgs_cons (fg_name 2 sc_check_words.nd rfl (by first | exact .inl rfl | exact .inr rfl)) (fgs_cons (fg_name 3 sc_check_words.nd rfl (by first | exact .inl rfl | exact .inr rfl)) fgs_nil))) (fss_one (fs_if (ft_w (fw_or (ft_not (ft_val (fe_isT .str own_all rfl rfl T.n_isinstance rfl T.n_str PyProof.Rows.boot_str (it_str T) (pe_b (fe_var 3))))) (fw_or1 (ft_cmp op_gtF (pe_nb (fe_bi (cb_len rfl) rfl T.n_len boot_len (fa_consB (pe_b (fe_var 3)) fa_nilB))) (pe_b (fe_gint rfl T.i_MOST_LETTERS)))))) (fss_one (fs_raise rfl (takes_of rfl rfl rfl rfl) (fmk_exc T.x_InvalidWords T.ii_InvalidWords T.ti_InvalidWords rfl (okx_InvalidWords T) (hr.mono (by decide)) T.b_InvalidWords___init__ passL rfl T.m_InvalidWords (fe_var 2)))) fss_nil))))))
theorem cal_check_words (T : Txt X.K X.mg X.base ad fd tl) (tk : Takes X W) (hr : Room k X.A) (hk : 3 ≤ k := by decide) : CalF X (gp X.w X.K ad tl) W (.ref (ad 124)) f_check_words := cal_ok (ok_check_words T) (hr.mono hk) T.b_check_words tk
theorem sc_Heap_words : FnScope ["worths", "words", "most"] ["worths", "words", "most"] (defScope s_Heap_words) := ⟨rfl, rfl, rfl, by decide +kernel, rfl, by decide +kernel, by decide +kernel⟩
theorem ok_Heap_words (T : Txt K mg base ad fd tl) : FnOk P w K mg base (L2.CX P w) 6 (ad 125) (fd 125) ["worths", "words", "most"] (spF (gp w K ad tl) f_Heap_words) :=
  fnOkC_of (N := ["worths", "words", "most"]) T.d_Heap_words sc_Heap_words (fun cdv hc A outer s H E μ _ hr =>
    (fss_cons (fs_expr (fe_call (cal_check_worths T (takes_of rfl rfl rfl rfl) hr) rfl T.m_check_worths T.k_check_worths (fa_consF (fe_var 0) fa_nilF))) (fss_cons (fs_expr (fe_call (cal_check_words T (takes_of rfl rfl rfl rfl) hr) rfl T.m_check_words T.k_check_words (fa_consF (fe_var 1) (fa_consF (pe_nf (fe_bi (cb_len rfl) rfl T.n_len boot_len (fa_consB (pe_b (fe_var 0)) fa_nilB))) fa_nilF)))) (fss_cons (fs_expr (fe_call (cal_check_reach T (takes_of rfl rfl rfl rfl) hr) rfl T.m_check_reach T.k_check_reach (fa_consF (fe_var 2) fa_nilF))) (fss_one (fs_ret (fe_call (cal_Heap T (takes_of rfl rfl rfl rfl) hr) rfl T.m_Heap T.k_Heap (fa_consF (fe_var 0) (fa_consF (fe_callL (q := "Heap.words.<locals>.<lambda>") (ps := ["one", "other"]) (fr := ["most", "words"]) (N' := ["one", "other", "most", "words"]) (js := [2, 1]) (okH_pairs_with T) (fun z => z.elim) (hr.mono (by decide)) T.b_pairs_with (takes_of rfl rfl rfl rfl) rfl rfl T.m_pairs_with T.k_pairs_with (fal_cons (pe_nf (fe_bi (cb_len rfl) rfl T.n_len boot_len (fa_consB (pe_b (fe_var 0)) fa_nilB))) fal_one) ⟨own_of hc T.tb_Heap_words, (by kernel_rfl), rfl, (by kernel_rfl), NdefX.nscope_by (by kernel_rfl), rfl, fun _ _ _ _ _ _ us hl => match us, hl with | [_, _], _ => rfl⟩ (kb := 1) (by decide) (fun f c A outer s H E hr => (fe_call (cal_are_close T (takes_of rfl rfl rfl rfl) hr) rfl T.m_are_close T.k_are_close (fa_consF (fe_ix rfl (pe_b (fe_var 3)) (pe_b (fe_var 0))) (fa_consF (fe_ix rfl (pe_b (fe_var 3)) (pe_b (fe_var 1))) (fa_consF (fe_var 2) fa_nilF)))))) fa_nilF)))))))))
theorem cal_Heap_words (T : Txt X.K X.mg X.base ad fd tl) (tk : Takes X W) (hr : Room k X.A) (hk : 6 ≤ k := by decide) : CalF X (gp X.w X.K ad tl) W (.ref (ad 125)) f_Heap_words := cal_ok (ok_Heap_words T) (hr.mono hk) T.b_Heap_words tk
theorem calk_Heap_words_0_most_words_worths (T : Txt X.K X.mg X.base ad fd tl) (tk : Takes X W) (hr : Room k X.A) (hk : 6 ≤ k := by decide) : CalK X (gp X.w X.K ad tl) W (.ref (ad 125)) 0 ["most", "words", "worths"] (pmF [2, 1, 0] f_Heap_words) :=
  calk_ok (ok_Heap_words T) (hr.mono hk) (bindK_of T.d_Heap_words fun _ _ _ _ _ _ us ws hl hw => match us, ws, hl, hw with | [], [_, _, _], _, _ => rfl) tk
theorem sc__law_scoop : FnScope ["_law_well_here", "_law_many", "_law_digit"] ["_law_well_here", "_law_many"] (defScope s__law_scoop) := ⟨rfl, rfl, rfl, by decide +kernel, rfl, by decide +kernel, by decide +kernel⟩
theorem ok__law_scoop (T : Txt K mg base ad fd tl) : FnOk P w K mg base (L2.CX P w) 1 (ad 126) (fd 126) ["_law_well_here", "_law_many"] (spF (gp w K ad tl) f__law_scoop) :=
  fnOk_of (N := ["_law_well_here", "_law_many", "_law_digit"]) T.d__law_scoop sc__law_scoop (fun cdv A outer s H E μ _ hr =>
    (fss_cons (fs_asgG (pe_nf (fe_op (op_addF rfl) (pe_b (fe_ix rfl (pe_b (fe_var 0)) (pe_b fe_int))) (pe_b fe_int))) (fg_sub (fe_var 0) (pe_b fe_int))) (fss_cons (fs_if (ft_cmp op_gtF (pe_b (fe_ix rfl (pe_b (fe_var 0)) (pe_b fe_int))) (pe_b fe_int)) (fss_cons (fs_asgG (pe_nf (fe_bi cb_divmod rfl T.n_divmod PyProof.Rows.boot_divmod (fa_consB (pe_nb (fe_ty cb_int rfl T.n_int PyProof.Rows.boot_int (fa_consB (pe_b (fe_ix rfl (pe_b (fe_var 0)) (pe_b fe_int))) fa_nilB))) (fa_consB (pe_b (fe_var 1)) fa_nilB)))) (fg_tup rfl rfl (fgs_cons (fg_sub (fe_var 0) (pe_b fe_int)) (fgs_cons (fg_name 2 sc__law_scoop.nd rfl (by first | exact .inl rfl | exact .inr rfl)) fgs_nil)))) (fss_one (fs_ret (fe_var 2)))) fss_nil) (fss_cons (fs_asgG (pe_nf (fe_op op_modF (pe_nb (fe_ty cb_int rfl T.n_int PyProof.Rows.boot_int (fa_consB (pe_nb (fe_op (op_addF rfl) (pe_nb (fe_op (op_addF rfl) (pe_nb (fe_op (op_mulF rfl) (pe_b (fe_ix rfl (pe_b (fe_var 0)) (pe_b fe_int))) (pe_b fe_int))) (pe_nb (fe_op (op_mulF rfl) (pe_b (fe_ix rfl (pe_b (fe_var 0)) (pe_b fe_int))) (pe_b fe_int))))) (pe_nb (fe_op (op_mulF rfl) (pe_nb (fe_op op_divF (pe_b (fe_ix rfl (pe_b (fe_var 0)) (pe_b fe_int))) (pe_b fe_int))) (pe_b fe_int))))) fa_nilB))) (pe_b fe_int))) (fg_sub (fe_var 0) (pe_b fe_int))) (fss_one (fs_ret (pe_nf (fe_op op_modF (pe_nb (fe_ty cb_int rfl T.n_int PyProof.Rows.boot_int (fa_consB (pe_nb (fe_op op_divF (pe_b (fe_ix rfl (pe_b (fe_var 0)) (pe_b fe_int))) (pe_b fe_int))) fa_nilB))) (pe_b (fe_var 1))))))))))
theorem cal__law_scoop (T : Txt X.K X.mg X.base ad fd tl) (tk : Takes X W) (hr : Room k X.A) (hk : 1 ≤ k := by decide) : CalF X (gp X.w X.K ad tl) W (.ref (ad 126)) f__law_scoop := cal_ok (ok__law_scoop T) (hr.mono hk) T.b__law_scoop tk
theorem sc__law_any_of : FnScope ["_law_well_here", "_law_some"] ["_law_well_here", "_law_some"] (defScope s__law_any_of) := ⟨rfl, rfl, rfl, by decide +kernel, rfl, by decide +kernel, by decide +kernel⟩
theorem ok__law_any_of (T : Txt K mg base ad fd tl) : FnOk P w K mg base (L2.CX P w) 2 (ad 127) (fd 127) ["_law_well_here", "_law_some"] (spF (gp w K ad tl) f__law_any_of) :=
  fnOk_of (N := ["_law_well_here", "_law_some"]) T.d__law_any_of sc__law_any_of (fun cdv A outer s H E μ _ hr =>
    (fss_one (fs_ret (fe_ix rfl (pe_b (fe_var 1)) (pe_b (fe_call (cal__law_scoop T (takes_of rfl rfl rfl rfl) hr) rfl T.m__law_scoop T.k__law_scoop (fa_consF (fe_var 0) (fa_consF (pe_nf (fe_bi (cb_len rfl) rfl T.n_len boot_len (fa_consB (pe_b (fe_var 1)) fa_nilB))) fa_nilF))))))))
theorem cal__law_any_of (T : Txt X.K X.mg X.base ad fd tl) (tk : Takes X W) (hr : Room k X.A) (hk : 2 ≤ k := by decide) : CalF X (gp X.w X.K ad tl) W (.ref (ad 127)) f__law_any_of := cal_ok (ok__law_any_of T) (hr.mono hk) T.b__law_any_of tk
theorem sc__law_pairs_of : FnScope ["_law_many", "_law_test", "_law_found", "_law_low", "_law_high"] ["_law_many", "_law_test"] (defScope s__law_pairs_of) := ⟨rfl, rfl, rfl, by decide +kernel, rfl, by decide +kernel, by decide +kernel⟩
theorem okH__law_pairs_of (T : Txt K mg base ad fd tl) : FnH P w K mg base (gp w K ad tl) False 3 2 1 (ad 128) (fd 128) ["_law_many", "_law_test"] f__law_pairs_of :=
  fnH_of (N := ["_law_many", "_law_test", "_law_found", "_law_low", "_law_high"]) (n := 1) T.d__law_pairs_of sc__law_pairs_of rfl (fun cdv hc A outer s H E μ h C g hg hr hd => by
    exact (fss_cons (fs_new 2 sc__law_pairs_of.nd rfl (by first | exact .inl rfl | exact .inr rfl) (fe_lst fa_nilF)) (fss_cons (fs_for (passes_of rfl) rfl (fi_range1 rfl T.n_range (pe_b (fe_var 0))) (fg_name 3 sc__law_pairs_of.nd rfl (by first | exact .inl rfl | exact .inr rfl)) (fss_one (fs_for (passes_of rfl) rfl (fi_range2 rfl T.n_range (pe_nb (fe_op (op_addF rfl) (pe_b (fe_var 3)) (pe_b fe_int))) (pe_b (fe_var 0))) (fg_name 4 sc__law_pairs_of.nd rfl (by first | exact .inl rfl | exact .inr rfl)) (fss_one (fs_if (ft_val (fe_hand 1 hd (hr.mono (by decide)) (takes_of rfl rfl rfl rfl) (fa_consF (fe_var 3) (fa_consF (fe_var 4) fa_nilF)))) (fss_one (fs_app 2 rfl (fe_tup (fa_consF (fe_var 3) (fa_consF (fe_var 4) fa_nilF))))) fss_nil))))) (fss_one (fs_ret (pe_nf (fe_ty (cb_tup rfl) rfl T.n_tuple PyProof.Rows.boot_tuple (fa_consB (fe_bor 2) fa_nilB))))))))
theorem sc__law_unlike : FnScope ["_law_one", "_law_two", "_law_k"] ["_law_one", "_law_two"] (defScope s__law_unlike) := ⟨rfl, rfl, rfl, by decide +kernel, rfl, by decide +kernel, by decide +kernel⟩
theorem ok__law_unlike (T : Txt K mg base ad fd tl) : FnOk P w K mg base (L2.CX P w) 1 (ad 129) (fd 129) ["_law_one", "_law_two"] (spF (gp w K ad tl) f__law_unlike) :=
  fnOk_of (N := ["_law_one", "_law_two", "_law_k"]) T.d__law_unlike sc__law_unlike (fun cdv A outer s H E μ _ hr =>
    (fss_cons (fs_if (ft_cmp (op_neF rfl hr.units) (pe_nb (fe_bi (cb_len rfl) rfl T.n_len boot_len (fa_consB (pe_b (fe_var 0)) fa_nilB))) (pe_nb (fe_bi (cb_len rfl) rfl T.n_len boot_len (fa_consB (pe_b (fe_var 1)) fa_nilB)))) (fss_one (fs_ret fe_int)) fss_nil) (fss_one (fs_ret (pe_nf (fe_bi (cb_len rfl) rfl T.n_len boot_len (fa_consB (pe_nb (fe_lc (own := [("_law_k", 2)]) rfl sc__law_unlike.nd (fi_fb (fi_range1 rfl T.n_range (pe_nb (fe_bi (cb_len rfl) rfl T.n_len boot_len (fa_consB (pe_b (fe_var 0)) fa_nilB))))) (blkOk_by rfl) (fun _ _ _ _ _ => (fge_name 2 sc__law_unlike.nd rfl (by first | exact .inl rfl | exact .inr rfl))) (fun _ _ _ _ _ => (fpts_one (ft_cmp (op_neF rfl hr.units) (pe_b (fe_ix rfl (pe_b (fe_var 0)) (pe_b (fe_var 2)))) (pe_b (fe_ix rfl (pe_b (fe_var 1)) (pe_b (fe_var 2))))))) (fun _ _ _ _ _ => (fe_var 2)))) fa_nilB)))))))
theorem cal__law_unlike (T : Txt X.K X.mg X.base ad fd tl) (tk : Takes X W) (hr : Room k X.A) (hk : 1 ≤ k := by decide) : CalF X (gp X.w X.K ad tl) W (.ref (ad 129)) f__law_unlike := cal_ok (ok__law_unlike T) (hr.mono hk) T.b__law_unlike tk
theorem sc__law_values : FnScope ["_law_well_here", "_law_many", "_law_way_here", "_law_bag", "_law_found", "_law_k"] ["_law_well_here", "_law_many"] (defScope s__law_values) := ⟨rfl, rfl, rfl, by decide +kernel, rfl, by decide +kernel, by decide +kernel⟩
theorem ok__law_values (T : Txt K mg base ad fd tl) : FnOk P w K mg base (L2.CX P w) 2 (ad 130) (fd 130) ["_law_well_here", "_law_many"] (spF (gp w K ad tl) f__law_values) :=
  fnOk_of (N := ["_law_well_here", "_law_many", "_law_way_here", "_law_bag", "_law_found", "_law_k"]) T.d__law_values sc__law_values (fun cdv A outer s H E μ _ hr =>
    (fss_cons (fs_asg 2 sc__law_values.nd rfl (by first | exact .inl rfl | exact .inr rfl) (fe_call (cal__law_scoop T (takes_of rfl rfl rfl rfl) hr) rfl T.m__law_scoop T.k__law_scoop (fa_consF (fe_var 0) (fa_consF fe_int fa_nilF)))) (fss_cons (fs_if (ft_cmp (op_eqF rfl hr.units) (pe_b (fe_var 2)) (pe_b fe_int)) (fss_cons (fs_par 3 4 rfl sc__law_values.nd rfl rfl (by decide) rfl rfl (fl_ow (fe_lstRg rfl rfl T.n_list rfl T.n_range (fe_var 1)) (fl_ow (fe_lst fa_nilF) fl_nil)) rfl) (fss_cons (fs_for (passes_of rfl) rfl (fi_range1 rfl T.n_range (pe_b (fe_var 1))) (fg_name 5 sc__law_values.nd rfl (by first | exact .inl rfl | exact .inr rfl)) (fss_one (fs_appPop 4 3 rfl rfl (fe_call (cal__law_scoop T (takes_of rfl rfl rfl rfl) hr) rfl T.m__law_scoop T.k__law_scoop (fa_consF (fe_var 0) (fa_consF (pe_nf (fe_bi (cb_len rfl) rfl T.n_len boot_len (fa_consB (fe_bor 3) fa_nilB))) fa_nilF)))))) (fss_one (fs_fr 4 (fs_ret (fe_var 4)))))) fss_nil) (fss_cons (fs_if (ft_cmp (op_eqF rfl hr.units) (pe_b (fe_var 2)) (pe_b fe_int)) (fss_one (fs_ret (pe_nf (fe_lc (own := [("_law_k", 5)]) rfl sc__law_values.nd (fi_fb (fi_range1 rfl T.n_range (pe_b (fe_var 1)))) (blkOk_by rfl) (fun _ _ _ _ _ => (fge_name 5 sc__law_values.nd rfl (by first | exact .inl rfl | exact .inr rfl))) (fun _ _ _ _ _ => fpts_nil) (fun _ _ _ _ _ => (pe_nf (fe_op op_subF (pe_b (fe_call (cal__law_scoop T takes0 hr) rfl T.m__law_scoop T.k__law_scoop (fa_consF (fe_var 0) (fa_consF (pe_nf (fe_op op_powF (pe_b fe_int) (pe_b fe_int))) fa_nilF)))) (pe_nb (fe_op (op_mulF rfl) (pe_b fe_int) (pe_nb (fe_op op_powF (pe_b fe_int) (pe_b fe_int)))))))))))) fss_nil) (fss_one (fs_ret (pe_nf (fe_lc (own := [("_law_k", 5)]) rfl sc__law_values.nd (fi_fb (fi_range1 rfl T.n_range (pe_b (fe_var 1)))) (blkOk_by rfl) (fun _ _ _ _ _ => (fge_name 5 sc__law_values.nd rfl (by first | exact .inl rfl | exact .inr rfl))) (fun _ _ _ _ _ => fpts_nil) (fun _ _ _ _ _ => (fe_call (cal__law_scoop T takes0 hr) rfl T.m__law_scoop T.k__law_scoop (fa_consF (fe_var 0) (fa_consF fe_int fa_nilF))))))))))))
theorem cal__law_values (T : Txt X.K X.mg X.base ad fd tl) (tk : Takes X W) (hr : Room k X.A) (hk : 2 ≤ k := by decide) : CalF X (gp X.w X.K ad tl) W (.ref (ad 130)) f__law_values := cal_ok (ok__law_values T) (hr.mono hk) T.b__law_values tk
theorem sc__law_right : FnScope ["_law_well_here", "_law_again", "_law_many", "_law_values_here", "_law_far", "_law_spots", "_law_wide", "_law_k", "_law_due", "_law_made", "_law_each", "_law_names", "_law_signs", "_law_lengths", "_law_j", "_law_few"] ["_law_well_here"] (defScope s__law_right) := ⟨rfl, rfl, rfl, by decide +kernel, rfl, by decide +kernel, by decide +kernel⟩
theorem ok__law_right (T : Txt K mg base ad fd tl) : FnOk P w K mg base (L2.CX P w) 7 (ad 131) (fd 131) ["_law_well_here"] (spF (gp w K ad tl) f__law_right) :=
  fnOkC_of (N := ["_law_well_here", "_law_again", "_law_many", "_law_values_here", "_law_far", "_law_spots", "_law_wide", "_law_k", "_law_due", "_law_made", "_law_each", "_law_names", "_law_signs", "_law_lengths", "_law_j", "_law_few"]) T.d__law_right sc__law_right (fun cdv hc A outer s H E μ _ hr =>
    (fss_cons (fs_for (passes_of rfl) rfl (fi_range1 rfl T.n_range (pe_b fe_int)) (fg_name 1 sc__law_right.nd rfl (by first | exact .inl rfl | exact .inr rfl)) (fss_cons (fs_asg 2 sc__law_right.nd rfl (by first | exact .inl rfl | exact .inr rfl) (pe_nf (fe_op (op_addF rfl) (pe_b fe_int) (pe_b (fe_call (cal__law_scoop T (takes_of rfl rfl rfl rfl) hr) rfl T.m__law_scoop T.k__law_scoop (fa_consF (fe_var 0) (fa_consF fe_int fa_nilF))))))) (fss_cons (fs_parT (is := [3, 4]) rfl (fn_cons 3 sc__law_right.nd rfl (by first | exact .inl rfl | exact .inr rfl) (fn_cons 4 sc__law_right.nd rfl (by first | exact .inl rfl | exact .inr rfl) fn_nil)) (fl_pl (pe_nf (fe_ty (cb_tup rfl) rfl T.n_tuple PyProof.Rows.boot_tuple (fa_consB (pe_b (fe_call (cal__law_values T (takes_of rfl rfl rfl rfl) hr) rfl T.m__law_values T.k__law_values (fa_consF (fe_var 0) (fa_consF (fe_var 2) fa_nilF)))) fa_nilB))) (fl_pl (fe_call (cal__law_any_of T (takes_of rfl rfl rfl rfl) hr) rfl T.m__law_any_of T.k__law_any_of (fa_consF (fe_var 0) (fa_consF (pe_nf (fe_lst (fa_consF fe_int (fa_consF fe_int (fa_consF (pe_nf (fe_op op_powF (pe_b fe_int) (pe_b fe_int))) fa_nilF))))) fa_nilF))) fl_nil))) (fss_cons (fs_parT (is := [5, 6]) rfl (fn_cons 5 sc__law_right.nd rfl (by first | exact .inl rfl | exact .inr rfl) (fn_cons 6 sc__law_right.nd rfl (by first | exact .inl rfl | exact .inr rfl) fn_nil)) (fl_pl (pe_nf (fe_ty (cb_tup rfl) rfl T.n_tuple PyProof.Rows.boot_tuple (fa_consB (pe_nb (fe_lc (own := [("_law_k", 7)]) rfl sc__law_right.nd (fi_fb (fi_range1 rfl T.n_range (pe_b (fe_var 2)))) (blkOk_by rfl) (fun _ _ _ _ _ => (fge_name 7 sc__law_right.nd rfl (by first | exact .inl rfl | exact .inr rfl))) (fun _ _ _ _ _ => fpts_nil) (fun _ _ _ _ _ => (pe_nf (fe_op op_subF (pe_b (fe_call (cal__law_scoop T takes0 hr) rfl T.m__law_scoop T.k__law_scoop (fa_consF (fe_var 0) (fa_consF (fe_var 4) fa_nilF)))) (pe_nb (fe_op op_divF (pe_b (fe_var 4)) (pe_b fe_int)))))))) fa_nilB))) (fl_pl (fe_call (cal__law_scoop T (takes_of rfl rfl rfl rfl) hr) rfl T.m__law_scoop T.k__law_scoop (fa_consF (fe_var 0) (fa_consF (pe_nf (fe_op (op_addF rfl) (pe_b fe_int) (pe_nb (fe_op op_divF (pe_b (fe_var 4)) (pe_b fe_int))))) fa_nilF))) fl_nil))) (fss_cons (fs_asg 8 sc__law_right.nd rfl (by first | exact .inl rfl | exact .inr rfl) (fe_callL (q := "_law_right.<locals>.<lambda>") (ps := ["_law_low", "_law_high"]) (fr := ["_law_wide", "_law_spots"]) (N' := ["_law_low", "_law_high", "_law_wide", "_law_spots"]) (js := [6, 5]) (okH__law_pairs_of T) (fun z => z.elim) (hr.mono (by decide)) T.b__law_pairs_of (takes_of rfl rfl rfl rfl) rfl rfl T.m__law_pairs_of T.k__law_pairs_of (fal_cons (fe_var 2) fal_one) ⟨own_of hc T.tb__law_right, (by kernel_rfl), rfl, (by kernel_rfl), NdefX.nscope_by (by kernel_rfl), rfl, fun _ _ _ _ _ _ us hl => match us, hl with | [_, _], _ => rfl⟩ (kb := 0) (by decide) (fun f c A outer s H E hr => (fe_chain (M := MF _) op_leF op_leF (pe_nb (fe_un un_negF (pe_b (fe_var 2)))) (pe_nb (fe_op op_subF (pe_b (fe_ix rfl (pe_b (fe_var 3)) (pe_b (fe_var 0)))) (pe_b (fe_ix rfl (pe_b (fe_var 3)) (pe_b (fe_var 1)))))) (pe_b (fe_var 2)))))) (fss_cons (fs_asg 9 sc__law_right.nd rfl (by first | exact .inl rfl | exact .inr rfl) (pe_nf (fe_lst (fa_consF (fe_stat (cal_Heap_line T (takes_of rfl rfl rfl rfl) hr) rfl T.m_Heap (st_Heap_line T) (fa_consF (fe_var 3) (fa_consF (fe_var 5) (fa_consF (fe_var 6) fa_nilF)))) (fa_consF (fe_statK0 (calk_Heap_line_0_reach_places_worths T (takes_of rfl rfl rfl rfl) hr) rfl T.m_Heap (st_Heap_line T) (fk_cons (fe_var 6) (fk_cons (fe_var 5) (fk_cons (fe_var 3) fk_nil)))) fa_nilF))))) (fss_cons (fs_if (ft_not (ft_val (fe_bi (cb_all rfl rfl) rfl T.n_all PyProof.Rows.boot_all (fa_consB (pe_nb (fe_lc (own := [("_law_each", 10)]) rfl sc__law_right.nd (fi_seqB rfl (pe_b (fe_var 9))) (blkOk_by rfl) (fun _ _ _ _ _ => (fge_name 10 sc__law_right.nd rfl (by first | exact .inl rfl | exact .inr rfl))) (fun _ _ _ _ _ => fpts_nil) (fun _ _ _ _ _ => (fe_and (pe_nf (fe_cmp (op_eqF rfl hr.units) (pe_b (fe_fld (fa_Heap_pairs T) (fe_var 10))) (pe_b (fe_var 8)))) (fe_one (pe_nf (fe_cmp (op_eqF rfl hr.units) (pe_b (fe_fld (fa_Heap_worths T) (fe_var 10))) (pe_b (fe_var 3))))))))) fa_nilB)))) (fss_one (fs_ret fe_bl)) fss_nil) (fss_cons (fs_parT (is := [11, 12]) rfl (fn_cons 11 sc__law_right.nd rfl (by first | exact .inl rfl | exact .inr rfl) (fn_cons 12 sc__law_right.nd rfl (by first | exact .inl rfl | exact .inr rfl) fn_nil)) (fl_ow (fe_lst fa_nilF) (fl_pl (fe_call (cal__law_any_of T (takes_of rfl rfl rfl rfl) hr) rfl T.m__law_any_of T.k__law_any_of (fa_consF (fe_var 0) (fa_consF (pe_nf (fe_lst (fa_consF fe_str (fa_consF fe_str (fa_consF fe_str fa_nilF))))) fa_nilF))) fl_nil))) (fss_cons (fs_asg 13 sc__law_right.nd rfl (by first | exact .inl rfl | exact .inr rfl) (fe_call (cal__law_any_of T (takes_of rfl rfl rfl rfl) hr) rfl T.m__law_any_of T.k__law_any_of (fa_consF (fe_var 0) (fa_consF (pe_nf (fe_lst (fa_consF (pe_nf (fe_lst (fa_consF fe_int (fa_consF fe_int (fa_consF fe_int (fa_consF fe_int (fa_consF fe_int fa_nilF))))))) (fa_consF (pe_nf (fe_lst (fa_consF fe_int (fa_consF fe_int (fa_consF fe_int fa_nilF))))) fa_nilF)))) fa_nilF)))) (fss_cons (fs_for (passes_of rfl) rfl (fi_range1 rfl T.n_range (pe_b (fe_var 2))) (fg_name 7 sc__law_right.nd rfl (by first | exact .inl rfl | exact .inr rfl)) (fss_one (fs_app 11 rfl (fe_joinX rfl fe_str (pe_nb (fe_lc (own := [("_law_j", 14)]) rfl sc__law_right.nd (fi_fb (fi_range1 rfl T.n_range (pe_b (fe_call (cal__law_any_of T (takes_of rfl rfl rfl rfl) hr) rfl T.m__law_any_of T.k__law_any_of (fa_consF (fe_var 0) (fa_consF (fe_var 13) fa_nilF)))))) (blkOk_by rfl) (fun _ _ _ _ _ => (fge_name 14 sc__law_right.nd rfl (by first | exact .inl rfl | exact .inr rfl))) (fun _ _ _ _ _ => fpts_nil) (fun _ _ _ _ _ => (fe_call (cal__law_any_of T takes0 hr) rfl T.m__law_any_of T.k__law_any_of (fa_consF (fe_var 0) (fa_consF (fe_var 12) fa_nilF)))))))))) (fss_cons (fs_asg 15 sc__law_right.nd rfl (by first | exact .inl rfl | exact .inr rfl) (fe_call (cal__law_scoop T (takes_of rfl rfl rfl rfl) hr) rfl T.m__law_scoop T.k__law_scoop (fa_consF (fe_var 0) (fa_consF (fe_call (cal__law_any_of T (takes_of rfl rfl rfl rfl) hr) rfl T.m__law_any_of T.k__law_any_of (fa_consF (fe_var 0) (fa_consF (pe_nf (fe_lst (fa_consF fe_int (fa_consF fe_int fa_nilF)))) fa_nilF))) fa_nilF)))) (fss_cons (fs_fr 11 (fs_asg 8 sc__law_right.nd rfl (by first | exact .inl rfl | exact .inr rfl) (fe_callL (q := "_law_right.<locals>.<lambda>") (ps := ["_law_one", "_law_two"]) (fr := ["_law_few", "_law_names"]) (N' := ["_law_one", "_law_two", "_law_few", "_law_names"]) (js := [15, 11]) (okH__law_pairs_of T) (fun z => z.elim) (hr.mono (by decide)) T.b__law_pairs_of (takes_of rfl rfl rfl rfl) rfl rfl T.m__law_pairs_of T.k__law_pairs_of (fal_cons (fe_var 2) fal_one) ⟨own_of hc T.tb__law_right, (by kernel_rfl), rfl, (by kernel_rfl), NdefX.nscope_by (by kernel_rfl), rfl, fun _ _ _ _ _ _ us hl => match us, hl with | [_, _], _ => rfl⟩ (kb := 1) (by decide) (fun f c A outer s H E hr => (pe_nf (fe_cmp op_leF (pe_b (fe_call (cal__law_unlike T (takes_of rfl rfl rfl rfl) hr) rfl T.m__law_unlike T.k__law_unlike (fa_consF (fe_ix rfl (pe_b (fe_var 3)) (pe_b (fe_var 0))) (fa_consF (fe_ix rfl (pe_b (fe_var 3)) (pe_b (fe_var 1))) fa_nilF)))) (pe_b (fe_var 2)))))))) (fss_cons (fs_asg 9 sc__law_right.nd rfl (by first | exact .inl rfl | exact .inr rfl) (pe_nf (fe_lst (fa_consF (fe_stat (cal_Heap_words T (takes_of rfl rfl rfl rfl) hr) rfl T.m_Heap (st_Heap_words T) (fa_consF (fe_var 3) (fa_consF (pe_nf (fe_ty (cb_tup rfl) rfl T.n_tuple PyProof.Rows.boot_tuple (fa_consB (fe_bor 11) fa_nilB))) (fa_consF (fe_var 15) fa_nilF)))) (fa_consF (fe_statK0 (calk_Heap_words_0_most_words_worths T (takes_of rfl rfl rfl rfl) hr) rfl T.m_Heap (st_Heap_words T) (fk_cons (fe_var 15) (fk_cons (pe_nf (fe_ty (cb_tup rfl) rfl T.n_tuple PyProof.Rows.boot_tuple (fa_consB (fe_bor 11) fa_nilB))) (fk_cons (fe_var 3) fk_nil)))) fa_nilF))))) (fss_one (fs_if (ft_not (ft_val (fe_bi (cb_all rfl rfl) rfl T.n_all PyProof.Rows.boot_all (fa_consB (pe_nb (fe_lc (own := [("_law_each", 10)]) rfl sc__law_right.nd (fi_seqB rfl (pe_b (fe_var 9))) (blkOk_by rfl) (fun _ _ _ _ _ => (fge_name 10 sc__law_right.nd rfl (by first | exact .inl rfl | exact .inr rfl))) (fun _ _ _ _ _ => fpts_nil) (fun _ _ _ _ _ => (fe_and (pe_nf (fe_cmp (op_eqF rfl hr.units) (pe_b (fe_fld (fa_Heap_pairs T) (fe_var 10))) (pe_b (fe_var 8)))) (fe_one (pe_nf (fe_cmp (op_eqF rfl hr.units) (pe_b (fe_fld (fa_Heap_worths T) (fe_var 10))) (pe_b (fe_var 3))))))))) fa_nilB)))) (fss_one (fs_ret fe_bl)) fss_nil))))))))))))))) (fss_one (fs_ret fe_bl))))
theorem cal__law_right (T : Txt X.K X.mg X.base ad fd tl) (tk : Takes X W) (hr : Room k X.A) (hk : 7 ≤ k := by decide) : CalF X (gp X.w X.K ad tl) W (.ref (ad 131)) f__law_right := cal_ok (ok__law_right T) (hr.mono hk) T.b__law_right tk
theorem sc__law_well : FnScope ["_law_script", "_law_k", "_law_own", "_law_mixed", "_law_entry"] ["_law_script", "_law_k"] (defScope s__law_well) := ⟨rfl, rfl, rfl, by decide +kernel, rfl, by decide +kernel, by decide +kernel⟩
theorem ok__law_well (T : Txt K mg base ad fd tl) : FnOk P w K mg base (L2.CX P w) 1 (ad 132) (fd 132) ["_law_script", "_law_k"] (spF (gp w K ad tl) f__law_well) :=
  fnOk_of (N := ["_law_script", "_law_k", "_law_own", "_law_mixed", "_law_entry"]) T.d__law_well sc__law_well (fun cdv A outer s H E μ _ hr =>
    (fss_cons (fs_asg 2 sc__law_well.nd rfl (by first | exact .inl rfl | exact .inr rfl) (fe_if (ft_cmp (op_ltF rfl hr.units0) (pe_b (fe_var 1)) (pe_nb (fe_bi (cb_len rfl) rfl T.n_len boot_len (fa_consB (pe_b (fe_var 0)) fa_nilB)))) (pe_nf (fe_ty cb_int rfl T.n_int PyProof.Rows.boot_int (fa_consB (pe_b (fe_ix rfl (pe_b (fe_var 0)) (pe_b (fe_var 1)))) fa_nilB))) (pe_nf (fe_op (op_addF rfl) (pe_nb (fe_op (op_mulF rfl) (pe_b fe_int) (pe_b (fe_var 1)))) (pe_b fe_int))))) (fss_cons (fs_asg 3 sc__law_well.nd rfl (by first | exact .inl rfl | exact .inr rfl) (pe_nf (fe_op (op_addF rfl) (pe_b fe_int) (pe_nb (fe_op (op_mulF rfl) (pe_b fe_int) (pe_b (fe_var 1))))))) (fss_cons (fs_for (passes_of rfl) rfl (fi_seqF rfl (pe_nf (fe_slice rfl (pe_b (fe_var 0)) fo_none (fo_some (pe_b fe_int))))) (fg_name 4 sc__law_well.nd rfl (by first | exact .inl rfl | exact .inr rfl)) (fss_one (fs_asg 3 sc__law_well.nd rfl (by first | exact .inl rfl | exact .inr rfl) (pe_nf (fe_op op_modF (pe_nb (fe_ty cb_int rfl T.n_int PyProof.Rows.boot_int (fa_consB (pe_nb (fe_op (op_addF rfl) (pe_nb (fe_op (op_mulF rfl) (pe_b (fe_var 3)) (pe_b fe_int))) (pe_nb (fe_op op_modF (pe_nb (fe_ty cb_int rfl T.n_int PyProof.Rows.boot_int (fa_consB (pe_b (fe_var 4)) fa_nilB))) (pe_b fe_int))))) fa_nilB))) (pe_b fe_int)))))) (fss_one (fs_ret (pe_share (fe_lst (fa_consF (pe_nf (fe_op op_modF (pe_nb (fe_ty cb_int rfl T.n_int PyProof.Rows.boot_int (fa_consB (pe_nb (fe_op (op_addF rfl) (pe_nb (fe_op (op_mulF rfl) (pe_b (fe_var 3)) (pe_b fe_int))) (pe_nb (fe_op op_modF (pe_b (fe_var 2)) (pe_b fe_int))))) fa_nilB))) (pe_b fe_int))) (fa_consF (fe_if (ft_w (fw_or (ft_cmp (op_ltF rfl hr.units0) (pe_b (fe_var 2)) (pe_b fe_int)) (fw_or1 (ft_cmp op_geF (pe_b (fe_var 2)) (pe_nb (fe_op op_powF (pe_b fe_int) (pe_b fe_int))))))) (pe_nf (fe_bi cb_abs rfl T.n_abs PyProof.Rows.boot_abs (fa_consB (pe_b (fe_var 2)) fa_nilB))) fe_int) (fa_consF fe_int fa_nilF)))))))))))
theorem cal__law_well (T : Txt X.K X.mg X.base ad fd tl) (tk : Takes X W) (hr : Room k X.A) (hk : 1 ≤ k := by decide) : CalF X (gp X.w X.K ad tl) W (.ref (ad 132)) f__law_well := cal_ok (ok__law_well T) (hr.mono hk) T.b__law_well tk
theorem sc_law : FnScope ["_law_script", "_law_k"] ["_law_script"] (defScope s_law) := ⟨rfl, rfl, rfl, by decide +kernel, rfl, by decide +kernel, by decide +kernel⟩
theorem ok_law (T : Txt K mg base ad fd tl) : FnOk P w K mg base (L2.CX P w) 8 (ad 133) (fd 133) ["_law_script"] (spF (gp w K ad tl) f_law) :=
  fnOk_of (N := ["_law_script", "_law_k"]) T.d_law sc_law (fun cdv A outer s H E μ _ hr =>
    (fss_one (fs_ret (pe_nf (fe_bi (cb_all rfl rfl) rfl T.n_all PyProof.Rows.boot_all (fa_consB (pe_nb (fe_lc (own := [("_law_k", 1)]) rfl sc_law.nd (fi_fb (fi_range1 rfl T.n_range (pe_nb (fe_bi (cb_max rfl rfl) rfl T.n_max PyProof.Rows.boot_max (fa_consB (pe_b fe_int) (fa_consB (pe_nb (fe_bi (cb_min rfl rfl) rfl T.n_min PyProof.Rows.boot_min (fa_consB (pe_nb (fe_bi (cb_len rfl) rfl T.n_len boot_len (fa_consB (pe_b (fe_var 0)) fa_nilB))) (fa_consB (pe_b fe_int) fa_nilB)))) fa_nilB)))))) (blkOk_by rfl) (fun _ _ _ _ _ => (fge_name 1 sc_law.nd rfl (by first | exact .inl rfl | exact .inr rfl))) (fun _ _ _ _ _ => fpts_nil) (fun _ _ _ _ _ => (fe_call (cal__law_right T takes0 hr) rfl T.m__law_right T.k__law_right (fa_consF (fe_call (cal__law_well T takes0 hr) rfl T.m__law_well T.k__law_well (fa_consF (fe_var 0) (fa_consF (fe_var 1) fa_nilF))) fa_nilF))))) fa_nilB))))))
theorem cal_law (T : Txt X.K X.mg X.base ad fd tl) (tk : Takes X W) (hr : Room k X.A) (hk : 8 ≤ k := by decide) : CalF X (gp X.w X.K ad tl) W (.ref (ad 133)) f_law := cal_ok (ok_law T) (hr.mono hk) T.b_law tk
end
end KG

set_option Elab.async false
set_option linter.all false
set_option maxRecDepth 100000
set_option maxHeartbeats 1000000
/-! KWp: what a reading does, told backwards; one rule a combinator. -/
namespace KL
open PySem (Str PyData)
/-- of an outcome: Q of a value, E of an exception -/
structure wpE {α : Type} (m : R α) (Q : α → Store → Prop) (E : Val → Store → Prop) : Prop where
  out : match m with
    | .ok a S => Q a S
    | .er e S => E e S
    | .sk => False
structure wpS (m : RS) (Q : Fl → Env → Store → Prop) (E : Val → Env → Store → Prop) : Prop where
  out : match m with
    | .go f ρ S => Q f ρ S
    | .er e ρ S => E e ρ S
    | .sk => False
section
variable {α β : Type} {Q : α → Store → Prop} {E : Val → Store → Prop} {D : Fl → Env → Store → Prop} {X : Val → Env → Store → Prop} {V : Val → Store → Prop} {ρ : Env} {S : Store}
theorem wp_ok {a : α} (h : Q a S) : wpE (.ok a S) Q E := ⟨h⟩
theorem ws_go {f : Fl} (h : D f ρ S) : wpS (.go f ρ S) D X := ⟨h⟩
theorem wp_bind {m : R α} {f : α → Store → R β} {Q : β → Store → Prop} (h : wpE m (fun a S1 => wpE (f a S1) Q E) E) : wpE (m.bind f) Q E := by
  cases m with
  | ok a S => exact h.out
  | er e S => exact ⟨h.out⟩
  | sk => exact h.out.elim
theorem wp_of {o : Option α} (h : ∃ a, o = some a ∧ Q a S) : wpE (R.of o S) Q E := by
  obtain ⟨a, rfl, h⟩ := h
  exact ⟨h⟩
theorem wp_ne {m : R α} (h : wpE m Q (fun _ _ => False)) : wpE m.ne Q E := by
  cases m with
  | ok a S => exact ⟨h.out⟩
  | er e S => exact h.out.elim
  | sk => exact h.out.elim
theorem wp_mono {m : R α} {Q' : α → Store → Prop} {E' : Val → Store → Prop} (h : wpE m Q' E') (q : ∀ a S, Q' a S → Q a S) (e : ∀ a S, E' a S → E a S) : wpE m Q E := by
  cases m with
  | ok a S => exact ⟨q _ _ h.out⟩
  | er a S => exact ⟨e _ _ h.out⟩
  | sk => exact h.out.elim
theorem wp_ex {m : R α} (h : wpE m Q fun _ _ => False) : ∃ a S, m = .ok a S ∧ Q a S := by
  cases m with
  | ok a S => exact ⟨_, _, rfl, h.out⟩
  | er a S => exact False.elim h.out
  | sk => exact False.elim h.out
theorem ws_stm {m : R α} {f : α → Store → RS} (h : wpE m (fun a S1 => wpS (f a S1) D X) (fun e S1 => X e ρ S1)) : wpS (m.stm ρ f) D X := by
  cases m with
  | ok a S => exact h.out
  | er e S => exact ⟨h.out⟩
  | sk => exact h.out.elim
theorem ws_then {m : RS} {f : Env → Store → RS} (h : wpS m (fun fl ρ1 S1 => match fl with | .nx => wpS (f ρ1 S1) D X | fl => D fl ρ1 S1) X) : wpS (m.then f) D X := by
  cases m with
  | go fl ρ S =>
    cases fl with
    | nx => exact h.out
    | _ => exact ⟨h.out⟩
  | er e ρ S => exact ⟨h.out⟩
  | sk => exact h.out.elim
theorem ws_nxo {m : RS} (h : wpS m (fun fl ρ1 S1 => match fl with | .nx => D .nx ρ1 S1 | _ => False) X) : wpS m.nxo D X := by
  cases m with
  | go fl ρ S =>
    cases fl with
    | nx => exact ⟨h.out⟩
    | _ => exact h.out.elim
  | er e ρ S => exact ⟨h.out⟩
  | sk => exact h.out.elim
theorem ws_mono {m : RS} {D' : Fl → Env → Store → Prop} {X' : Val → Env → Store → Prop} (h : wpS m D' X') (q : ∀ a ρ S, D' a ρ S → D a ρ S) (e : ∀ a ρ S, X' a ρ S → X a ρ S) : wpS m D X := by
  cases m with
  | go f ρ S => exact ⟨q _ _ _ h.out⟩
  | er a ρ S => exact ⟨e _ _ _ h.out⟩
  | sk => exact h.out.elim
/-! names, constants, operators -/
theorem wp_var {i : Nat} {v : Val} (e : ρ[i]? = some (.pl v)) (h : V v S) : wpE (cVar i ρ S) V E := by
  unfold cVar; rw [e]; exact wp_ok h
theorem wp_borP {i : Nat} {v : Val} (e : ρ[i]? = some (.pl v)) (h : V v S) : wpE (cBor i ρ S) V E := by
  unfold cBor; rw [e]; exact wp_ok h
theorem wp_borO {i : Nat} {v : List Val} (e : ρ[i]? = some (.ow v)) (h : V (.lst v) S) : wpE (cBor i ρ S) V E := by
  unfold cBor; rw [e]; exact wp_ok h
theorem wp_c {v : Val} (h : V v S) : wpE (cC v ρ S) V E := wp_ok h
variable {a b c : KL.E Val} {f g k : Val → Val → Option Val} {t u : T} {B : Bool → Store → Prop} {ms : KL.E (List Val)} {L : List Val → Store → Prop}
theorem wp_un {f : Val → Option Val} (h : wpE (a ρ S) (fun x S1 => ∃ z, f (dr S1 x) = some z ∧ V z S1) E) : wpE (cUn f a ρ S) V E := wp_bind (wp_mono h (fun _ _ q => wp_of q) fun _ _ q => q)
theorem wp_op (h : wpE (a ρ S) (fun x S1 => wpE (b ρ S1) (fun y S2 => ∃ z, f (dr S2 x) (dr S2 y) = some z ∧ V z S2) E) E) : wpE (cOp f a b ρ S) V E :=
  wp_bind (wp_mono h (fun _ _ q => wp_bind (wp_mono q (fun _ _ q => wp_of q) fun _ _ q => q)) fun _ _ q => q)
theorem wp_t (h : wpE (a ρ S) (fun x S1 => ∃ z, asB x = some z ∧ B z S1) E) : wpE (cT a ρ S) B E := wp_bind (wp_mono h (fun _ _ q => wp_of q) fun _ _ q => q)
theorem wp_b (h : wpE (t ρ S) (fun x S1 => V (.bl x) S1) E) : wpE (cB t ρ S) V E := wp_bind (wp_mono h (fun _ _ q => wp_ok q) fun _ _ q => q)
theorem wp_and (h : wpE (t ρ S) (fun x S1 => (x = true → wpE (u ρ S1) B E) ∧ (x = false → B false S1)) E) : wpE (cAnd t u ρ S) B E := wp_bind (wp_mono h (fun x _ q => by
  cases x with
  | true => exact q.1 rfl
  | false => exact wp_ok (q.2 rfl)) fun _ _ q => q)
theorem wp_or (h : wpE (t ρ S) (fun x S1 => (x = true → B true S1) ∧ (x = false → wpE (u ρ S1) B E)) E) : wpE (cOr t u ρ S) B E := wp_bind (wp_mono h (fun x _ q => by
  cases x with
  | true => exact wp_ok (q.1 rfl)
  | false => exact q.2 rfl) fun _ _ q => q)
theorem wp_not (h : wpE (t ρ S) (fun x S1 => B (!x) S1) E) : wpE (cNot t ρ S) B E := wp_bind (wp_mono h (fun _ _ q => wp_ok q) fun _ _ q => q)
theorem wp_if {m n : KL.E α} (h : wpE (t ρ S) (fun x S1 => (x = true → wpE (m ρ S1) Q E) ∧ (x = false → wpE (n ρ S1) Q E)) E) : wpE (cIf t m n ρ S) Q E := wp_bind (wp_mono h (fun x _ q => by
  cases x with
  | true => exact q.1 rfl
  | false => exact q.2 rfl) fun _ _ q => q)
theorem wp_andV (h : wpE (cT a ρ S) (fun x S1 => (x = true → wpE (b ρ S1) V E) ∧ (x = false → V (.bl false) S1)) E) : wpE (cAndV a b ρ S) V E := wp_bind (wp_mono h (fun x _ q => by
  cases x with
  | true => exact q.1 rfl
  | false => exact wp_ok (q.2 rfl)) fun _ _ q => q)
theorem wp_orV (h : wpE (cT a ρ S) (fun x S1 => (x = true → V (.bl true) S1) ∧ (x = false → wpE (b ρ S1) V E)) E) : wpE (cOrV a b ρ S) V E := wp_bind (wp_mono h (fun x _ q => by
  cases x with
  | true => exact wp_ok (q.1 rfl)
  | false => exact q.2 rfl) fun _ _ q => q)
theorem wp_notV (h : wpE (cT a ρ S) (fun x S1 => V (.bl (!x)) S1) E) : wpE (cNotV a ρ S) V E := wp_bind (wp_mono h (fun _ _ q => wp_ok q) fun _ _ q => q)
theorem wp_chain (h : wpE (a ρ S) (fun x S1 => wpE (b ρ S1) (fun y S2 => ∃ z, f (dr S2 x) (dr S2 y) = some (.bl z) ∧ (z = true → wpE (c ρ S2) (fun w S3 => ∃ z, g (dr S3 y) (dr S3 w) = some (.bl z) ∧ B z S3) E) ∧ (z = false → B false S2)) E) E) : wpE (cChain f g a b c ρ S) B E :=
  wp_bind (wp_mono h (fun _ _ q => wp_bind (wp_mono q (fun _ _ ⟨z, e, q1, q2⟩ => wp_bind (wp_of ⟨z, by rw [e]; rfl, by
    cases z with
    | true => exact wp_bind (wp_mono (q1 rfl) (fun _ _ ⟨z, e, q⟩ => wp_of ⟨z, by rw [e]; rfl, q⟩) fun _ _ q => q)
    | false => exact wp_ok (q2 rfl)⟩)) fun _ _ q => q)) fun _ _ q => q)
theorem wp_chain3 {d : KL.E Val} (h : wpE (a ρ S) (fun x S1 => wpE (b ρ S1) (fun y S2 => ∃ z, f (dr S2 x) (dr S2 y) = some (.bl z) ∧ (z = true → wpE (c ρ S2) (fun w S3 => ∃ z, g (dr S3 y) (dr S3 w) = some (.bl z) ∧
      (z = true → wpE (d ρ S3) (fun v S4 => ∃ z, k (dr S4 w) (dr S4 v) = some (.bl z) ∧ B z S4) E) ∧ (z = false → B false S3)) E) ∧ (z = false → B false S2)) E) E) : wpE (cChain3 f g k a b c d ρ S) B E :=
  wp_bind (wp_mono h (fun _ _ q => wp_bind (wp_mono q (fun _ _ ⟨z, e, q1, q2⟩ => wp_bind (wp_of ⟨z, by rw [e]; rfl, by
    cases z with
    | true => exact wp_bind (wp_mono (q1 rfl) (fun _ _ ⟨z, e, q1, q2⟩ => wp_bind (wp_of ⟨z, by rw [e]; rfl, by
        cases z with
        | true => exact wp_bind (wp_mono (q1 rfl) (fun _ _ ⟨z, e, q⟩ => wp_of ⟨z, by rw [e]; rfl, q⟩) fun _ _ q => q)
        | false => exact wp_ok (q2 rfl)⟩)) fun _ _ q => q)
    | false => exact wp_ok (q2 rfl)⟩)) fun _ _ q => q)) fun _ _ q => q)
theorem wp_nil (h : L [] S) : wpE (cNil ρ S) L E := wp_ok h
theorem wp_cons (h : wpE (a ρ S) (fun x S1 => wpE (ms ρ S1) (fun xs S2 => L (x :: xs) S2) E) E) : wpE (cCons a ms ρ S) L E := wp_bind (wp_mono h (fun _ _ q => wp_bind (wp_mono q (fun _ _ q => wp_ok q) fun _ _ q => q)) fun _ _ q => q)
theorem wp_tup (h : wpE (ms ρ S) (fun xs S1 => xs.length ≤ big ∧ V (.tup xs) S1) E) : wpE (cTup ms ρ S) V E := wp_bind (wp_mono h (fun _ _ q => by show wpE (if _ then _ else _) _ _; rw [if_pos q.1]; exact wp_ok q.2) fun _ _ q => q)
theorem wp_lst (h : wpE (ms ρ S) (fun xs S1 => xs.length ≤ big ∧ V (.lst xs) S1) E) : wpE (cLst ms ρ S) V E := wp_bind (wp_mono h (fun _ _ q => by show wpE (if _ then _ else _) _ _; rw [if_pos q.1]; exact wp_ok q.2) fun _ _ q => q)
theorem wp_bi {f : List Val → Option Val} (h : wpE (ms ρ S) (fun xs S1 => ∃ z, f (xs.map (dr S1)) = some z ∧ V z S1) E) : wpE (cBi f ms ρ S) V E := wp_bind (wp_mono h (fun _ _ q => wp_of q) fun _ _ q => q)
theorem wp_call {f : F} (h : wpE (ms ρ S) (fun xs S1 => wpE (f xs S1) V E) E) : wpE (cCall f ms ρ S) V E := wp_bind h
theorem wp_callK {f : F} {n m : Nat} {ns : KL.E (List Val)} (h : wpE (ms ρ S) (fun xs S1 => wpE (ns ρ S1) (fun ys S2 => xs.length = n ∧ ys.length = m ∧ wpE (f (xs ++ ys) S2) V E) E) E) : wpE (cCallK n m f ms ns ρ S) V E :=
  wp_bind (wp_mono h (fun _ _ q => wp_bind (wp_mono q (fun _ _ q => by show wpE (if _ then _ else _) _ _; rw [if_pos ⟨q.1, q.2.1⟩]; exact q.2.2) fun _ _ q => q)) fun _ _ q => q)
theorem wp_fld {c k : Nat} (h : wpE (a ρ S) (fun x S1 => ∃ z, fldOf S1 c k x = some z ∧ V z S1) E) : wpE (cFld c k a ρ S) V E := wp_bind (wp_mono h (fun _ _ q => wp_of q) fun _ _ q => q)
theorem wp_sl {lo hi : KL.E (Option Int)} (h : wpE (a ρ S) (fun x S1 => wpE (lo ρ S1) (fun l S2 => wpE (hi ρ S2) (fun r S3 => ∃ z, opCut (dr S3 x) l r = some z ∧ V z S3) E) E) E) : wpE (cSl a lo hi ρ S) V E :=
  wp_bind (wp_mono h (fun _ _ q => wp_bind (wp_mono q (fun _ _ q => wp_bind (wp_mono q (fun _ _ q => wp_of q) fun _ _ q => q)) fun _ _ q => q)) fun _ _ q => q)
theorem wp_pn {Q : Option Int → Store → Prop} (h : Q none S) : wpE (cPn ρ S) Q E := wp_ok h
theorem wp_ps {Q : Option Int → Store → Prop} (h : wpE (a ρ S) (fun x S1 => ∃ z, asI x = some z ∧ Q z S1) E) : wpE (cPs a ρ S) Q E := wp_bind (wp_mono h (fun _ _ q => wp_of q) fun _ _ q => q)
theorem wp_share (h : wpE (a ρ S) (fun x S1 => ∃ xs, x = .lst xs ∧ V (.ref S1.length) (S1 ++ [.lst xs])) E) : wpE (cShare a ρ S) V E := wp_bind (wp_mono h (fun _ _ ⟨xs, e, q⟩ => by subst e; exact wp_ok q) fun _ _ q => q)
theorem wp_yes {Q : Bool → Store → Prop} (h : Q true S) : wpE (cYes ρ S) Q E := wp_ok h
theorem wp_isT {T : Ty} {own : List Nat} (h : wpE (a ρ S) (fun x S1 => ∃ t, tyOf x = some t ∧ V (.bl (isTy t T)) S1) E) : wpE (cIsT T own a ρ S) V E := wp_bind (wp_mono h (fun _ _ ⟨t, e, q⟩ => by rw [e]; exact wp_ok q) fun _ _ q => q)
theorem wp_own1 {c : Nat} {g : F} {p : Val → Option Val} (h : wpE (a ρ S) (fun x S1 => isOf S1 c x = true ∧ wpE (g [x] S1) (fun v S2 => ∃ z, p v = some z ∧ V z S2) fun _ _ => False) E) : wpE (cOwn1 c g p a ρ S) V E := wp_bind (wp_mono h (fun _ _ q => by
  rw [if_pos q.1]
  exact wp_bind (wp_ne (wp_mono q.2 (fun _ _ q => wp_of q) fun _ _ q => q))) fun _ _ q => q)
theorem wp_ownEq {c : Nat} {own : List Nat} {g : F} {neg : Bool} (h : wpE (a ρ S) (fun x S1 => wpE (b ρ S1) (fun y S2 => (isOf S2 c x && known S2 own y) = true ∧ wpE (g [x, y] S2) (fun v S3 => ∃ k, v = .bl k ∧ V (.bl (if neg then !k else k)) S3) fun _ _ => False) E) E) : wpE (cOwnEq c own g neg a b ρ S) V E :=
  wp_bind (wp_mono h (fun _ _ q => wp_bind (wp_mono q (fun _ _ q => by
    rw [if_pos q.1]
    exact wp_bind (wp_ne (wp_mono q.2 (fun _ _ ⟨k, e, q⟩ => by subst e; exact wp_ok q) fun _ _ q => q))) fun _ _ q => q)) fun _ _ q => q)
/-! what is walked -/
theorem wp_sq (h : wpE (a ρ S) (fun x S1 => ∃ xs, sqOf x = some xs ∧ L xs S1) E) : wpE (iSq a ρ S) L E := wp_bind (wp_mono h (fun x _ ⟨xs, e, q⟩ => by
  cases x <;> cases e <;> exact wp_ok q) fun _ _ q => q)
theorem wp_ra (h : wpE (a ρ S) (fun x S1 => ∃ j : Int, x = .int j ∧ (-(2 ^ 62) ≤ j ∧ j < 2 ^ 62) ∧ L (rngV 0 j.toNat) S1) E) : wpE (iRa a ρ S) L E := wp_bind (wp_mono h (fun x _ ⟨j, e, hj, q⟩ => by
  subst e; dsimp only; rw [if_pos hj]; exact wp_ok q) fun _ _ q => q)
theorem wp_rb (h : wpE (a ρ S) (fun x S1 => wpE (b ρ S1) (fun y S2 => ∃ i j : Int, x = .int i ∧ y = .int j ∧ (-(2 ^ 62) ≤ i ∧ i < 2 ^ 62 ∧ -(2 ^ 62) ≤ j ∧ j < 2 ^ 62) ∧ L (rngV i (j - i).toNat) S2) E) E) : wpE (iRb a b ρ S) L E :=
  wp_bind (wp_mono h (fun x _ q => wp_bind (wp_mono q (fun _ _ ⟨i, j, e1, e2, hj, z⟩ => by subst e1; subst e2; dsimp only; rw [if_pos hj]; exact wp_ok z) fun _ _ q => q)) fun _ _ q => q)
theorem wp_en (h : wpE (iSq a ρ S) (fun xs S1 => L (enumV 0 xs) S1) E) : wpE (iEn a ρ S) L E := wp_bind (wp_mono h (fun _ _ q => wp_ok q) fun _ _ q => q)
theorem wp_lstRg (h : wpE (a ρ S) (fun x S1 => ∃ n : Int, x = .int n ∧ (-(2 ^ 62) ≤ n ∧ n ≤ big) ∧ V (.lst (rngV 0 n.toNat)) S1) E) : wpE (cLstRg a ρ S) V E := wp_bind (wp_mono h (fun x _ ⟨j, e, hj, q⟩ => by
  subst e; dsimp only; rw [if_pos hj]; exact wp_ok q) fun _ _ q => q)
/-- a comprehension, by an invariant of what was made -/
theorem wp_lcG {tg : Tg} {e : KL.E Val} {P : Nat → List Val → Store → Prop} : ∀ (xs : List Val) (n : Nat) (S : Store) (acc : List Val), P n acc S → acc.length + xs.length ≤ big →
    (∀ (i : Nat) (x : Val) (S : Store) (acc : List Val), xs[i]? = some x → P (n + i) acc S → ∃ ρ1, tg x ρ = some ρ1 ∧ wpE (t ρ1 S) (fun k S1 => (k = true → wpE (e ρ1 S1) (fun y S2 => P (n + i + 1) (acc ++ [y]) S2) fun _ _ => False) ∧ (k = false → P (n + i + 1) acc S1)) fun _ _ => False) →
    (∀ acc S, P (n + xs.length) acc S → L acc S) → wpE (lcG tg t e ρ xs S acc) L E
  | [], n, S, acc, h, _, _, q => wp_ok (q acc S h)
  | x :: xs, n, S, acc, h, hl, st, q => by
    obtain ⟨ρ1, e1, w⟩ := st 0 x S acc rfl h
    have hl' : acc.length + (xs.length + 1) ≤ big := hl
    have next : ∀ (S2 : Store) (acc2 : List Val), P (n + 0 + 1) acc2 S2 → acc2.length ≤ acc.length + 1 → wpE (lcG tg t e ρ xs S2 acc2) L E := fun S2 acc2 h2 hl2 =>
      wp_lcG xs (n + 1) S2 acc2 h2 (by omega) (fun i x S acc hx hp => by
        obtain ⟨ρ1, e1, w⟩ := st (i + 1) x S acc hx (by rw [show n + (i + 1) = n + 1 + i by omega]; exact hp)
        exact ⟨ρ1, e1, wp_mono w (fun k S1 ⟨q1, q2⟩ => ⟨fun hk => wp_mono (q1 hk) (fun y S2 z => by rw [show n + 1 + i + 1 = n + (i + 1) + 1 by omega]; exact z) fun _ _ q => q, fun hk => by rw [show n + 1 + i + 1 = n + (i + 1) + 1 by omega]; exact q2 hk⟩) fun _ _ q => q⟩)
        fun acc S hp => q acc S (by rw [show n + (x :: xs).length = n + 1 + xs.length by simp; omega]; exact hp)
    unfold lcG
    rw [e1]
    refine wp_bind (wp_ne (wp_mono w (fun k S1 ⟨q1, q2⟩ => ?_) fun _ _ q => q))
    cases k with
    | true => exact wp_bind (wp_ne (wp_mono (q1 rfl) (fun y S2 z => by
        rw [if_pos (by omega)]
        exact next S2 _ z (by simp)) fun _ _ q => q))
    | false => exact next S1 _ (q2 rfl) (by omega)
theorem wp_lc {it : KL.E (List Val)} {tg : Tg} {e : KL.E Val} {vs : List Nat} (h : wpE (it ρ S) (fun xs S1 => wpE (lcG tg t e (wip ρ vs) xs S1 []) (fun ys S2 => V (.lst ys) S2) E) E) : wpE (cLC it tg t e vs ρ S) V E :=
  wp_bind (wp_mono h (fun _ _ q => wp_bind (wp_mono q (fun _ _ q => wp_ok q) fun _ _ q => q)) fun _ _ q => q)
/-! statements -/
variable {m n : C}
theorem ws_nil (h : D .nx ρ S) : wpS (sNil ρ S) D X := ws_go h
theorem ws_seq (h : wpS (m ρ S) (fun fl ρ1 S1 => match fl with | .nx => wpS (n ρ1 S1) D X | fl => D fl ρ1 S1) X) : wpS (sSeq m n ρ S) D X := ws_then h
theorem ws_asg {i : Nat} (h : wpE (a ρ S) (fun x S1 => D .nx (ρ.set i (.pl x)) S1) fun e S1 => X e ρ S1) : wpS (sAsg i a ρ S) D X := ws_stm (wp_mono h (fun _ _ q => ws_go q) fun _ _ q => q)
theorem ws_asgL {i : Nat} (h : wpE (a ρ S) (fun x S1 => ∃ xs, x = .lst xs ∧ D .nx (ρ.set i (.pl (.lst xs))) S1) fun e S1 => X e ρ S1) : wpS (sAsgL i a ρ S) D X := ws_stm (wp_mono h (fun _ _ ⟨xs, e, q⟩ => by subst e; exact ws_go q) fun _ _ q => q)
theorem ws_new {i : Nat} (h : wpE (a ρ S) (fun x S1 => ∃ xs, x = .lst xs ∧ D .nx (ρ.set i (.ow xs)) S1) fun e S1 => X e ρ S1) : wpS (sNew i a ρ S) D X := ws_stm (wp_mono h (fun _ _ ⟨xs, e, q⟩ => by subst e; exact ws_go q) fun _ _ q => q)
theorem ws_if (h : wpE (t ρ S) (fun x S1 => (x = true → wpS (m ρ S1) D X) ∧ (x = false → wpS (n ρ S1) D X)) fun e S1 => X e ρ S1) : wpS (sIf t m n ρ S) D X := ws_stm (wp_mono h (fun x _ q => by
  cases x with
  | true => exact q.1 rfl
  | false => exact q.2 rfl) fun _ _ q => q)
theorem ws_drop (h : wpE (a ρ S) (fun _ S1 => D .nx ρ S1) fun e S1 => X e ρ S1) : wpS (sDrop a ρ S) D X := ws_stm (wp_mono h (fun _ _ q => ws_go q) fun _ _ q => q)
theorem ws_rt (h : wpE (a ρ S) (fun x S1 => D (.rt x) ρ S1) fun e S1 => X e ρ S1) : wpS (sRt a ρ S) D X := ws_stm (wp_mono h (fun _ _ q => ws_go q) fun _ _ q => q)
theorem ws_fr {i : Nat} (h : wpS (m (frzI ρ i) S) D X) : wpS (sFr i m ρ S) D X := h
theorem ws_raise (h : wpE (a ρ S) (fun x S1 => X x ρ S1) fun e S1 => X e ρ S1) : wpS (sRaise a ρ S) D X := ws_stm (wp_mono h (fun _ _ q => ⟨q⟩) fun _ _ q => q)
theorem ws_asgG {g : Val → C} (h : wpE (a ρ S) (fun x S1 => wpS (g x ρ S1) (fun fl ρ1 S1 => match fl with | .nx => D .nx ρ1 S1 | _ => False) X) fun e S1 => X e ρ S1) : wpS (sAsgG a g ρ S) D X := ws_stm (wp_mono h (fun _ _ q => ws_nxo q) fun _ _ q => q)
theorem ws_app {i : Nat} {xs : List Val} (e : ρ[i]? = some (.ow xs)) (h : wpE (a ρ S) (fun x S1 => xs.length < big ∧ D .nx (ρ.set i (.ow (xs ++ [x]))) S1) fun e S1 => X e ρ S1) : wpS (sApp i a ρ S) D X := by
  unfold sApp; rw [e]
  exact ws_stm (wp_mono h (fun _ _ q => by show wpS (if _ then _ else _) _ _; rw [if_pos q.1]; exact ws_go q.2) fun _ _ q => q)
theorem ws_appPop {i j : Nat} {xs ys : List Val} (n : i ≠ j) (e : ρ[i]? = some (.ow xs)) (e2 : ρ[j]? = some (.ow ys))
    (h : wpE (a ρ S) (fun x S1 => ∃ (k : Nat) (y : Val), x = .int k ∧ xs.length < big ∧ ys.length ≤ big ∧ ys[k]? = some y ∧ D .nx ((ρ.set j (.ow (ys.eraseIdx k))).set i (.ow (xs ++ [y]))) S1) fun e S1 => X e ρ S1) : wpS (sAppPop i j a ρ S) D X := by
  unfold sAppPop; rw [if_neg n, e, e2]
  exact ws_stm (wp_mono h (fun _ _ ⟨k, y, e, h1, h2, h3, q⟩ => by
    subst e
    have hk := (List.getElem?_eq_some_iff.mp h3).1
    dsimp only
    rw [if_pos ⟨h1, by omega, by omega, h2⟩, Int.toNat_natCast, h3]
    exact ws_go q) fun _ _ q => q)
theorem ws_del {i : Nat} {xs : List Val} (e : ρ[i]? = some (.ow xs)) (h : wpE (a ρ S) (fun x S1 => ∃ (k : Int) (q : Nat), x = .int k ∧ ixOf xs.length k = some q ∧ xs.length ≤ big ∧ D .nx (ρ.set i (.ow (xs.eraseIdx q))) S1) fun e S1 => X e ρ S1) : wpS (sDel i a ρ S) D X := by
  unfold sDel; rw [e]
  exact ws_stm (wp_mono h (fun _ _ ⟨k, q, e, h1, h2, z⟩ => by subst e; dsimp only; rw [h1]; dsimp only; rw [if_pos h2]; exact ws_go z) fun _ _ q => q)
theorem ws_sub {o ix : KL.E Val} {x : Val} (h : wpE (o ρ S) (fun r S2 => wpE (ix ρ S2) (fun k S3 => ∃ (n : Nat) (j : Int) (xs : List Val) (q : Nat), r = .ref n ∧ k = .int j ∧ S3[n]? = some (.lst xs) ∧ ixOf xs.length j = some q ∧ D .nx ρ (S3.set n (.lst (xs.set q x)))) fun e S1 => X e ρ S1) fun e S1 => X e ρ S1) : wpS (stSub o ix x ρ S) D X :=
  ws_stm (wp_mono h (fun _ _ q => ws_stm (wp_mono q (fun _ _ ⟨n, j, xs, q, e1, e2, e3, e4, z⟩ => by subst e1 e2; dsimp only; rw [e3]; dsimp only; rw [e4]; exact ws_go z) fun _ _ q => q)) fun _ _ q => q)
theorem ws_name {i : Nat} {x : Val} (h : D .nx (ρ.set i (.pl x)) S) : wpS (stName i x ρ S) D X := ws_go h
theorem ws_tup {gs : List (Val → C)} {xs : List Val} (hl : xs.length = gs.length) (h : wpS (stAll gs xs ρ S) D X) : wpS (stTup gs (.tup xs) ρ S) D X := by
  unfold stTup; dsimp only; rw [if_pos hl]; exact h
theorem ws_all0 (h : D .nx ρ S) : wpS (stAll [] [] ρ S) D X := ws_go h
theorem ws_all {g : Val → C} {gs : List (Val → C)} {v : Val} {vs : List Val} (h : wpS (g v ρ S) (fun fl ρ1 S1 => match fl with | .nx => wpS (stAll gs vs ρ1 S1) D X | _ => False) X) : wpS (stAll (g :: gs) (v :: vs) ρ S) D X :=
  ws_then (ws_nxo (ws_mono h (fun fl _ _ q => by cases fl <;> exact q) fun _ _ _ q => q))
theorem wl_nil {Q : List Slot → Store → Prop} (h : Q [] S) : wpE (lNil ρ S) Q E := wp_ok h
theorem wl_pl {r : KL.E (List Slot)} {Q : List Slot → Store → Prop} (h : wpE (a ρ S) (fun x S1 => wpE (r ρ S1) (fun ss S2 => Q (.pl x :: ss) S2) E) E) : wpE (lPl a r ρ S) Q E := wp_bind (wp_mono h (fun _ _ q => wp_bind (wp_mono q (fun _ _ q => wp_ok q) fun _ _ q => q)) fun _ _ q => q)
theorem wl_ow {r : KL.E (List Slot)} {Q : List Slot → Store → Prop} (h : wpE (a ρ S) (fun x S1 => ∃ xs, x = .lst xs ∧ wpE (r ρ S1) (fun ss S2 => Q (.ow xs :: ss) S2) E) E) : wpE (lOw a r ρ S) Q E := wp_bind (wp_mono h (fun _ _ ⟨xs, e, q⟩ => by subst e; exact wp_bind (wp_mono q (fun _ _ q => wp_ok q) fun _ _ q => q)) fun _ _ q => q)
theorem ws_pn {is : List Nat} {l : KL.E (List Slot)} (h : wpE (l ρ S) (fun ss S1 => ss.length = is.length ∧ D .nx (setN is ss ρ) S1) fun e S1 => X e ρ S1) : wpS (sPN is l ρ S) D X := ws_stm (wp_mono h (fun _ _ q => by show wpS (if _ then _ else _) _ _; rw [if_pos q.1]; exact ws_go q.2) fun _ _ q => q)
/-- for, by an invariant; a turn may also return or break -/
theorem ws_forG {g : Val → C} {P : Nat → Env → Store → Prop} : ∀ (xs : List Val) (k : Nat) (ρ : Env) (S : Store), P k ρ S →
    (∀ (i : Nat) (x : Val) (ρ : Env) (S : Store), xs[i]? = some x → P (k + i) ρ S → wpS (g x ρ S) (fun fl ρ1 S1 => match fl with
      | .nx => wpS (m ρ1 S1) (fun fl ρ2 S2 => match fl with | .nx => P (k + i + 1) ρ2 S2 | .ct => P (k + i + 1) ρ2 S2 | .bk => D .nx ρ2 S2 | .rt v => D (.rt v) ρ2 S2) X
      | _ => False) X) →
    (∀ ρ S, P (k + xs.length) ρ S → D .nx ρ S) → wpS (forG g m xs ρ S) D X
  | [], k, ρ, S, h, _, q => ws_go (q ρ S h)
  | x :: xs, k, ρ, S, h, st, q => by
    have w := st 0 x ρ S rfl h
    have next : ∀ (ρ2 : Env) (S2 : Store), P (k + 0 + 1) ρ2 S2 → wpS (forG g m xs ρ2 S2) D X := fun ρ2 S2 h2 =>
      ws_forG xs (k + 1) ρ2 S2 h2 (fun i x ρ S hx hp => by
        have w := st (i + 1) x ρ S hx (by rw [show k + (i + 1) = k + 1 + i by omega]; exact hp)
        rw [show k + (i + 1) + 1 = k + 1 + i + 1 by omega] at w
        exact w) fun ρ S hp => q ρ S (by rw [show k + (x :: xs).length = k + 1 + xs.length by simp; omega]; exact hp)
    unfold forG
    refine ws_then (ws_nxo (ws_mono w (fun fl ρ1 S1 z => ?_) fun _ _ _ q => q))
    cases fl with
    | nx =>
      dsimp only at z ⊢
      cases hm : m ρ1 S1 with
      | sk => rw [hm] at z; exact z.out.elim
      | er e ρ2 S2 => rw [hm] at z; exact ⟨z.out⟩
      | go fl ρ2 S2 =>
        rw [hm] at z
        cases fl with
        | nx => exact next _ _ z.out
        | ct => exact next _ _ z.out
        | bk => exact ⟨z.out⟩
        | rt v => exact ⟨z.out⟩
    | _ => exact z.elim
theorem ws_for {it : KL.E (List Val)} {g : Val → C} (h : wpE (it ρ S) (fun xs S1 => wpS (forG g m xs ρ S1) D X) fun e S1 => X e ρ S1) : wpS (sForG it g m ρ S) D X := ws_stm h
/-- while, by an invariant and a bound that falls -/
theorem ws_whl {P : Nat → Env → Store → Prop} : ∀ (n k : Nat) (ρ : Env) (S : Store), P k ρ S → k < n →
    (∀ (k : Nat) (ρ : Env) (S : Store), P k ρ S → wpE (t ρ S) (fun x S1 => (x = true → wpS (m ρ S1) (fun fl ρ2 S2 => match fl with | .nx => ∃ j, j < k ∧ P j ρ2 S2 | .ct => ∃ j, j < k ∧ P j ρ2 S2 | .bk => D .nx ρ2 S2 | .rt v => D (.rt v) ρ2 S2) X) ∧ (x = false → D .nx ρ S1)) fun e S1 => X e ρ S1) →
    wpS (sWhl n t m ρ S) D X
  | 0, _, _, _, _, h, _ => absurd h (Nat.not_lt_zero _)
  | n + 1, k, ρ, S, h, hk, st => by
    show wpS (whlL t m (n + 1) ρ S) D X
    unfold whlL
    refine ws_stm (wp_mono (st k ρ S h) (fun x S1 ⟨z1, z2⟩ => ?_) fun _ _ q => q)
    cases x with
    | false => exact ws_go (z2 rfl)
    | true =>
      have z := z1 rfl
      rw [if_pos rfl]
      cases hm : m ρ S1 with
      | sk => rw [hm] at z; exact z.out.elim
      | er e ρ2 S2 => rw [hm] at z; exact ⟨z.out⟩
      | go fl ρ2 S2 =>
        rw [hm] at z
        cases fl with
        | nx => obtain ⟨j, hj, z⟩ := z.out; exact ws_whl n j ρ2 S2 z (by omega) st
        | ct => obtain ⟨j, hj, z⟩ := z.out; exact ws_whl n j ρ2 S2 z (by omega) st
        | bk => exact ⟨z.out⟩
        | rt v => exact ⟨z.out⟩
theorem wp_def {nn mm : Nat} {b : C} {vs : List Val} (hl : vs.length = nn) (h : wpS (b (start mm (vs.map .pl)) S) (fun fl _ S1 => match fl with | .rt v => V v S1 | .nx => V .non S1 | _ => False) fun e _ S1 => E e S1) : wpE (defF nn mm b vs S) V E := by
  unfold defF
  rw [if_pos hl]
  cases hm : b (start mm (vs.map .pl)) S with
  | sk => rw [hm] at h; exact h.out.elim
  | er e ρ2 S2 => rw [hm] at h; exact ⟨h.out⟩
  | go fl ρ2 S2 =>
    rw [hm] at h
    cases fl with
    | nx => exact ⟨h.out⟩
    | rt v => exact ⟨h.out⟩
    | _ => exact h.out.elim
theorem wp_init {nn mm c l : Nat} {b : C} {vs : List Val} {L : List Val → Store → Prop} (hl : vs.length = nn) (h : wpS (b (startI mm c vs) S) (fun fl ρ1 S1 => match fl with | .nx => ∃ fs, ρ1[0]? = some (.ob c fs) ∧ fs.length = l ∧ L fs S1 | _ => False) fun e _ S1 => E e S1) : wpE (initF nn mm c l b vs S) L E := by
  unfold initF
  rw [if_pos hl]
  cases hm : b (startI mm c vs) S with
  | sk => rw [hm] at h; exact h.out.elim
  | er e ρ2 S2 => rw [hm] at h; exact ⟨h.out⟩
  | go fl ρ2 S2 =>
    rw [hm] at h
    cases fl with
    | nx =>
      obtain ⟨fs, e, hf, q⟩ := h.out
      dsimp only
      rw [e]; dsimp only; rw [if_pos ⟨rfl, hf⟩]; exact wp_ok q
    | _ => exact h.out.elim
theorem ws_fldI {i c k : Nat} {xs : List Val} (e : ρ[i]? = some (.ob c xs)) (hk : xs.length = k) (hn : (ρ.set i .un).all noOb = true) (h : wpE (a ρ S) (fun x S1 => D .nx (ρ.set i (.ob c (xs ++ [x]))) S1) fun e S1 => X e ρ S1) : wpS (sFldI i c k a ρ S) D X :=
  ws_stm (wp_mono h (fun _ _ q => by rw [e]; dsimp only; rw [if_pos ⟨rfl, hk, hn⟩]; exact ws_go q) fun _ _ q => q)
theorem wp_fldO {c i k : Nat} {xs : List Val} {v : Val} (e : ρ[i]? = some (.ob c xs)) (e2 : xs[k]? = some v) (h : V v S) : wpE (cFldO c i k ρ S) V E := by
  unfold cFldO; rw [e]; dsimp only; rw [if_pos rfl, e2]; exact wp_ok h
end
end KL
namespace KL
open PySem (Str PyData)
theorem xmul_r {i j : Int} (h : -(2 ^ 64) < j ∧ j < 2 ^ 64) {S S' : Store} : opMul (dr S (.int i)) (dr S' (.int j)) = some (.int (i * j)) := if_pos (.inr h)
theorem xmul_l {i j : Int} (h : -(2 ^ 64) < i ∧ i < 2 ^ 64) {S S' : Store} : opMul (dr S (.int i)) (dr S' (.int j)) = some (.int (i * j)) := if_pos (.inl h)
theorem xdiv {i j : Int} (h : 0 < j ∧ j < 1073741824) {S S' : Store} : opDiv (dr S (.int i)) (dr S' (.int j)) = some (.int (i / j)) := if_pos h
theorem xmod {i j : Int} (h : 0 < j) {S S' : Store} : opMod (dr S (.int i)) (dr S' (.int j)) = some (.int (i % j)) := if_pos h
theorem xpow {i j : Int} (h : 0 ≤ j ∧ j ≤ 1000000 ∧ i.natAbs < 2 ^ 64) {S S' : Store} : opPow (dr S (.int i)) (dr S' (.int j)) = some (.int (i ^ j.toNat)) := if_pos h
theorem dr_ref {n : Nat} {S : Store} {xs : List Val} (h : S[n]? = some (.lst xs)) : dr S (.ref n) = .lst xs := by
  show (match S[n]? with | some (.lst xs) => Val.lst xs | _ => Val.ref n) = _
  rw [h]
theorem get_same {α : Type} {S : List α} {n : Nat} {c d : α} (h : S[n]? = some c) : (S.set n d)[n]? = some d := by
  rw [List.getElem?_set_self]
  exact (List.getElem?_eq_some_iff.mp h).1
theorem xix_ref {n q : Nat} {i : Int} {S S' : Store} {xs : List Val} {v : Val} (h : S[n]? = some (.lst xs)) (h1 : ixOf xs.length i = some q) (h2 : xs[q]? = some v) : opIx (dr S (.ref n)) (dr S' (.int i)) = some v := by
  rw [dr_ref h]
  show (ixOf xs.length i).bind (fun j => xs[j]?) = some v
  rw [h1]; exact h2
theorem eqI (i j : Int) : opEq (.int i) (.int j) = some (.bl (decide (i = j))) := by
  show Option.map Val.bl (eqD (.int i) (.int j)) = _
  unfold eqD
  have h : shp (PyData.int i) = true := by simp [shp, PyData.plain, PyData.depth]
  have h2 : shp (PyData.int j) = true := by simp [shp, PyData.plain, PyData.depth]
  show Option.map Val.bl (if (shp (PyData.int i) && shp (PyData.int j)) = true then some (PyData.eqv (PyData.int i) (PyData.int j)) else none) = _
  rw [h, h2]
  rfl
theorem xeq {i j : Int} {S S' : Store} : opEq (dr S (.int i)) (dr S' (.int j)) = some (.bl (decide (i = j))) := eqI i j
theorem xne {i j : Int} {S S' : Store} : opNe (dr S (.int i)) (dr S' (.int j)) = some (.bl (!decide (i = j))) := by
  have h := eqI i j
  unfold opEq at h
  show Option.map (fun b => Val.bl (!b)) (eqD (.int i) (.int j)) = _
  cases e : eqD (.int i) (.int j) with
  | none => rw [e] at h; cases h
  | some b =>
    rw [e] at h
    cases h
    rfl
def isI (y : Val) : Prop := ∃ d : Int, y = .int d
theorem ints_of : ∀ {ys : List Val}, (∀ y, y ∈ ys → isI y) → ∃ ns : List Int, ys = ns.map Val.int
  | [], _ => ⟨[], rfl⟩
  | y :: ys, h => by
    obtain ⟨d, rfl⟩ := h y List.mem_cons_self
    obtain ⟨ns, e⟩ := ints_of (ys := ys) fun y hy => h y (List.mem_cons_of_mem _ hy)
    exact ⟨d :: ns, by rw [e]; rfl⟩
theorem isI_map {ns : List Int} : ∀ y, y ∈ ns.map Val.int → isI y := fun y h => by
  obtain ⟨d, _, e⟩ := List.mem_map.mp h
  exact ⟨d, e.symm⟩
theorem isI_rng {lo : Int} {n : Nat} : ∀ y, y ∈ rngV lo n → isI y := fun y h => by
  obtain ⟨d, _, e⟩ := List.mem_map.mp h
  exact ⟨_, e.symm⟩
end KL

set_option linter.all false
set_option maxHeartbeats 1000000
/-! KMa1: plain mathematics of links and lots. -/
namespace KM
abbrev Ln := List (Nat × Nat)
def near (ps : Ln) (a b : Nat) : Prop := (a, b) ∈ ps ∨ (b, a) ∈ ps
instance (ps : Ln) (a b : Nat) : Decidable (near ps a b) := inferInstanceAs (Decidable (_ ∨ _))
theorem near.symm {ps : Ln} {a b : Nat} (h : near ps a b) : near ps b a := Or.symm h
inductive Reach (ps : Ln) (t : Nat) : Nat → Prop where
  | refl : Reach ps t t
  | step {a b : Nat} : Reach ps t a → near ps a b → Reach ps t b
theorem Reach.trans {ps : Ln} {a b c : Nat} (h : Reach ps a b) : Reach ps b c → Reach ps a c := fun h2 => by
  induction h2 with
  | refl => exact h
  | step _ n ih => exact .step ih n
theorem Reach.symm {ps : Ln} {a b : Nat} (h : Reach ps a b) : Reach ps b a := by
  induction h with
  | refl => exact .refl
  | step _ n ih => exact (Reach.step .refl n.symm).trans ih
/-- pairs of things, ascending -/
def lexB (p q : Nat × Nat) : Prop := p.1 < q.1 ∨ (p.1 = q.1 ∧ p.2 < q.2)
instance (p q : Nat × Nat) : Decidable (lexB p q) := inferInstanceAs (Decidable (_ ∨ _))
structure Links (n : Nat) (ps : Ln) : Prop where
  ok : ∀ p, p ∈ ps → p.1 < p.2 ∧ p.2 < n
  asc : ps.Pairwise lexB
theorem Links.reach {n : Nat} {ps : Ln} (L : Links n ps) {t u : Nat} (h : t < n) (r : Reach ps t u) : u < n := by
  induction r with
  | refl => exact h
  | step _ q _ =>
    rcases q with q | q
    · exact (L.ok _ q).2
    · have := L.ok _ q; simp at this; omega
theorem Links.lt {n : Nat} {ps : Ln} (L : Links n ps) {a b : Nat} (r : near ps a b) : a < n ∧ b < n ∧ a ≠ b := by
  rcases r with q | q
  · have := L.ok _ q; simp at this; omega
  · have := L.ok _ q; simp at this; omega
theorem nodup_le : ∀ (n : Nat) (l : List Nat), l.Nodup → (∀ x, x ∈ l → x < n) → l.length ≤ n
  | 0, [], _, _ => Nat.le_refl _
  | 0, x :: l, _, h => absurd (h x List.mem_cons_self) (Nat.not_lt_zero _)
  | n + 1, l, nd, h => by
    have h2 := nodup_le n (l.erase n) (nd.erase n) fun x hx => by
      have h1 := (List.Nodup.mem_erase_iff nd).mp hx
      have := h x h1.2
      have := h1.1
      omega
    by_cases hm : n ∈ l
    · rw [List.length_erase_of_mem hm] at h2; omega
    · rw [List.erase_of_not_mem hm] at h2; omega
theorem perm_nodup {α : Type} [DecidableEq α] : ∀ (l m : List α), l.Nodup → m.Nodup → (∀ x, x ∈ l ↔ x ∈ m) → l.Perm m
  | [], m, _, _, h => by
    cases m with
    | nil => exact .refl _
    | cons y m => exact absurd ((h y).mpr List.mem_cons_self) List.not_mem_nil
  | x :: l, m, nl, nm, h => by
    have hx : x ∈ m := (h x).mp List.mem_cons_self
    rw [List.nodup_cons] at nl
    refine .trans (.cons x (perm_nodup l (m.erase x) nl.2 (nm.erase x) fun y => ?_)) (List.perm_cons_erase hx).symm
    rw [List.Nodup.mem_erase_iff nm]
    constructor
    · intro hy
      exact ⟨fun e => nl.1 (e ▸ hy), (h y).mp (List.mem_cons_of_mem _ hy)⟩
    · intro ⟨h1, h2⟩
      rcases List.mem_cons.mp ((h y).mpr h2) with e | e
      · exact absurd e h1
      · exact e
/-- the other ends -/
def nbr (here : Nat) (p : Nat × Nat) : Option Nat := if here = p.1 then some p.2 else if here = p.2 then some p.1 else none
def nbrs (ps : Ln) (here : Nat) : List Nat := ps.filterMap (nbr here)
theorem mem_nbrs {ps : Ln} {here y : Nat} (hd : ∀ p, p ∈ ps → p.1 ≠ p.2) : y ∈ nbrs ps here ↔ near ps here y := by
  unfold nbrs near
  rw [List.mem_filterMap]
  constructor
  · rintro ⟨p, hp, e⟩
    unfold nbr at e
    split at e
    · rename_i h; cases e; exact .inl (by rw [h]; exact hp)
    · split at e
      · rename_i h; cases e; exact .inr (by rw [h]; exact hp)
      · cases e
  · rintro (h | h)
    · exact ⟨_, h, by unfold nbr; rw [if_pos rfl]⟩
    · refine ⟨_, h, ?_⟩
      have := hd _ h
      unfold nbr
      rw [if_neg (by simpa using fun e => this e.symm), if_pos rfl]
structure Dfs (n : Nat) (ps : Ln) (t : Nat) (found waiting : List Nat) : Prop where
  fr : ∀ x, x ∈ found → Reach ps t x
  wr : ∀ x, x ∈ waiting → Reach ps t x
  nd : found.Nodup
  cl : ∀ x, x ∈ found → ∀ y, near ps x y → y ∈ found ∨ y ∈ waiting
  st : t ∈ found ∨ t ∈ waiting
def dfsM (n : Nat) (ps : Ln) (found waiting : List Nat) : Nat := (n - found.length) * (ps.length + 1) + waiting.length
theorem Dfs.init {n : Nat} {ps : Ln} {t : Nat} : Dfs n ps t [] [t] := ⟨fun _ h => absurd h List.not_mem_nil, fun x h => by rw [List.mem_singleton.mp h]; exact .refl, .nil, fun _ h => absurd h List.not_mem_nil, .inr List.mem_cons_self⟩
theorem Dfs.old {n : Nat} {ps : Ln} {t here : Nat} {found w : List Nat} (D : Dfs n ps t found (w ++ [here])) (h : here ∈ found) : Dfs n ps t found w where
  fr := D.fr
  wr := fun x hx => D.wr x (List.mem_append_left _ hx)
  nd := D.nd
  cl := fun x hx y hy => by
    rcases D.cl x hx y hy with z | z
    · exact .inl z
    · rcases List.mem_append.mp z with z | z
      · exact .inr z
      · rw [List.mem_singleton.mp z]; exact .inl h
  st := by
    rcases D.st with z | z
    · exact .inl z
    · rcases List.mem_append.mp z with z | z
      · exact .inr z
      · rw [List.mem_singleton.mp z]; exact .inl h
theorem Dfs.new {n : Nat} {ps : Ln} (L : Links n ps) {t here : Nat} {found w : List Nat} (D : Dfs n ps t found (w ++ [here])) (h : here ∉ found) : Dfs n ps t (found ++ [here]) (w ++ nbrs ps here) := by
  have hr := D.wr here (List.mem_append_right _ List.mem_cons_self)
  have mn : ∀ {y}, y ∈ nbrs ps here ↔ near ps here y := mem_nbrs fun p hp => by have := L.ok p hp; omega
  refine ⟨fun x hx => ?_, fun x hx => ?_, ?_, fun x hx y hy => ?_, ?_⟩
  · rcases List.mem_append.mp hx with z | z
    · exact D.fr x z
    · rw [List.mem_singleton.mp z]; exact hr
  · rcases List.mem_append.mp hx with z | z
    · exact D.wr x (List.mem_append_left _ z)
    · exact .step hr (mn.mp z)
  · rw [List.nodup_append]
    exact ⟨D.nd, by simp, fun a ha b hb e => by rw [List.mem_singleton.mp hb] at e; exact h (e ▸ ha)⟩
  · rcases List.mem_append.mp hx with z | z
    · rcases D.cl x z y hy with q | q
      · exact .inl (List.mem_append_left _ q)
      · rcases List.mem_append.mp q with q | q
        · exact .inr (List.mem_append_left _ q)
        · exact .inl (List.mem_append_right _ q)
    · rw [List.mem_singleton.mp z] at hy
      exact .inr (List.mem_append_right _ (mn.mpr hy))
  · rcases D.st with z | z
    · exact .inl (List.mem_append_left _ z)
    · rcases List.mem_append.mp z with z | z
      · exact .inr (List.mem_append_left _ z)
      · exact .inl (List.mem_append_right _ z)
theorem Dfs.len {n : Nat} {ps : Ln} (L : Links n ps) {t : Nat} (ht : t < n) {found w : List Nat} (D : Dfs n ps t found w) : found.length ≤ n := nodup_le n found D.nd fun x hx => L.reach ht (D.fr x hx)
theorem Dfs.less {n : Nat} {ps : Ln} (L : Links n ps) {t here : Nat} (ht : t < n) {found w : List Nat} (D : Dfs n ps t found (w ++ [here])) (h : here ∉ found) : dfsM n ps (found ++ [here]) (w ++ nbrs ps here) < dfsM n ps found (w ++ [here]) := by
  have h1 := (D.new L h).len L ht
  have h2 : (nbrs ps here).length ≤ ps.length := List.length_filterMap_le ..
  unfold dfsM
  simp only [List.length_append, List.length_singleton] at *
  obtain ⟨k, hk⟩ : ∃ k, n - found.length = k + 1 := ⟨n - found.length - 1, by omega⟩
  rw [show n - (found.length + 1) = k by omega, hk, Nat.succ_mul]
  omega
theorem Dfs.end {n : Nat} {ps : Ln} {t : Nat} {found : List Nat} (D : Dfs n ps t found []) (x : Nat) : x ∈ found ↔ Reach ps t x := by
  refine ⟨D.fr x, fun r => ?_⟩
  induction r with
  | refl => exact D.st.elim (fun q => q) fun q => absurd q List.not_mem_nil
  | step _ q ih => exact (D.cl _ ih _ q).elim (fun q => q) fun q => absurd q List.not_mem_nil
/-- the lot of a thing, ascending -/
noncomputable def lotL (n : Nat) (ps : Ln) (t : Nat) : List Nat := (List.range n).filter fun u => @decide (Reach ps t u) (Classical.propDecidable _)
theorem mem_lotL {n : Nat} {ps : Ln} {t u : Nat} : u ∈ lotL n ps t ↔ u < n ∧ Reach ps t u := by
  unfold lotL
  rw [List.mem_filter, List.mem_range, @decide_eq_true_eq _ (Classical.propDecidable _)]
theorem lotL_sorted {n : Nat} {ps : Ln} {t : Nat} : (lotL n ps t).Pairwise (· < ·) := List.Pairwise.filter _ List.pairwise_lt_range
theorem lt_nodup {l : List Nat} (h : l.Pairwise (· < ·)) : l.Nodup := h.imp fun h => Nat.ne_of_lt h
theorem lotL_nodup {n : Nat} {ps : Ln} {t : Nat} : (lotL n ps t).Nodup := lt_nodup lotL_sorted
theorem lt_uniq : ∀ {l m : List Nat}, l.Pairwise (· < ·) → m.Pairwise (· < ·) → (∀ x, x ∈ l ↔ x ∈ m) → l = m
  | [], [], _, _, _ => rfl
  | [], y :: m, _, _, h => absurd ((h y).mpr List.mem_cons_self) List.not_mem_nil
  | x :: l, [], _, _, h => absurd ((h x).mp List.mem_cons_self) List.not_mem_nil
  | x :: l, y :: m, hl, hm, h => by
    rw [List.pairwise_cons] at hl hm
    have e : x = y := by
      have h1 := (h x).mp List.mem_cons_self
      have h2 := (h y).mpr List.mem_cons_self
      rcases List.mem_cons.mp h1 with h1 | h1
      · exact h1
      · rcases List.mem_cons.mp h2 with h2 | h2
        · exact h2.symm
        · have := hm.1 x h1
          have := hl.1 y h2
          omega
    subst e
    rw [lt_uniq hl.2 hm.2 fun z => ?_]
    have hz := h z
    rw [List.mem_cons, List.mem_cons] at hz
    constructor
    · intro q
      rcases hz.mp (.inr q) with e | e
      · subst e; exact absurd (hl.1 z q) (Nat.lt_irrefl _)
      · exact e
    · intro q
      rcases hz.mpr (.inr q) with e | e
      · subst e; exact absurd (hm.1 z q) (Nat.lt_irrefl _)
      · exact e
theorem lotL_self {n : Nat} {ps : Ln} {t : Nat} (h : t < n) : t ∈ lotL n ps t := mem_lotL.mpr ⟨h, .refl⟩
theorem lexB.trans {p q r : Nat × Nat} (h : lexB p q) (h2 : lexB q r) : lexB p r := by unfold lexB at *; omega
theorem Links.len {n : Nat} {ps : Ln} (L : Links n ps) (h : n ≤ 9) : ps.length ≤ 81 := by
  have h1 : (ps.map fun p => 9 * p.1 + p.2).Nodup := by
    refine lt_nodup (List.pairwise_map.mpr ?_)
    refine List.Pairwise.imp_of_mem (fun {a b} ha hb hl => ?_) L.asc
    have := L.ok a ha
    have := L.ok b hb
    unfold lexB at hl
    omega
  have := nodup_le 81 _ h1 fun x hx => by
    obtain ⟨p, hp, rfl⟩ := List.mem_map.mp hx
    have := L.ok p hp
    omega
  rwa [List.length_map] at this
theorem Links.tail {n : Nat} {ps : Ln} (L : Links n ps) : Links n ps.tail := ⟨fun p hp => L.ok p (List.mem_of_mem_tail hp), L.asc.sublist (List.tail_sublist ps)⟩
/-- links so far: below (low, high) -/
structure Upto (n low high : Nat) (ps : Ln) : Prop where
  L : Links n ps
  lt : ∀ p, p ∈ ps → p.1 < low ∨ (p.1 = low ∧ p.2 < high)
theorem Upto.nil {n : Nat} : Upto n 0 0 [] := ⟨⟨fun _ h => absurd h List.not_mem_nil, .nil⟩, fun _ h => absurd h List.not_mem_nil⟩
theorem Upto.skip {n low high : Nat} {ps : Ln} (U : Upto n low high ps) : Upto n low (high + 1) ps := ⟨U.L, fun p hp => by have := U.lt p hp; omega⟩
theorem Upto.row {n low high h' : Nat} {ps : Ln} (U : Upto n low high ps) : Upto n (low + 1) h' ps := ⟨U.L, fun p hp => by have := U.lt p hp; omega⟩
theorem Upto.start {n low h h' : Nat} {ps : Ln} (U : Upto n low h ps) (e : h ≤ h') : Upto n low h' ps := ⟨U.L, fun p hp => by have := U.lt p hp; omega⟩
theorem Upto.add {n low high : Nat} {ps : Ln} (U : Upto n low high ps) (h1 : low < high) (h2 : high < n) : Upto n low (high + 1) (ps ++ [(low, high)]) := by
  refine ⟨⟨fun p hp => ?_, ?_⟩, fun p hp => ?_⟩
  · rcases List.mem_append.mp hp with h | h
    · exact U.L.ok p h
    · rw [List.mem_singleton.mp h]; exact ⟨h1, h2⟩
  · rw [List.pairwise_append]
    refine ⟨U.L.asc, List.pairwise_singleton _ _, fun a ha b hb => ?_⟩
    rw [List.mem_singleton.mp hb]
    have := U.lt a ha
    exact this
  · rcases List.mem_append.mp hp with h | h
    · have := U.lt p h; omega
    · rw [List.mem_singleton.mp h]; exact .inr ⟨rfl, Nat.lt_succ_self _⟩
end KM

set_option Elab.async false
set_option linter.all false
set_option maxRecDepth 100000
set_option maxHeartbeats 1000000
/-! KPl: data told as Lean data; == and in upon it; repr's room. -/
namespace KL
open PySem (Str PyData)
theorem big_le {a : Nat} (h : a ≤ 1000000) : a ≤ big := Nat.le_trans h (by decide)
theorem big_lt {a : Nat} (h : a ≤ 1000000) : a < big := Nat.lt_of_le_of_lt h (by decide)
mutual
/-- plain data of at most so many levels -/
def pd : Nat → Val → Bool
  | _, .non => true
  | _, .bl _ => true
  | _, .int _ => true
  | _, .str _ => true
  | k + 1, .tup xs => pdA k xs
  | k + 1, .lst xs => pdA k xs
  | _, _ => false
def pdA : Nat → List Val → Bool
  | _, [] => true
  | k, x :: xs => pd k x && pdA k xs
end
mutual
/-- == upon it -/
def veq : Val → Val → Bool
  | .non, .non => true
  | .bl a, .bl b => a == b
  | .bl a, .int j => (if a then 1 else 0) == j
  | .int i, .bl b => i == (if b then 1 else 0)
  | .int i, .int j => i == j
  | .str x, .str y => x == y
  | .lst xs, .lst ys => veqA xs ys
  | .tup xs, .tup ys => veqA xs ys
  | _, _ => false
def veqA : List Val → List Val → Bool
  | [], [] => true
  | x :: xs, y :: ys => veq x y && veqA xs ys
  | _, _ => false
end
mutual
theorem pd_toD : ∀ (k : Nat) (v : Val), pd k v = true → ∃ d, v.toD = some d ∧ d.plain = true ∧ d.depth ≤ k
  | _, .non, _ => ⟨.none, rfl, rfl, Nat.zero_le _⟩
  | _, .bl b, _ => ⟨.bool b, rfl, rfl, Nat.zero_le _⟩
  | _, .int i, _ => ⟨.int i, rfl, rfl, Nat.zero_le _⟩
  | _, .str s, _ => ⟨.str s, rfl, rfl, Nat.zero_le _⟩
  | 0, .tup xs, h => by simp [pd] at h
  | 0, .lst xs, h => by simp [pd] at h
  | k + 1, .tup xs, h => by
    obtain ⟨ds, e, p, d⟩ := pdA_toD k xs (by simpa [pd] using h)
    exact ⟨.tuple ds, by unfold Val.toD; rw [e]; rfl, by simpa [PyData.plain] using p, by simp only [PyData.depth]; omega⟩
  | k + 1, .lst xs, h => by
    obtain ⟨ds, e, p, d⟩ := pdA_toD k xs (by simpa [pd] using h)
    exact ⟨.list ds, by unfold Val.toD; rw [e]; rfl, by simpa [PyData.plain] using p, by simp only [PyData.depth]; omega⟩
  | 0, .arr _, h => by simp [pd] at h
  | k + 1, .arr _, h => by simp [pd] at h
  | 0, .dic _, h => by simp [pd] at h
  | k + 1, .dic _, h => by simp [pd] at h
  | 0, .obj _ _, h => by simp [pd] at h
  | k + 1, .obj _ _, h => by simp [pd] at h
  | 0, .ref _, h => by simp [pd] at h
  | k + 1, .ref _, h => by simp [pd] at h
  | 0, .fn _, h => by simp [pd] at h
  | k + 1, .fn _, h => by simp [pd] at h
theorem pdA_toD : ∀ (k : Nat) (xs : List Val), pdA k xs = true → ∃ ds, toDs xs = some ds ∧ PyData.plainAll ds = true ∧ PyData.depthAll ds ≤ k
  | _, [], _ => ⟨[], rfl, rfl, Nat.zero_le _⟩
  | k, x :: xs, h => by
    simp only [pdA, Bool.and_eq_true] at h
    obtain ⟨d, e, p, q⟩ := pd_toD k x h.1
    obtain ⟨ds, es, ps, qs⟩ := pdA_toD k xs h.2
    exact ⟨d :: ds, by unfold toDs; rw [e, es], by simp [PyData.plainAll, p, ps], by simp only [PyData.depthAll]; omega⟩
end
mutual
theorem veq_eqv : ∀ (k : Nat) (v w : Val) (d e : PyData), pd k v = true → pd k w = true → v.toD = some d → w.toD = some e → PyData.eqv d e = veq v w := by
  intro k v w d e hv hw ev ew
  cases v <;> cases w <;> cases k <;> simp only [pd, Bool.false_eq_true] at hv hw <;> simp only [Val.toD, Option.some.injEq] at ev ew
  case lst.lst.succ xs ys k =>
    obtain ⟨ds, e1, _, _⟩ := pdA_toD k xs hv
    obtain ⟨es, e2, _, _⟩ := pdA_toD k ys hw
    rw [e1] at ev; rw [e2] at ew
    cases ev; cases ew
    simp only [PyData.eqv, veq]
    exact veqA_eqv k xs ys ds es hv hw e1 e2
  case tup.tup.succ xs ys k =>
    obtain ⟨ds, e1, _, _⟩ := pdA_toD k xs hv
    obtain ⟨es, e2, _, _⟩ := pdA_toD k ys hw
    rw [e1] at ev; rw [e2] at ew
    cases ev; cases ew
    simp only [PyData.eqv, veq]
    exact veqA_eqv k xs ys ds es hv hw e1 e2
  all_goals first
    | (subst ev; subst ew; simp only [PyData.eqv, veq]; done)
    | (subst ev; subst ew; rfl)
    | (obtain ⟨ds, e1, _, _⟩ := pdA_toD _ _ hv
       obtain ⟨es, e2, _, _⟩ := pdA_toD _ _ hw
       rw [e1] at ev; rw [e2] at ew
       cases ev; cases ew
       simp only [PyData.eqv, veq])
    | (obtain ⟨ds, e1, _, _⟩ := pdA_toD _ _ hv
       rw [e1] at ev
       cases ev; subst ew
       simp only [PyData.eqv, veq])
    | (obtain ⟨es, e2, _, _⟩ := pdA_toD _ _ hw
       rw [e2] at ew
       cases ew; subst ev
       simp only [PyData.eqv, veq])
theorem veqA_eqv : ∀ (k : Nat) (xs ys : List Val) (ds es : List PyData), pdA k xs = true → pdA k ys = true → toDs xs = some ds → toDs ys = some es → PyData.eqvAll ds es = veqA xs ys
  | k, [], [], ds, es, _, _, e1, e2 => by cases e1; cases e2; rfl
  | k, [], y :: ys, ds, es, _, h, e1, e2 => by
    obtain ⟨fs, e, _, _⟩ := pdA_toD k (y :: ys) h
    cases e1
    cases es with
    | nil => simp only [toDs] at e2; split at e2 <;> simp at e2
    | cons e es => rfl
  | k, x :: xs, [], ds, es, h, _, e1, e2 => by
    cases e2
    cases ds with
    | nil => simp only [toDs] at e1; split at e1 <;> simp at e1
    | cons e es => rfl
  | k, x :: xs, y :: ys, ds, es, h1, h2, e1, e2 => by
    simp only [pdA, Bool.and_eq_true] at h1 h2
    obtain ⟨d, a1, _, _⟩ := pd_toD k x h1.1
    obtain ⟨dr, a2, _, _⟩ := pdA_toD k xs h1.2
    obtain ⟨e, b1, _, _⟩ := pd_toD k y h2.1
    obtain ⟨er, b2, _, _⟩ := pdA_toD k ys h2.2
    simp only [toDs, a1, a2, Option.some.injEq] at e1
    simp only [toDs, b1, b2, Option.some.injEq] at e2
    subst e1 e2
    simp only [PyData.eqvAll, veqA]
    rw [veq_eqv k x y d e h1.1 h2.1 a1 b1, veqA_eqv k xs ys dr er h1.2 h2.2 a2 b2]
end
theorem shp_mk {d : PyData} (h : d.plain = true) (h2 : d.depth ≤ 64) : shp d = true := by
  unfold shp; rw [h, Bool.true_and]; exact decide_eq_true h2
theorem eqD_pd {k : Nat} (hk : k ≤ 64) {x y : Val} (hx : pd k x = true) (hy : pd k y = true) : eqD x y = some (veq x y) := by
  obtain ⟨d, e1, p1, d1⟩ := pd_toD k x hx
  obtain ⟨e, e2, p2, d2⟩ := pd_toD k y hy
  unfold eqD
  rw [e1, e2]
  dsimp only
  rw [veq_eqv k x y d e hx hy e1 e2, if_pos]
  simp only [shp, p1, p2, Bool.true_and, Bool.and_eq_true, decide_eq_true_eq]
  omega
theorem any_pd {k : Nat} {x : Val} (hx : pd k x = true) {d : PyData} (e : x.toD = some d) : ∀ (ys : List Val) (ds : List PyData), pdA k ys = true → toDs ys = some ds → (ds.any fun z => PyData.eqv z d) = ys.any fun z => veq z x
  | [], ds, _, e1 => by cases e1; rfl
  | y :: ys, ds, h, e1 => by
    simp only [pdA, Bool.and_eq_true] at h
    obtain ⟨d1, a1, _, _⟩ := pd_toD k y h.1
    obtain ⟨dr, a2, _, _⟩ := pdA_toD k ys h.2
    simp only [toDs, a1, a2, Option.some.injEq] at e1
    subst e1
    rw [List.any_cons, List.any_cons, veq_eqv k y x d1 d h.1 hx a1 e, any_pd hx e ys dr h.2 a2]
theorem inD_tup {k : Nat} (hk : k ≤ 60) {x : Val} {ys : List Val} (hx : pd k x = true) (hy : pdA k ys = true) : inD x (.tup ys) = some (ys.any fun z => veq z x) := by
  obtain ⟨d, e1, p1, d1⟩ := pd_toD k x hx
  obtain ⟨ds, e2, p2, d2⟩ := pdA_toD k ys hy
  unfold inD
  rw [show Val.toD (.tup ys) = some (.tuple ds) by unfold Val.toD; rw [e2]; rfl, e1]
  dsimp only
  rw [any_pd hx e1 ys ds hy e2, if_pos (Bool.and_eq_true _ _ ▸ ⟨shp_mk p1 (by omega), shp_mk (by simpa only [PyData.plain] using p2) (by simp only [PyData.depth]; omega)⟩)]
theorem inD_lst {k : Nat} (hk : k ≤ 60) {x : Val} {ys : List Val} (hx : pd k x = true) (hy : pdA k ys = true) : inD x (.lst ys) = some (ys.any fun z => veq z x) := by
  obtain ⟨d, e1, p1, d1⟩ := pd_toD k x hx
  obtain ⟨ds, e2, p2, d2⟩ := pdA_toD k ys hy
  unfold inD
  rw [show Val.toD (.lst ys) = some (.list ds) by unfold Val.toD; rw [e2]; rfl, e1]
  dsimp only
  rw [any_pd hx e1 ys ds hy e2, if_pos (Bool.and_eq_true _ _ ▸ ⟨shp_mk p1 (by omega), shp_mk (by simpa only [PyData.plain] using p2) (by simp only [PyData.depth]; omega)⟩)]
/-- Lean data as values: == is = -/
structure Enc {α : Type} [DecidableEq α] (k : Nat) (f : α → Val) : Prop where
  pd : ∀ a, pd k (f a) = true
  eq : ∀ a b, veq (f a) (f b) = decide (a = b)
  dr : ∀ S a, KL.dr S (f a) = f a
  k60 : k ≤ 60
section
variable {α β : Type} [DecidableEq α] [DecidableEq β] {k : Nat} {f : α → Val} {g : β → Val}
theorem Enc.pdA (E : Enc k f) : ∀ xs : List α, KL.pdA k (xs.map f) = true
  | [] => by simp [KL.pdA]
  | x :: xs => by simp [KL.pdA, E.pd x, Enc.pdA E xs]
theorem Enc.eqA (E : Enc k f) : ∀ xs ys : List α, veqA (xs.map f) (ys.map f) = decide (xs = ys)
  | [], [] => by simp [veqA]
  | [], y :: ys => by simp [veqA]
  | x :: xs, [] => by simp [veqA]
  | x :: xs, y :: ys => by simp [veqA, E.eq x y, Enc.eqA E xs ys]
theorem enc_int : Enc 0 Val.int := ⟨fun a => by simp [KL.pd], fun a b => by simp only [veq]; by_cases h : a = b <;> simp [h], fun _ _ => rfl, by decide⟩
theorem enc_str : Enc 0 Val.str := ⟨fun a => by simp [KL.pd], fun a b => by simp only [veq]; by_cases h : a = b <;> simp [h], fun _ _ => rfl, by decide⟩
theorem Enc.tup (E : Enc k f) (h : k + 1 ≤ 60 := by decide) : Enc (k + 1) (fun xs : List α => Val.tup (xs.map f)) := ⟨fun xs => by simp only [KL.pd]; exact E.pdA xs, fun xs ys => by simp only [veq]; exact E.eqA xs ys, fun _ _ => rfl, h⟩
theorem Enc.lst (E : Enc k f) (h : k + 1 ≤ 60 := by decide) : Enc (k + 1) (fun xs : List α => Val.lst (xs.map f)) := ⟨fun xs => by simp only [KL.pd]; exact E.pdA xs, fun xs ys => by simp only [veq]; exact E.eqA xs ys, fun _ _ => rfl, h⟩
theorem Enc.opEq (E : Enc k f) (a b : α) : KL.opEq (f a) (f b) = some (.bl (decide (a = b))) := by
  have := E.k60
  unfold KL.opEq
  rw [eqD_pd (by omega) (E.pd a) (E.pd b), E.eq]; rfl
theorem Enc.opNe (E : Enc k f) (a b : α) : KL.opNe (f a) (f b) = some (.bl (!decide (a = b))) := by
  have := E.k60
  unfold KL.opNe
  rw [eqD_pd (by omega) (E.pd a) (E.pd b), E.eq]; rfl
theorem Enc.any (E : Enc k f) (a : α) : ∀ xs : List α, ((xs.map f).any fun z => veq z (f a)) = decide (a ∈ xs)
  | [] => by simp
  | x :: xs => by
    rw [List.map_cons, List.any_cons, E.eq, Enc.any E a xs, ← Bool.decide_or]
    refine decide_eq_decide.mpr ?_
    rw [List.mem_cons]
    exact or_congr ⟨Eq.symm, Eq.symm⟩ Iff.rfl
theorem Enc.opInT (E : Enc k f) (a : α) (xs : List α) : opIn (f a) (.tup (xs.map f)) = some (.bl (decide (a ∈ xs))) := by
  unfold opIn; rw [inD_tup E.k60 (E.pd a) (E.pdA xs), E.any]; rfl
theorem Enc.opInL (E : Enc k f) (a : α) (xs : List α) : opIn (f a) (.lst (xs.map f)) = some (.bl (decide (a ∈ xs))) := by
  unfold opIn; rw [inD_lst E.k60 (E.pd a) (E.pdA xs), E.any]; rfl
theorem Enc.opNotInT (E : Enc k f) (a : α) (xs : List α) : opNotIn (f a) (.tup (xs.map f)) = some (.bl (decide (a ∉ xs))) := by
  unfold opNotIn; rw [inD_tup E.k60 (E.pd a) (E.pdA xs), E.any, decide_not]; rfl
theorem Enc.opNotInL (E : Enc k f) (a : α) (xs : List α) : opNotIn (f a) (.lst (xs.map f)) = some (.bl (decide (a ∉ xs))) := by
  unfold opNotIn; rw [inD_lst E.k60 (E.pd a) (E.pdA xs), E.any, decide_not]; rfl
end
/-- things, sets of things, pairs -/
def nv (k : Nat) : Val := .int (k : Int)
def prv (p : Nat × Nat) : Val := .tup [nv p.1, nv p.2]
theorem enc_nv : Enc 0 nv := ⟨fun a => by simp [KL.pd, nv], fun a b => by simp only [nv, veq]; by_cases h : a = b <;> simp [h, Int.ofNat_inj], fun _ _ => rfl, by decide⟩
theorem enc_prv : Enc 1 prv := ⟨fun a => by simp [KL.pd, prv, nv, KL.pdA], fun a b => by
  obtain ⟨a1, a2⟩ := a
  obtain ⟨b1, b2⟩ := b
  simp only [prv, veq, veqA, enc_nv.eq, Bool.and_true, Prod.mk.injEq, Bool.decide_and], fun _ _ => rfl, by decide⟩
theorem eq_int (a b : Int) : opEq (.int a) (.int b) = some (.bl (decide (a = b))) := enc_int.opEq a b
theorem ne_int (a b : Int) : opNe (.int a) (.int b) = some (.bl (!decide (a = b))) := enc_int.opNe a b
theorem eq_str (a b : Str) : opEq (.str a) (.str b) = some (.bl (decide (a = b))) := enc_str.opEq a b
theorem ne_str (a b : Str) : opNe (.str a) (.str b) = some (.bl (!decide (a = b))) := enc_str.opNe a b
theorem eq_nvT (a b : List Nat) : opEq (.tup (a.map nv)) (.tup (b.map nv)) = some (.bl (decide (a = b))) := enc_nv.tup.opEq a b
theorem ne_nvT (a b : List Nat) : opNe (.tup (a.map nv)) (.tup (b.map nv)) = some (.bl (!decide (a = b))) := enc_nv.tup.opNe a b
theorem eq_inT (a b : List Int) : opEq (.tup (a.map .int)) (.tup (b.map .int)) = some (.bl (decide (a = b))) := enc_int.tup.opEq a b
theorem ne_inT (a b : List Int) : opNe (.tup (a.map .int)) (.tup (b.map .int)) = some (.bl (!decide (a = b))) := enc_int.tup.opNe a b
theorem eq_prT (a b : List (Nat × Nat)) : opEq (.tup (a.map prv)) (.tup (b.map prv)) = some (.bl (decide (a = b))) := enc_prv.tup.opEq a b
theorem ne_prT (a b : List (Nat × Nat)) : opNe (.tup (a.map prv)) (.tup (b.map prv)) = some (.bl (!decide (a = b))) := enc_prv.tup.opNe a b
theorem in_nvT (a : Nat) (xs : List Nat) : opIn (.int (a : Int)) (.tup (xs.map nv)) = some (.bl (decide (a ∈ xs))) := enc_nv.opInT a xs
theorem in_nvL (a : Nat) (xs : List Nat) : opIn (.int (a : Int)) (.lst (xs.map nv)) = some (.bl (decide (a ∈ xs))) := enc_nv.opInL a xs
theorem nin_nvT (a : Nat) (xs : List Nat) : opNotIn (.int (a : Int)) (.tup (xs.map nv)) = some (.bl (decide (a ∉ xs))) := enc_nv.opNotInT a xs
theorem nin_nvL (a : Nat) (xs : List Nat) : opNotIn (.int (a : Int)) (.lst (xs.map nv)) = some (.bl (decide (a ∉ xs))) := enc_nv.opNotInL a xs
theorem in_nv2 (a b c : Nat) : opIn (.int (a : Int)) (.tup [.int (b : Int), .int (c : Int)]) = some (.bl (decide (a ∈ [b, c]))) := enc_nv.opInT a [b, c]
theorem in_prT (a b : Nat) (xs : List (Nat × Nat)) : opIn (.tup [.int (a : Int), .int (b : Int)]) (.tup (xs.map prv)) = some (.bl (decide ((a, b) ∈ xs))) := (enc_prv.opInT (a, b) xs).trans (by congr)
theorem in_prL (a b : Nat) (xs : List (Nat × Nat)) : opIn (.tup [.int (a : Int), .int (b : Int)]) (.lst (xs.map prv)) = some (.bl (decide ((a, b) ∈ xs))) := (enc_prv.opInL (a, b) xs).trans (by congr)
theorem ix_t0 (a : Val) (l : List Val) : opIx (.tup (a :: l)) (.int 0) = some a := by
  show (ixOf (a :: l).length 0).bind _ = _
  unfold ixOf
  rw [if_pos (by decide), if_pos (by simp)]; rfl
theorem ix_t1 (a b : Val) (l : List Val) : opIx (.tup (a :: b :: l)) (.int 1) = some b := by
  show (ixOf (a :: b :: l).length 1).bind _ = _
  unfold ixOf
  rw [if_pos (by decide), if_pos (by simp; omega)]; rfl
theorem ixOf_nat {n k : Nat} (h : k < n) : ixOf n (k : Int) = some k := by
  unfold ixOf
  rw [if_pos (by omega), if_pos (by omega)]; rfl
theorem ixOf_m1 {n : Nat} (h : 0 < n) : ixOf n (-1) = some (n - 1) := by
  unfold ixOf
  rw [if_neg (by omega), if_pos (by omega)]
  congr 1; omega
theorem ix_tup {xs : List Val} {k : Nat} (h : k < xs.length) : opIx (.tup xs) (.int (k : Int)) = some xs[k] := by
  show (ixOf xs.length k).bind _ = _
  rw [ixOf_nat h]; simp [h]
theorem ix_lst {xs : List Val} {k : Nat} (h : k < xs.length) : opIx (.lst xs) (.int (k : Int)) = some xs[k] := by
  show (ixOf xs.length k).bind _ = _
  rw [ixOf_nat h]; simp [h]
theorem ix_arr {xs : List Val} {k : Nat} (h : k < xs.length) : opIx (.arr xs) (.int (k : Int)) = some xs[k] := by
  show (ixOf xs.length k).bind _ = _
  rw [ixOf_nat h]; simp [h]
theorem cut_map {α β : Type} (f : α → β) (xs : List α) (lo hi : Option Int) : cut (xs.map f) lo hi = (cut xs lo hi).map f := by
  unfold cut
  rw [List.length_map, List.map_take, List.map_drop]
theorem cut_init {α : Type} (xs : List α) (x : α) : cut (xs ++ [x]) none (some (-1)) = xs := by
  unfold cut sIx
  dsimp only
  rw [if_pos (by decide)]
  have e : (-1 + (((xs ++ [x]).length : Nat) : Int)).toNat = xs.length := by simp; omega
  simp only [e, Nat.sub_zero, List.drop_zero]
  exact List.take_left
theorem cut_tail {α : Type} (xs : List α) : cut xs (some 1) none = xs.tail := by
  cases xs with
  | nil => rfl
  | cons x xs =>
    unfold cut sIx
    dsimp only
    rw [if_neg (by decide)]
    have e : min (Int.toNat 1) (x :: xs).length = 1 := by simp
    rw [e]
    simp
theorem cut_len {α : Type} (xs : List α) (lo hi : Option Int) : (cut xs lo hi).length ≤ xs.length := by
  unfold cut
  rw [List.length_take, List.length_drop]; omega
theorem ix_last {xs : List Val} {x : Val} : opIx (.lst (xs ++ [x])) (.int (-1)) = some x := by
  show (ixOf (xs ++ [x]).length (-1)).bind _ = _
  rw [ixOf_m1 (by simp)]; simp
theorem ix_lastT {xs : List Val} {x : Val} : opIx (.tup (xs ++ [x])) (.int (-1)) = some x := by
  show (ixOf (xs ++ [x]).length (-1)).bind _ = _
  rw [ixOf_m1 (by simp)]; simp
theorem mul_nat {a : Nat} {j : Int} (h : a ≤ 1000000) : opMul (.int (a : Int)) (.int j) = some (.int (a * j)) := by
  unfold opMul
  dsimp only
  rw [if_pos (.inl ⟨by omega, by omega⟩)]
theorem mul_r {i j : Int} (h : -1000000000000 ≤ j ∧ j ≤ 1000000000000) : opMul (.int i) (.int j) = some (.int (i * j)) := by
  unfold opMul
  dsimp only
  rw [if_pos (.inr ⟨by omega, by omega⟩)]
theorem mul_l {i j : Int} (h : -1000000000000 ≤ i ∧ i ≤ 1000000000000) : opMul (.int i) (.int j) = some (.int (i * j)) := by
  unfold opMul
  dsimp only
  rw [if_pos (.inl ⟨by omega, by omega⟩)]
theorem pow10_11 : opPow (.int 10) (.int 11) = some (.int 100000000000) := by unfold opPow; dsimp only; rw [if_pos (by decide)]; rfl
theorem pow10_12 : opPow (.int 10) (.int 12) = some (.int 1000000000000) := by unfold opPow; dsimp only; rw [if_pos (by decide)]; rfl
theorem pow10_13 : opPow (.int 10) (.int 13) = some (.int 10000000000000) := by unfold opPow; dsimp only; rw [if_pos (by decide)]; rfl
theorem pow10_15 : opPow (.int 10) (.int 15) = some (.int 1000000000000000) := by unfold opPow; dsimp only; rw [if_pos (by decide)]; rfl
theorem pow10_18 : opPow (.int 10) (.int 18) = some (.int 1000000000000000000) := by unfold opPow; dsimp only; rw [if_pos (by decide)]; rfl
theorem pow10_19 : opPow (.int 10) (.int 19) = some (.int 10000000000000000000) := by unfold opPow; dsimp only; rw [if_pos (by decide)]; rfl
theorem pow10_20 : opPow (.int 10) (.int 20) = some (.int 100000000000000000000) := by unfold opPow; dsimp only; rw [if_pos (by decide)]; rfl
theorem pow10_21 : opPow (.int 10) (.int 21) = some (.int 1000000000000000000000) := by unfold opPow; dsimp only; rw [if_pos (by decide)]; rfl
theorem pLen_nat {n : Nat} (h : n ≤ 1000000) : pLen (.int (n : Int)) = some (.int (n : Int)) := by
  unfold pLen
  dsimp only
  rw [if_pos ⟨by omega, by omega⟩]
theorem pTru_pos {n : Nat} (h : 1 ≤ n) (h2 : n ≤ 1000000) : pTru (.int (n : Int)) = some (.bl true) := by
  unfold pTru
  dsimp only
  rw [if_pos ⟨by omega, by omega⟩]
  congr 2
  exact bne_iff_ne.mpr (by omega)
theorem add_int (i j : Int) : opAdd (.int i) (.int j) = some (.int (i + j)) := rfl
theorem add_str {a b : Str} (h : a.length + b.length ≤ 1000000) : opAdd (.str a) (.str b) = some (.str (a ++ b)) := if_pos (big_le h)
theorem add_tup {a b : List Val} (h : a.length + b.length ≤ 1000000) : opAdd (.tup a) (.tup b) = some (.tup (a ++ b)) := if_pos (big_le h)
theorem add_lst {a b : List Val} (h : a.length + b.length ≤ 1000000) : opAdd (.lst a) (.lst b) = some (.lst (a ++ b)) := if_pos (big_le h)
theorem lt_int (i j : Int) : opLt (.int i) (.int j) = some (.bl (decide (i < j))) := rfl
theorem lt_pr (a b c d : Nat) : opLt (.tup [.int (a : Int), .int (b : Int)]) (.tup [.int (c : Int), .int (d : Int)]) = some (.bl (decide (KM.lexB (a, b) (c, d)))) := by
  show some (Val.bl (HT.lexLt [(a : Int), (b : Int)] [(c : Int), (d : Int)])) = _
  rw [HT.lexLt_cons, HT.lexLt_cons, HT.lexLt_nil_nil]
  congr 2
  unfold KM.lexB
  by_cases h1 : a = c
  · subst h1
    rw [if_pos rfl]
    by_cases h2 : b = d
    · subst h2; simp
    · rw [if_neg (by omega)]
      simp
  · rw [if_neg (by omega)]
    simp [h1]
theorem sum_nat : ∀ l : List Nat, (l.map fun k : Nat => (k : Int)).sum = ((l.sum : Nat) : Int)
  | [] => rfl
  | k :: l => by rw [List.map_cons, List.sum_cons, List.sum_cons, sum_nat l]; omega
theorem bls_map : ∀ bs : List Bool, asBls (bs.map .bl) = some bs
  | [] => rfl
  | b :: bs => by
    show (asBls (bs.map Val.bl)).map (b :: ·) = _
    rw [bls_map bs]; rfl
theorem ty_non : tyOf .non = some .non := rfl
theorem ty_bl (b : Bool) : tyOf (.bl b) = some .bl := rfl
theorem ty_int (b : Int) : tyOf (.int b) = some .int := rfl
theorem ty_str (b : Str) : tyOf (.str b) = some .str := rfl
theorem ty_tup (b : List Val) : tyOf (.tup b) = some .tup := rfl
theorem ty_lst (b : List Val) : tyOf (.lst b) = some .lst := rfl
theorem ty_arr (b : List Val) : tyOf (.arr b) = some .lst := rfl
theorem ty_obj (c : Nat) (fs : List Val) : tyOf (.obj c fs) = none := rfl
theorem ty_ref (c : Nat) : tyOf (.ref c) = none := rfl
theorem cls_obj (S : Store) (c : Nat) (fs : List Val) : clsOf S (.obj c fs) = some c := rfl
theorem is_obj (S : Store) (c : Nat) (fs : List Val) : isOf S c (.obj c fs) = true := by simp [isOf]
theorem fld_obj (S : Store) (c k : Nat) (fs : List Val) : fldOf S c k (.obj c fs) = fs[k]? := by simp [fldOf]
theorem ints_nats : ∀ ks : List Nat, asInts (ks.map nv) = some (ks.map fun k : Nat => (k : Int))
  | [] => rfl
  | k :: ks => by
    show (asInts (ks.map nv)).map ((k : Int) :: ·) = _
    rw [ints_nats ks]; rfl
theorem ints_ints : ∀ ks : List Int, asInts (ks.map Val.int) = some ks
  | [] => rfl
  | k :: ks => by
    show (asInts (ks.map Val.int)).map (k :: ·) = _
    rw [ints_ints ks]; rfl
/-- an outcome told -/
theorem wp_eq {α : Type} {m : R α} {a : α} {S' : Store} {Q : α → Store → Prop} {E : Val → Store → Prop} (e : m = .ok a S') (h : Q a S') : wpE m Q E := by rw [e]; exact ⟨h⟩
theorem eq_wp {α : Type} {m : R α} {a : α} {S' : Store} (h : wpE m (fun b S2 => b = a ∧ S2 = S') fun _ _ => False) : m = .ok a S' := by
  obtain ⟨b, S2, e, rfl, rfl⟩ := wp_ex h
  exact e

/-! what a reading does, told backwards -/
structure WS (m : RS) (N : Env → Store → Prop) (Rt : Val → Env → Store → Prop) (E : Val → Env → Store → Prop) : Prop where
  out : match m with
    | .go .nx ρ S => N ρ S
    | .go (.rt v) ρ S => Rt v ρ S
    | .er e ρ S => E e ρ S
    | _ => False
section
variable {α β : Type} {Q : α → Store → Prop} {E : Val → Store → Prop} {N : Env → Store → Prop} {Rt : Val → Env → Store → Prop} {X : Val → Env → Store → Prop} {ρ : Env} {S : Store}
theorem W_ok (a : α) : wpE (.ok a S) Q E = Q a S := propext ⟨fun h => h.out, fun h => ⟨h⟩⟩
theorem W_er (e : Val) : wpE (.er e S) Q E = E e S := propext ⟨fun h => h.out, fun h => ⟨h⟩⟩
theorem WS_nx : WS (.go .nx ρ S) N Rt X = N ρ S := propext ⟨fun h => h.out, fun h => ⟨h⟩⟩
theorem WS_rt (v : Val) : WS (.go (.rt v) ρ S) N Rt X = Rt v ρ S := propext ⟨fun h => h.out, fun h => ⟨h⟩⟩
theorem WS_er (e : Val) : WS (.er e ρ S) N Rt X = X e ρ S := propext ⟨fun h => h.out, fun h => ⟨h⟩⟩
theorem R.bind_as {γ : Type} (m : R α) (f : α → Store → R β) (g : β → Store → R γ) : (m.bind f).bind g = m.bind fun a S => (f a S).bind g := by cases m <;> rfl
theorem R.bind_sm (m : R α) (f : α → Store → R β) (g : β → Store → RS) : (m.bind f).stm ρ g = m.stm ρ fun a S => (f a S).stm ρ g := by cases m <;> rfl
theorem R.stm_th (m : R α) (f : α → Store → RS) (g : Env → Store → RS) : (m.stm ρ f).then g = m.stm ρ fun a S => (f a S).then g := by cases m <;> rfl
theorem RS.then_as (m : RS) (f g : Env → Store → RS) : (m.then f).then g = m.then fun ρ S => (f ρ S).then g := by
  cases m with
  | go fl ρ S => cases fl <;> rfl
  | _ => rfl
theorem W_bind {m : R α} {f : α → Store → R β} {Q : β → Store → Prop} (h : wpE m (fun a S1 => wpE (f a S1) Q E) E) : wpE (m.bind f) Q E := wp_bind h
theorem W_stm {m : R α} {f : α → Store → RS} (h : wpE m (fun a S1 => WS (f a S1) N Rt X) fun e S1 => X e ρ S1) : WS (m.stm ρ f) N Rt X := by
  cases m with
  | ok a S => exact h.out
  | er e S => exact ⟨h.out⟩
  | sk => exact h.out.elim
theorem WS_then {m : RS} {f : Env → Store → RS} (h : WS m (fun ρ1 S1 => WS (f ρ1 S1) N Rt X) Rt X) : WS (m.then f) N Rt X := by
  cases m with
  | go fl ρ S =>
    cases fl with
    | nx => exact h.out
    | rt v => exact ⟨h.out⟩
    | _ => exact h.out.elim
  | er e ρ S => exact ⟨h.out⟩
  | sk => exact h.out.elim
theorem WS_mono {m : RS} {N' : Env → Store → Prop} {Rt' : Val → Env → Store → Prop} {X' : Val → Env → Store → Prop} (h : WS m N' Rt' X') (n : ∀ ρ S, N' ρ S → N ρ S) (r : ∀ v ρ S, Rt' v ρ S → Rt v ρ S) (x : ∀ e ρ S, X' e ρ S → X e ρ S) : WS m N Rt X := by
  cases m with
  | go fl ρ S =>
    cases fl with
    | nx => exact ⟨n _ _ h.out⟩
    | rt v => exact ⟨r _ _ _ h.out⟩
    | _ => exact h.out.elim
  | er e ρ S => exact ⟨x _ _ _ h.out⟩
  | sk => exact h.out.elim
theorem W_ne {m : R α} (h : wpE m Q fun _ _ => False) : wpE m.ne Q E := wp_ne h
theorem W_def {V : Val → Store → Prop} {nn mm : Nat} {b : C} {vs : List Val} (hl : vs.length = nn) (h : WS (b (start mm (vs.map .pl)) S) (fun _ S1 => V .non S1) (fun v _ S1 => V v S1) fun e _ S1 => E e S1) : wpE (defF nn mm b vs S) V E := by
  unfold defF
  rw [if_pos hl]
  cases hm : b (start mm (vs.map .pl)) S with
  | sk => rw [hm] at h; exact h.out.elim
  | er e ρ2 S2 => rw [hm] at h; exact ⟨h.out⟩
  | go fl ρ2 S2 =>
    rw [hm] at h
    cases fl with
    | nx => exact ⟨h.out⟩
    | rt v => exact ⟨h.out⟩
    | _ => exact h.out.elim
theorem W_init {nn mm c l : Nat} {b : C} {vs : List Val} {L : List Val → Store → Prop} (hl : vs.length = nn) (h : WS (b (startI mm c vs) S) (fun ρ1 S1 => ∃ fs, ρ1[0]? = some (.ob c fs) ∧ fs.length = l ∧ L fs S1) (fun _ _ _ => False) fun e _ S1 => E e S1) : wpE (initF nn mm c l b vs S) L E := by
  unfold initF
  rw [if_pos hl]
  cases hm : b (startI mm c vs) S with
  | sk => rw [hm] at h; exact h.out.elim
  | er e ρ2 S2 => rw [hm] at h; exact ⟨h.out⟩
  | go fl ρ2 S2 =>
    rw [hm] at h
    cases fl with
    | nx =>
      obtain ⟨fs, e, hf, q⟩ := h.out
      dsimp only
      rw [e]; dsimp only; rw [if_pos ⟨rfl, hf⟩]; exact wp_ok q
    | _ => exact h.out.elim
theorem WS_ite {c : Prop} [Decidable c] {a b : RS} : WS (if c then a else b) N Rt X = if c then WS a N Rt X else WS b N Rt X := by by_cases h : c <;> simp [h]
/-- one statement, the others wait -/
theorem WS_step {a b : C} (h : ∀ N' : Env → Store → Prop, (∀ ρ S, WS (b ρ S) N Rt X → N' ρ S) → WS (a ρ S) N' Rt X) : WS (sSeq a b ρ S) N Rt X := WS_then (h _ fun _ _ h => h)
variable {g : Val → C} {m : C}
/-- for, by an invariant of the turns -/
theorem WS_forK {P : Nat → Env → Store → Prop} : ∀ (xs : List Val) (k : Nat) (ρ : Env) (S : Store), P k ρ S →
    (∀ (i : Nat) (x : Val) (ρ : Env) (S : Store), xs[i]? = some x → P (k + i) ρ S → WS ((g x ρ S).nxo.then fun ρ1 S1 => m ρ1 S1) (fun ρ2 S2 => P (k + i + 1) ρ2 S2) Rt X) →
    (∀ ρ S, P (k + xs.length) ρ S → N ρ S) → WS (forG g m xs ρ S) N Rt X
  | [], k, ρ, S, h, _, q => ⟨q ρ S h⟩
  | x :: xs, k, ρ, S, h, st, q => by
    have w := st 0 x ρ S rfl h
    have next : ∀ (ρ2 : Env) (S2 : Store), P (k + 0 + 1) ρ2 S2 → WS (forG g m xs ρ2 S2) N Rt X := fun ρ2 S2 h2 =>
      WS_forK xs (k + 1) ρ2 S2 h2 (fun i x ρ S hx hp => by
        have w := st (i + 1) x ρ S hx (by rw [show k + (i + 1) = k + 1 + i by omega]; exact hp)
        rw [show k + (i + 1) + 1 = k + 1 + i + 1 by omega] at w
        exact w) fun ρ S hp => q ρ S (by rw [show k + (x :: xs).length = k + 1 + xs.length by simp; omega]; exact hp)
    unfold forG
    generalize g x ρ S = r at w
    cases r with
    | sk => exact w.out.elim
    | er e ρ1 S1 => exact ⟨w.out⟩
    | go fl ρ1 S1 =>
      cases fl with
      | nx =>
        simp only [RS.nxo, RS.then_nx] at w ⊢
        cases hm : m ρ1 S1 with
        | sk => rw [hm] at w; exact w.out.elim
        | er e ρ2 S2 => rw [hm] at w; exact ⟨w.out⟩
        | go fl ρ2 S2 =>
          rw [hm] at w
          cases fl with
          | nx => exact next _ _ w.out
          | rt v => exact ⟨w.out⟩
          | _ => exact w.out.elim
      | _ => exact w.out.elim
theorem WS_for (P : Nat → Env → Store → Prop) {xs : List Val} (h0 : P 0 ρ S) (st : ∀ (i : Nat) (x : Val) (ρ : Env) (S : Store), xs[i]? = some x → P i ρ S → WS ((g x ρ S).nxo.then fun ρ1 S1 => m ρ1 S1) (fun ρ2 S2 => P (i + 1) ρ2 S2) Rt X)
    (k : ∀ ρ S, P xs.length ρ S → N ρ S) : WS (forG g m xs ρ S) N Rt X := WS_forK (P := P) xs 0 ρ S h0 (fun i x ρ S hx hp => by rw [Nat.zero_add] at hp ⊢; exact st i x ρ S hx hp) fun ρ S h => k ρ S (by rw [Nat.zero_add] at h; exact h)
/-- while, by an invariant and a bound that falls -/
theorem WS_whl {t : T} (P : Nat → Env → Store → Prop) : ∀ {n : Nat} (k : Nat) {ρ : Env} {S : Store}, P k ρ S → k < n →
    (∀ (k : Nat) (ρ : Env) (S : Store), P k ρ S → wpE (t ρ S) (fun b S1 => if b then WS (m ρ S1) (fun ρ2 S2 => ∃ j, j < k ∧ P j ρ2 S2) Rt X else N ρ S1) fun e S1 => X e ρ S1) →
    WS (whlL t m n ρ S) N Rt X
  | 0, _, _, _, _, h, _ => absurd h (Nat.not_lt_zero _)
  | n + 1, k, ρ, S, h, hk, st => by
    have w := st k ρ S h
    unfold whlL
    cases ht : t ρ S with
    | sk => rw [ht] at w; exact w.out.elim
    | er e S1 => rw [ht] at w; exact ⟨w.out⟩
    | ok b S1 =>
      rw [ht] at w
      cases b with
      | false => exact ⟨w.out⟩
      | true =>
        have w : WS (m ρ S1) (fun ρ2 S2 => ∃ j, j < k ∧ P j ρ2 S2) Rt X := w.out
        simp only [R.stm_ok, if_true]
        cases hm : m ρ S1 with
        | sk => rw [hm] at w; exact w.out.elim
        | er e ρ2 S2 => rw [hm] at w; exact ⟨w.out⟩
        | go fl ρ2 S2 =>
          rw [hm] at w
          cases fl with
          | nx => obtain ⟨j, hj, z⟩ := w.out; exact WS_whl P j z (by omega) st
          | rt v => exact ⟨w.out⟩
          | _ => exact w.out.elim
variable {tg : Tg} {t : T} {e : KL.E Val}
/-- a comprehension, by an invariant of what was made -/
theorem W_lc {L : List Val → Store → Prop} (P : Nat → List Val → Store → Prop) {xs : List Val} (h0 : P 0 [] S) (hl : xs.length ≤ big)
    (st : ∀ (i : Nat) (x : Val) (S : Store) (acc : List Val), xs[i]? = some x → P i acc S → ∃ ρ1, tg x ρ = some ρ1 ∧ wpE (t ρ1 S) (fun b S1 => if b then wpE (e ρ1 S1) (fun y S2 => P (i + 1) (acc ++ [y]) S2) (fun _ _ => False) else P (i + 1) acc S1) fun _ _ => False)
    (k : ∀ ys S, P xs.length ys S → L ys S) : wpE (lcG tg t e ρ xs S []) L E := by
  refine wp_lcG (P := P) xs 0 S [] h0 (by simpa using hl) (fun i x S acc hx hp => ?_) fun ys S h => k ys S (by rw [Nat.zero_add] at h; exact h)
  rw [Nat.zero_add] at hp ⊢
  obtain ⟨ρ1, e1, w⟩ := st i x S acc hx hp
  refine ⟨ρ1, e1, wp_mono w (fun b S1 h => ?_) fun _ _ h => h⟩
  cases b with
  | true => exact ⟨fun _ => h, fun h => by cases h⟩
  | false => exact ⟨(fun h => by cases h), fun _ => h⟩
end
section
variable {g : Val → C} {m : C} {tg : Tg} {t : T} {e : KL.E Val}
/-- a pure comprehension -/
theorem lc_pure {α : Type} {f h : α → Val} {p : α → Bool} {ρ : Env} {S : Store} : ∀ (ys : List α) (acc : List Val), acc.length + ys.length ≤ big →
    (∀ a, a ∈ ys → ∃ ρ1, tg (f a) ρ = some ρ1 ∧ t ρ1 S = .ok (p a) S ∧ (p a = true → e ρ1 S = .ok (h a) S)) → lcG tg t e ρ (ys.map f) S acc = .ok (acc ++ (ys.filter p).map h) S
  | [], acc, _, _ => by simp [lcG]
  | a :: ys, acc, hl, st => by
    obtain ⟨ρ1, e1, e2, h1⟩ := st a List.mem_cons_self
    have hl' : acc.length + (ys.length + 1) ≤ big := hl
    rw [List.map_cons]
    unfold lcG
    rw [e1]
    dsimp only
    rw [e2]
    cases hp : p a with
    | true =>
      simp only [R.ne, R.bind_ok, if_true, h1 hp]
      rw [if_pos (by omega), lc_pure ys (acc ++ [h a]) (by simp; omega) fun b hb => st b (List.mem_cons_of_mem _ hb), List.filter_cons_of_pos hp, List.map_cons, List.append_assoc]
      rfl
    | false =>
      simp only [R.ne, R.bind_ok, Bool.false_eq_true, if_false]
      rw [lc_pure ys acc (by omega) fun b hb => st b (List.mem_cons_of_mem _ hb), List.filter_cons_of_neg (by rw [hp]; exact Bool.false_ne_true)]
/-- .. of all items -/
theorem lc_all {α : Type} {f h : α → Val} {ρ : Env} {S : Store} (ys : List α) (hl : ys.length ≤ big) (st : ∀ a, a ∈ ys → ∃ ρ1, tg (f a) ρ = some ρ1 ∧ e ρ1 S = .ok (h a) S) : lcG tg cYes e ρ (ys.map f) S [] = .ok (ys.map h) S := by
  rw [lc_pure (p := fun _ => true) ys [] (by simpa using hl) fun a ha => by
    obtain ⟨ρ1, e1, e2⟩ := st a ha
    exact ⟨ρ1, e1, rfl, fun _ => e2⟩, List.nil_append, List.filter_eq_self.mpr fun _ _ => rfl]
theorem W_lcA {α : Type} {f : α → Val} {ρ : Env} {S : Store} {L : List Val → Store → Prop} {E : Val → Store → Prop} (h : α → Val) {ys : List α} (hl : ys.length ≤ big) (st : ∀ a, a ∈ ys → ∃ ρ1, tg (f a) ρ = some ρ1 ∧ e ρ1 S = .ok (h a) S) (k : L (ys.map h) S) : wpE (lcG tg cYes e ρ (ys.map f) S []) L E := wp_eq (lc_all ys hl st) k
theorem W_lcF {α : Type} {f : α → Val} {ρ : Env} {S : Store} {L : List Val → Store → Prop} {E : Val → Store → Prop} (p : α → Bool) (h : α → Val) {ys : List α} (hl : ys.length ≤ big) (st : ∀ a, a ∈ ys → ∃ ρ1, tg (f a) ρ = some ρ1 ∧ t ρ1 S = .ok (p a) S ∧ (p a = true → e ρ1 S = .ok (h a) S)) (k : L ((ys.filter p).map h) S) : wpE (lcG tg t e ρ (ys.map f) S []) L E := wp_eq (lc_pure ys [] (by simpa using hl) st) k
end
theorem rng_nv (n : Nat) : rngV 0 n = (List.range n).map nv := by
  unfold rngV nv
  simp
theorem enum_rng0 (f : Nat → Val) (n : Nat) : enumV 0 ((List.range n).map f) = (List.range n).map fun t => .tup [nv t, f t] := by
  have : ∀ (n lo : Nat), enumV lo ((List.range' lo n).map f) = (List.range' lo n).map fun t => .tup [nv t, f t] := by
    intro n
    induction n with
    | zero => intro lo; rfl
    | succ n ih =>
      intro lo
      rw [List.range'_succ, List.map_cons, List.map_cons]
      unfold enumV
      rw [ih (lo + 1)]
      rfl
  rw [List.range_eq_range', this]
/-- range's items, where it is not too long -/
def rgO (x : Val) (S : Store) : R (List Val) := match x with
  | .int j => if -(2 ^ 62) ≤ j ∧ j < 2 ^ 62 then .ok (rngV 0 j.toNat) S else .sk
  | _ => .sk
def rgO2 (x y : Val) (S : Store) : R (List Val) := match x, y with
  | .int i, .int j => if -(2 ^ 62) ≤ i ∧ i < 2 ^ 62 ∧ -(2 ^ 62) ≤ j ∧ j < 2 ^ 62 then .ok (rngV i (j - i).toNat) S else .sk
  | _, _ => .sk
theorem iRa_eq (a : KL.E Val) (ρ : Env) (S : Store) : iRa a ρ S = (a ρ S).bind rgO := rfl
theorem iRb_eq (a b : KL.E Val) (ρ : Env) (S : Store) : iRb a b ρ S = (a ρ S).bind fun x S1 => (b ρ S1).bind (rgO2 x) := rfl
theorem rgO_int {j : Int} {S : Store} (h : -1000000 ≤ j ∧ j ≤ 1000000) : rgO (.int j) S = .ok (rngV 0 j.toNat) S := if_pos ⟨by omega, by omega⟩
theorem rgO_nat {n : Nat} {S : Store} (h : n ≤ 1000000) : rgO (.int (n : Int)) S = .ok ((List.range n).map nv) S := by
  rw [rgO_int (by omega), Int.toNat_natCast, rng_nv]
theorem rng2_nv (lo n : Nat) : rngV (lo : Int) n = (List.range' lo n).map nv := by
  unfold rngV nv
  rw [List.range'_eq_map_range, List.map_map]
  refine List.map_congr_left fun k _ => ?_
  simp
theorem rgO2_nat {lo hi : Nat} {S : Store} (h1 : lo ≤ 1000000) (h2 : hi ≤ 1000000) : rgO2 (.int (lo : Int)) (.int (hi : Int)) S = .ok ((List.range' lo (hi - lo)).map nv) S := by
  unfold rgO2
  dsimp only
  rw [if_pos ⟨by omega, by omega, by omega, by omega⟩, show ((hi : Int) - lo).toNat = hi - lo by omega, rng2_nv]
def lgO (x : Val) (S : Store) : R Val := match x with
  | .int n => if -(2 ^ 62) ≤ n ∧ n ≤ big then .ok (.lst (rngV 0 n.toNat)) S else .sk
  | _ => .sk
def tgO (x : Val) (S : Store) : R Val := match x with
  | .int n => if -(2 ^ 62) ≤ n ∧ n ≤ big then .ok (.tup (rngV 0 n.toNat)) S else .sk
  | _ => .sk
theorem cLstRg_eq (a : KL.E Val) (ρ : Env) (S : Store) : cLstRg a ρ S = (a ρ S).bind lgO := rfl
theorem cTupRg_eq (a : KL.E Val) (ρ : Env) (S : Store) : cTupRg a ρ S = (a ρ S).bind tgO := rfl
theorem lgO_nat {n : Nat} {S : Store} (h : n ≤ 1000000) : lgO (.int (n : Int)) S = .ok (.lst ((List.range n).map nv)) S := by
  unfold lgO
  dsimp only
  rw [if_pos ⟨by omega, by show (n : Int) ≤ ((16777216 : Nat) : Int); omega⟩, Int.toNat_natCast, rng_nv]
theorem tgO_nat {n : Nat} {S : Store} (h : n ≤ 1000000) : tgO (.int (n : Int)) S = .ok (.tup ((List.range n).map nv)) S := by
  unfold tgO
  dsimp only
  rw [if_pos ⟨by omega, by show (n : Int) ≤ ((16777216 : Nat) : Int); omega⟩, Int.toNat_natCast, rng_nv]
theorem enum_map {α : Type} (f : α → Val) : ∀ (xs : List α) (k : Nat), enumV k (xs.map f) = (xs.zipIdx k).map fun p => .tup [nv p.2, f p.1]
  | [], _ => rfl
  | x :: xs, k => by
    rw [List.map_cons, List.zipIdx_cons, List.map_cons]
    unfold enumV
    rw [enum_map f xs (k + 1)]
    rfl
theorem rng_get {lo : Int} {n i : Nat} {x : Val} (h : (rngV lo n)[i]? = some x) : i < n ∧ x = .int (lo + (i : Nat)) := by
  unfold rngV at h
  rw [List.getElem?_map] at h
  cases e : (List.range n)[i]? with
  | none => rw [e] at h; cases h
  | some j =>
    rw [e] at h
    cases h
    obtain ⟨h1, h2⟩ := List.getElem?_eq_some_iff.mp e
    rw [List.getElem_range] at h2
    subst h2
    exact ⟨by simpa using h1, rfl⟩
theorem rng_len {lo : Int} {n : Nat} : (rngV lo n).length = n := by simp [rngV]
theorem rangeV_get {n i : Nat} {x : Val} (h : ((List.range n).map nv)[i]? = some x) : i < n ∧ x = nv i := by
  rw [← rng_nv] at h
  obtain ⟨h1, rfl⟩ := rng_get h
  exact ⟨h1, by rw [Int.zero_add]; rfl⟩
theorem range2V_get {lo n i : Nat} {x : Val} (h : ((List.range' lo n).map nv)[i]? = some x) : i < n ∧ x = nv (lo + i) := by
  rw [← rng2_nv] at h
  obtain ⟨h1, rfl⟩ := rng_get h
  exact ⟨h1, by rw [← Int.natCast_add]; rfl⟩
theorem enum_get {xs : List Val} {k i : Nat} {x : Val} (h : (enumV k xs)[i]? = some x) : ∃ y, xs[i]? = some y ∧ x = .tup [.int ((k + i : Nat) : Int), y] := by
  induction xs generalizing k i with
  | nil => simp [enumV] at h
  | cons y ys ih =>
    cases i with
    | zero => simp [enumV] at h; exact ⟨y, rfl, by rw [← h]; rfl⟩
    | succ i =>
      simp only [enumV, List.getElem?_cons_succ] at h
      obtain ⟨z, h1, h2⟩ := ih h
      exact ⟨z, by simpa using h1, by rw [h2]; congr 3; omega⟩
theorem enum_len {xs : List Val} {k : Nat} : (enumV k xs).length = xs.length := by
  induction xs generalizing k with
  | nil => rfl
  | cons y ys ih => simp [enumV, ih]
end KL

set_option Elab.async false
set_option linter.all false
set_option maxRecDepth 100000
set_option maxHeartbeats 1000000
/-! KRep: repr of data ends with a text; what is asked for that. -/
namespace KL
open PySem (Str PyData)
mutual
/-- data of at most so many levels that repr tells: no giant numbers, texts of signs -/
def rok : Nat → Val → Bool
  | _, .non => true
  | _, .bl _ => true
  | _, .int i => decide (i.natAbs < 10 ^ 30)
  | _, .str x => x.cps.toList.all fun c => decide (c < 16 ^ 8)
  | k + 1, .tup xs => rokA k xs
  | k + 1, .lst xs => rokA k xs
  | _ + 1, .dic xs => xs.isEmpty
  | _, _ => false
def rokA : Nat → List Val → Bool
  | _, [] => true
  | k, x :: xs => rok k x && rokA k xs
end
mutual
def wt : Val → Nat
  | .int _ => 100
  | .str x => x.length
  | .tup xs => wtA xs
  | .lst xs => wtA xs
  | _ => 0
def wtA : List Val → Nat
  | [] => 0
  | x :: xs => wt x + 1 + wtA xs
end
theorem int_rok {i : Int} (h : i.natAbs < 10 ^ 30) : (PyData.shown (.int i)).length ≤ 31 ∧ i.natAbs.log2 < 100 := by
  refine ⟨?_, ?_⟩
  · show (Str.ofString (toString i)).length ≤ 31
    rw [PySem.ofString_length]
    exact PySem.int_text_length_le10 (k := 30) (by decide) h
  · by_cases h0 : i.natAbs = 0
    · rw [h0]; decide
    · exact (Nat.log2_lt h0).mpr (Nat.lt_trans h (by decide))
mutual
theorem rok_toD : ∀ (k : Nat) (v : Val), rok k v = true → ∃ d, v.toD = some d ∧ d.leavesShort 31 = true ∧ d.showable = true ∧ True ∧ d.depth ≤ k ∧ d.weight ≤ wt v
  | _, .non, _ => ⟨.none, rfl, rfl, rfl, trivial, Nat.zero_le _, Nat.zero_le _⟩
  | _, .bl b, _ => ⟨.bool b, rfl, rfl, rfl, trivial, Nat.zero_le _, Nat.zero_le _⟩
  | k, .int i, h => by
    have h1 := int_rok (i := i) (by cases k <;> simpa [rok] using h)
    refine ⟨.int i, rfl, by simp only [PyData.leavesShort, decide_eq_true_eq]; exact h1.1, by simp only [PyData.showable, decide_eq_true_eq]; omega, trivial, Nat.zero_le _, ?_⟩
    simp only [PyData.weight, wt]
    split <;> omega
  | k, .str x, h => ⟨.str x, rfl, by cases k <;> simpa [rok, PyData.leavesShort] using h, rfl, trivial, Nat.zero_le _, Nat.le_refl _⟩
  | 0, .tup xs, h => by simp [rok] at h
  | 0, .lst xs, h => by simp [rok] at h
  | k + 1, .tup xs, h => by
    obtain ⟨ds, e, h1, h2, h3, h4, h5⟩ := rokA_toD k xs (by simpa [rok] using h)
    exact ⟨.tuple ds, by unfold Val.toD; rw [e]; rfl, by simpa [PyData.leavesShort] using h1, by simpa [PyData.showable] using h2, trivial, by simp only [PyData.depth]; omega, by simpa only [PyData.weight, wt] using h5⟩
  | k + 1, .lst xs, h => by
    obtain ⟨ds, e, h1, h2, h3, h4, h5⟩ := rokA_toD k xs (by simpa [rok] using h)
    exact ⟨.list ds, by unfold Val.toD; rw [e]; rfl, by simpa [PyData.leavesShort] using h1, by simpa [PyData.showable] using h2, trivial, by simp only [PyData.depth]; omega, by simpa only [PyData.weight, wt] using h5⟩
  | 0, .arr _, h => by simp [rok] at h
  | k + 1, .arr _, h => by simp [rok] at h
  | 0, .dic _, h => by simp [rok] at h
  | k + 1, .dic xs, h => by
    have e : xs = [] := List.isEmpty_iff.mp (by simpa [rok] using h)
    subst e
    exact ⟨.dict [], by rfl, by rfl, by rfl, trivial, by simp [PyData.depth, PyData.depthKv], by simp [PyData.weight, PyData.weightKv, wt]⟩
  | 0, .obj _ _, h => by simp [rok] at h
  | k + 1, .obj _ _, h => by simp [rok] at h
  | 0, .ref _, h => by simp [rok] at h
  | k + 1, .ref _, h => by simp [rok] at h
  | 0, .fn _, h => by simp [rok] at h
  | k + 1, .fn _, h => by simp [rok] at h
theorem rokA_toD : ∀ (k : Nat) (xs : List Val), rokA k xs = true → ∃ ds, toDs xs = some ds ∧ PyData.leavesShortAll 31 ds = true ∧ PyData.showableAll ds = true ∧ True ∧ PyData.depthAll ds ≤ k ∧ PyData.weightAll ds ≤ wtA xs
  | _, [], _ => ⟨[], rfl, rfl, rfl, trivial, Nat.zero_le _, Nat.zero_le _⟩
  | k, x :: xs, h => by
    simp only [rokA, Bool.and_eq_true] at h
    obtain ⟨d, e, a1, a2, a3, a4, a5⟩ := rok_toD k x h.1
    obtain ⟨ds, es, b1, b2, b3, b4, b5⟩ := rokA_toD k xs h.2
    exact ⟨d :: ds, by unfold toDs; rw [e, es], by simp [PyData.leavesShortAll, a1, b1], by simp [PyData.showableAll, a2, b2], trivial, by simp only [PyData.depthAll]; omega, by simp only [PyData.weightAll, wtA]; omega⟩
end
theorem repr_ok {v : Val} (h : rok 30 v = true) (hw : wt v ≤ 400000) : ∃ s, bRepr [v] = some (.str s) := by
  obtain ⟨d, e, a1, a2, a3, a4, a5⟩ := rok_toD 30 v h
  have h1 := PyData.shown_le 31 (by decide) d a1
  have h2 : (31 + 2) * d.weight ≤ 33 * 400000 := Nat.mul_le_mul (by decide) (by omega)
  refine ⟨d.shown, ?_⟩
  unfold bRepr
  dsimp only
  rw [e]
  dsimp only
  rw [if_pos]
  simp only [a2, Bool.true_and, Bool.and_eq_true, decide_eq_true_eq]
  exact ⟨by omega, by show _ ≤ 16777216; omega⟩
theorem rokA_map {α : Type} {k : Nat} {f : α → Val} : ∀ {xs : List α}, (∀ a, a ∈ xs → rok k (f a) = true) → rokA k (xs.map f) = true
  | [], _ => by simp [rokA]
  | x :: xs, h => by
    simp only [List.map_cons, rokA, Bool.and_eq_true]
    exact ⟨h x List.mem_cons_self, rokA_map fun a ha => h a (List.mem_cons_of_mem _ ha)⟩
theorem rok_int {k : Nat} {i : Int} (h : -1000000000000000000000000 ≤ i ∧ i ≤ 1000000000000000000000000) : rok k (.int i) = true := by
  have : i.natAbs < 10 ^ 30 := by omega
  cases k <;> simp [rok, this]
theorem rok_nv {k n : Nat} (h : n ≤ 1000000) : rok k (nv n) = true := rok_int ⟨by omega, by omega⟩
theorem rok_nat {k n : Nat} (h : n ≤ 1000000) : rok k (.int (n : Int)) = true := rok_nv h
theorem rok_pr {k : Nat} {p : Nat × Nat} (h : p.1 ≤ 1000000 ∧ p.2 ≤ 1000000) : rok (k + 1) (prv p) = true := by
  show rokA k [nv p.1, nv p.2] = true
  simp [rokA, rok_nv h.1, rok_nv h.2]
theorem wtA_map {α : Type} {f : α → Val} {b : Nat} : ∀ {xs : List α}, (∀ a, a ∈ xs → wt (f a) ≤ b) → wtA (xs.map f) ≤ xs.length * (b + 1)
  | [], _ => Nat.zero_le _
  | x :: xs, h => by
    have h1 := h x List.mem_cons_self
    have h2 := wtA_map (f := f) (b := b) (xs := xs) fun a ha => h a (List.mem_cons_of_mem _ ha)
    rw [List.map_cons, List.length_cons, Nat.succ_mul]
    simp only [wtA]
    omega
theorem log_nat {n : Nat} (h : n ≤ 1000000) : ((n : Int)).natAbs.log2 < 1920 := by
  rw [Int.natAbs_natCast]
  by_cases h0 : n = 0
  · rw [h0]; decide
  · exact (Nat.log2_lt h0).mpr (Nat.lt_of_le_of_lt h (by decide))
theorem str_emp (s : Str) : Str.empty ++ s = s := by
  obtain ⟨a⟩ := s
  show Str.mk (#[] ++ a) = _
  rw [Array.empty_append]
theorem txt_nat {n : Nat} (h : n < 1000000) : (Str.ofString (toString (n : Int))).length ≤ 7 := by
  rw [PySem.ofString_length]
  exact PySem.int_text_length_le10 (k := 6) (by decide) (by rw [Int.natAbs_natCast]; omega)
/-- a text of real signs -/
def okS (x : Str) : Prop := ∀ c, c ∈ x.cps.toList → c < 16 ^ 8
theorem ok_of (s : String) : okS (Str.ofString s) := fun c h => by
  rw [PySem.Str.ofString_eq_toList] at h
  obtain ⟨d, _, rfl⟩ := List.mem_map.mp (by simpa using h)
  exact Nat.lt_of_lt_of_le (d.val.toNat_lt_size) (by decide)
theorem ok_app {x y : Str} (hx : okS x) (hy : okS y) : okS (x ++ y) := fun c h => by
  have e : (x ++ y).cps.toList = x.cps.toList ++ y.cps.toList := by
    show (x.cps ++ y.cps).toList = _
    rw [Array.toList_append]
  rw [e] at h
  exact (List.mem_append.mp h).elim (hx c) (hy c)
theorem rok_str {k : Nat} {x : Str} (h : okS x) : rok k (.str x) = true := by
  cases k <;> (simp only [rok, List.all_eq_true, decide_eq_true_eq]; exact h)
theorem rok_bl {k : Nat} (b : Bool) : rok k (.bl b) = true := by cases k <;> rfl
theorem rok_non {k : Nat} : rok k .non = true := by cases k <;> rfl
theorem rok_ints {k : Nat} {ws : List Int} (h : ∀ w, w ∈ ws → -1000000000000000000000000 ≤ w ∧ w ≤ 1000000000000000000000000) : rok (k + 1) (.tup (ws.map .int)) = true := by
  simp only [rok]; exact rokA_map fun a ha => rok_int (h a ha)
theorem rok_prs {k : Nat} {ps : KM.Ln} (h : ∀ p, p ∈ ps → p.1 ≤ 1000000 ∧ p.2 ≤ 1000000) : rok (k + 2) (.tup (ps.map prv)) = true := by
  simp only [rok]; exact rokA_map fun a ha => rok_pr (h a ha)
theorem rok_nvs {k : Nat} {ps : List Nat} (h : ∀ p, p ∈ ps → p ≤ 1000000) : rok (k + 1) (.tup (ps.map nv)) = true := by
  simp only [rok]; exact rokA_map fun a ha => rok_nv (h a ha)
theorem wt_ints (ws : List Int) : wt (.tup (ws.map .int)) ≤ ws.length * 101 := wtA_map fun _ _ => Nat.le_refl _
theorem wt_prs (ps : KM.Ln) : wt (.tup (ps.map prv)) ≤ ps.length * 203 := wtA_map fun _ _ => Nat.le_refl _
theorem wt_nvs (ps : List Nat) : wt (.tup (ps.map nv)) ≤ ps.length * 101 := wtA_map fun _ _ => Nat.le_refl _
theorem wt_pr (p : Nat × Nat) : wt (prv p) = 202 := rfl
/-! lines of what was heard -/
def small (x : Val) : Bool := rok 28 x && decide (wt x ≤ 300)
theorem line_ok {nm : Str} {x y : Val} (h1 : small (.str nm) = true) (h2 : small x = true) (h3 : small y = true) : rok 29 (.lst [.str nm, x, y]) = true ∧ wt (.lst [.str nm, x, y]) ≤ 1000 := by
  unfold small at h1 h2 h3
  rw [Bool.and_eq_true, decide_eq_true_eq] at h1 h2 h3
  refine ⟨?_, ?_⟩
  · show rokA 28 [.str nm, x, y] = true
    simp only [rokA, h1.1, h2.1, h3.1, Bool.and_self]
  · show wtA [.str nm, x, y] ≤ 1000
    simp only [wtA]
    omega
theorem repr_lines : ∀ {xs : List Val}, (∀ x, x ∈ xs → rok 29 x = true ∧ wt x ≤ 1000) → xs.length ≤ 300 → ∃ s, bRepr [.lst xs] = some (.str s) := by
  intro xs h hl
  refine repr_ok ?_ ?_
  · show rokA 29 xs = true
    have e : rokA 29 (xs.map id) = true := rokA_map fun a ha => (h a ha).1
    rwa [List.map_id] at e
  · show wtA xs ≤ 400000
    have e : wtA (xs.map id) ≤ xs.length * (1000 + 1) := wtA_map fun a ha => (h a ha).2
    rw [List.map_id] at e
    have := Nat.mul_le_mul_right 1001 hl
    omega
end KL

set_option Elab.async false
set_option linter.all false
set_option maxRecDepth 100000
set_option maxHeartbeats 4000000
local macro_rules | `(tactic| simp! only [$xs,*] $[$l:location]?) => `(tactic| simp -implicitDefEqProofs only [$xs,*, KL.big, KL.defF, KL.start, KL.sIf, KL.sRt, KL.sRetN, KL.sRaise, KL.sNil, KL.sDrop, KL.sAsg, KL.sAsgL, KL.sNew, KL.sApp, KL.sForG, KL.sFr, KL.frzI, KL.sPN, KL.setN, KL.sWhl, KL.sDel, KL.cVar, KL.cBor, KL.cC, KL.cUn, KL.cOp, KL.cT, KL.cB, KL.cAnd, KL.cOr, KL.cNot, KL.cIf, KL.cAndV, KL.cOrV, KL.cNotV, KL.cChain, KL.cChain3, KL.cNil, KL.cCons, KL.cStar, KL.cTup, KL.cLst, KL.cBi, KL.cCall, KL.cCallK, KL.cFld, KL.cFldO, KL.cSl, KL.cPn, KL.cPs, KL.cIsT, KL.cIsC, KL.cIsN, KL.cNotN, KL.cOwn1, KL.cOwnEq, KL.cMeth, KL.cShare, KL.iSq, KL.iEn, KL.cLC, KL.sAppPop, KL.cYes, KL.cExc, KL.cJoin, KL.lNil, KL.lPl, KL.lOw, KL.stName, KL.stTup, KL.stAll, KL.tgName, KL.tgTup, KL.tgAll, KL.wip, KL.isTy, KL.known, KL.opSub, KL.opNeg, KL.opDiv, KL.opMod, KL.opLe, KL.opGt, KL.opGe, KL.opIsN, KL.opNotN, KL.nv, KL.prv, KL.asBls, KL.bLen, KL.bAll, KL.bMin, KL.bMax, KL.bAbs, KL.bInt, KL.bStr, KL.bBool, KL.bSum, KL.bTup, KL.bLst, KL.opCut, KL.sqOf, KL.asB, KL.asI, KL.dr, KL.pStr, KL.pmF, KL.pm, KL.R.ne, KL.RS.nxo, KL.mkF, KL.startI, KL.sFldI, KL.noOb, KL.R.bind_ok, KL.R.bind_er, KL.R.of_some, KL.R.stm_ok, KL.R.stm_er, KL.RS.then_nx, KL.RS.then_rt, KL.RS.then_er, KL.RS.then_bk, KL.RS.then_ct, KL.W_ok, KL.W_er, KL.WS_nx, KL.WS_rt, KL.WS_er, KL.WS_ite, KL.R.bind_as, KL.R.bind_sm, KL.R.stm_th, KL.RS.then_as, KL.eq_int, KL.ne_int, KL.eq_str, KL.ne_str, KL.eq_nvT, KL.ne_nvT, KL.eq_inT, KL.ne_inT, KL.eq_prT, KL.ne_prT, KL.in_nvT, KL.in_nvL, KL.nin_nvT, KL.nin_nvL, KL.in_nv2, KL.in_prT, KL.in_prL, KL.iRa_eq, KL.iRb_eq, KL.cLstRg_eq, KL.cTupRg_eq, KL.ix_t0, KL.ix_t1, KL.cut_map, KL.ty_non, KL.ty_bl, KL.ty_int, KL.ty_str, KL.ty_tup, KL.ty_lst, KL.ty_arr, KL.ty_obj, KL.ty_ref, KL.cls_obj, KL.is_obj, KL.fld_obj, KL.add_int, KL.lt_int, KL.lt_pr, KL.pow10_11, KL.pow10_12, KL.pow10_13, KL.pow10_15, KL.pow10_18, KL.pow10_19, KL.pow10_20, KL.pow10_21, List.map_cons, List.map_nil, List.length_cons, List.length_nil, List.length_map, List.cons_append, List.nil_append, List.replicate, List.getElem?_cons_zero, List.getElem?_cons_succ, List.set_cons_zero, List.set_cons_succ, Nat.reduceAdd, Nat.reduceSub, Nat.zero_add, Nat.add_zero, Nat.sub_zero, Nat.reduceEqDiff, Nat.reduceLeDiff, Bool.not_true, Bool.not_false, Bool.false_eq_true, Bool.and_true, Bool.true_and, Bool.and_false, Bool.false_and, Bool.or_true, Bool.true_or, Bool.or_false, Bool.false_or, if_true, if_false, ite_true, ite_false, reduceIte, Option.bind_some, Option.map_some, decide_true, decide_false, decide_eq_true_eq, Nat.sub_self, List.all_cons, List.all_nil, id_eq, Int.cast_ofNat_Int, Int.natCast_one, Int.natCast_zero, true_and, and_true, eq_self, and_self, Int.natCast_nonneg, Int.natCast_inj, Int.ofNat_lt, Int.ofNat_le, Int.toNat_natCast, KL.rng_nv, Int.reduceLE, Int.reduceLT, Int.reduceNeg, Int.reduceAdd, Int.reduceSub, Int.reduceMul, Int.reduceEq, Int.reduceToNat, Int.reduceDiv, Int.reduceMod, Nat.reduceLT] $[$l]?)
/-! the well -/
namespace KG
open KL
open PySem (Str PyData)
def Well (n : Nat) (S : Store) : Prop := ∃ a b c : Int, S[n]? = some (.lst [.int a, .int b, .int c])
section
variable {V : Val → Store → Prop} {E : Val → Store → Prop} {n : Nat} {S : Store}
theorem scoop {m : Int} (W : Well n S) (h0 : 0 < m) (h1 : m < 2 ^ 70) (k : ∀ (d : Int) S', 0 ≤ d → d < m → Well n S' → V (.int d) S') : wpE (f__law_scoop [.ref n, .int m] S) V E := by
  obtain ⟨a, b, c, e⟩ := W
  have e1 : (S.set n (.lst [.int a, .int b, .int (c + 2)]))[n]? = some (.lst [.int a, .int b, .int (c + 2)]) := get_same e
  have i2 : ∀ x y z : Val, opIx (.lst [x, y, z]) (.int 2) = some z := fun _ _ _ => rfl
  have i1 : ∀ x y z : Val, opIx (.lst [x, y, z]) (.int 1) = some y := fun _ _ _ => rfl
  have i0 : ∀ x y z : Val, opIx (.lst [x, y, z]) (.int 0) = some x := fun _ _ _ => rfl
  have j2 : ixOf 3 2 = some 2 := rfl
  have j1 : ixOf 3 1 = some 1 := rfl
  have j0 : ixOf 3 0 = some 0 := rfl
  refine W_def rfl ?_
  unfold b__law_scoop
  ((with_reducible refine KL.WS_step fun N' kN => ?_); simp! only [e, i2, j2, stSub, sAsgG]; refine kN _ _ ?_; clear kN N')
  refine WS_step fun N' kN => ?_
  simp! only [e1, i1]
  split
  · ((with_reducible refine KL.WS_step fun N' kN => ?_); simp! only [e1, i1, j1, bDivmod, if_pos (show 0 < m ∧ m < 2 ^ 70 from ⟨h0, h1⟩), stSub, sAsgG]; refine kN _ _ ?_; clear kN N')
    simp! only [id_eq]
    exact k _ _ (Int.emod_nonneg _ (by omega)) (Int.emod_lt_of_pos _ h0) ⟨_, _, _, get_same e1⟩
  · refine kN _ _ ?_
    clear kN N'
    refine WS_step fun N' kN => ?_
    simp! only [e1, i0, i2, j0, stSub, sAsgG, mul_r (j := 41011) (by decide), mul_r (j := 60013) (by decide), mul_r (j := 29) (by decide)]
    refine kN _ _ ?_
    have e2 : ∀ x : Val, ((S.set n (.lst [.int a, .int b, .int (c + 2)])).set n (.lst [x, .int b, .int (c + 2)]))[n]? = some (.lst [x, .int b, .int (c + 2)]) := fun x => get_same e1
    simp! only [e2, i0, if_pos h0]
    exact k _ _ (Int.emod_nonneg _ (by omega)) (Int.emod_lt_of_pos _ h0) ⟨_, _, _, e2 _⟩
end
end KG

set_option Elab.async false
set_option linter.all false
set_option maxRecDepth 100000
set_option maxHeartbeats 4000000
/-! the law's frame: the wells of a script -/
namespace KG
open KL
open PySem (Str PyData)
section
variable {V : Val → Store → Prop} {E : Val → Store → Prop} {n : Nat} {S : Store}
theorem well {ns : List Int} {q : Nat} (hn : ns.length ≤ 63) (hq : q ≤ 5) (k : ∀ n S', Well n S' → V (.ref n) S') : wpE (f__law_well [.arr (ns.map .int), nv q] S) V E := by
  refine W_def rfl ?_
  unfold b__law_well
  refine WS_step fun N' kN => ?_
  have own : ∀ o : Int, N' [.pl (.arr (ns.map .int)), .pl (nv q), .pl (.int o), .un, .un] S := fun o => by
    refine kN _ _ ?_
    clear kN N'
    ((with_reducible refine KL.WS_step fun N' kN => ?_); simp! only [mul_l (i := 1213) (by decide)]; refine kN _ _ ?_; clear kN N')
    refine WS_step fun N' kN => ?_
    simp! only [opCut, List.length_map]
    refine WS_for (P := fun i ρ S' => S' = S ∧ ∃ x y, ρ = [.pl (.arr (ns.map .int)), .pl (nv q), .pl (.int o), .pl (.int x), y]) ⟨rfl, _, _, rfl⟩ (fun i x ρ S' hx ⟨e, x1, y1, e2⟩ => ?_) fun ρ S' ⟨e, x1, y1, e2⟩ => ?_
    · subst e e2
      rw [List.getElem?_map] at hx
      obtain ⟨w, _, rfl⟩ := Option.map_eq_some_iff.mp hx
      simp! only [mul_r (j := 33331) (by decide)]
      exact ⟨_, _, rfl⟩
    · subst e e2
      refine kN _ _ ?_
      clear kN N'
      have nw : ∀ a b c : Int, V (.ref S'.length) (S' ++ [.lst [.int a, .int b, .int c]]) := fun a b c => k _ _ ⟨a, b, c, by rw [List.getElem?_append_right (Nat.le_refl _), Nat.sub_self]; rfl⟩
      simp! only [mul_r (j := 7) (by decide)]
      split
      · simp! only [id_eq]
        exact nw _ _ _
      · simp! only [ge_iff_le]
        split
        · simp! only [id_eq]
          exact nw _ _ _
        · simp! only [id_eq]
          exact nw _ _ _
  simp! only [id_eq]
  split
  · rename_i h
    have h' : q < (ns.map Val.int).length := by simpa using h
    simp! only [ix_arr h', List.getElem_map]
    exact own _
  · simp! only [mul_l (i := 23) (by decide)]
    exact own _
theorem law_of {E : Val → Store → Prop} (hr : ∀ n S, Well n S → wpE (f__law_right [.ref n] S) (fun v _ => v = .bl true) fun _ _ => False) (ns : List Int) (hn : ns.length ≤ 63) : wpE (f_law [.arr (ns.map .int)] S) (fun v _ => v = .bl true) E := by
  refine W_def rfl ?_
  unfold b_law
  obtain ⟨m, hm, e⟩ : ∃ m : Nat, m ≤ 5 ∧ (if (if (5 : Int) < (ns.length : Int) then (5 : Int) else (ns.length : Int)) > 2 then (if (5 : Int) < (ns.length : Int) then (5 : Int) else (ns.length : Int)) else 2) = m := by
    refine ⟨(if (if (5 : Int) < (ns.length : Int) then (5 : Int) else (ns.length : Int)) > 2 then (if (5 : Int) < (ns.length : Int) then (5 : Int) else (ns.length : Int)) else 2).toNat, ?_, ?_⟩ <;> (repeat' split) <;> omega
  simp! only [List.length_map, e, rgO_nat (show m ≤ 1000000 by omega)]
  refine W_stm (W_lc (P := fun i acc S => ∃ bs : List Bool, acc = bs.map .bl ∧ ∀ b, b ∈ bs → b = true) ⟨[], rfl, fun b h => absurd h List.not_mem_nil⟩ (big_le (by simp; omega)) (fun i x S2 acc hx ⟨bs, ea, hb⟩ => ⟨_, rfl, ?_⟩) fun ys S2 ⟨bs, ea, hb⟩ => ?_)
  · subst ea
    obtain ⟨hi, rfl⟩ := rangeV_get hx
    simp! only [id_eq]
    refine W_bind (well hn (by omega) fun n S3 W3 => ?_)
    refine wp_mono (hr n S3 W3) (fun v S4 e => ?_) fun _ _ h => h
    subst e
    refine ⟨bs ++ [true], by rw [List.map_append]; rfl, fun b hb' => ?_⟩
    rcases List.mem_append.mp hb' with h | h
    · exact hb b h
    · exact List.mem_singleton.mp h
  · subst ea
    simp! only [bls_map]
    rw [List.all_eq_true.mpr fun b h => by rw [hb b h]; rfl]
theorem law_pure_of (hr : ∀ n S, Well n S → wpE (f__law_right [.ref n] S) (fun v _ => v = .bl true) fun _ _ => False) (ns : List Int) (hn : ns.length ≤ 63) : ∃ S', f_law [.arr (ns.map Val.int)] [] = .ok (.bl true) S' := by
  obtain ⟨v, S', e, h⟩ := wp_ex (law_of hr ns hn (S := []) (E := fun _ _ => False))
  subst h
  exact ⟨S', e⟩
end
end KG

set_option Elab.async false
set_option linter.all false
set_option maxRecDepth 100000
set_option maxHeartbeats 4000000
/-! one of a menu -/
namespace KG
open KL
open PySem (Str PyData)
section
variable {V : Val → Store → Prop} {E : Val → Store → Prop} {n : Nat} {S : Store}
theorem any_of {xs : List Val} (W : Well n S) (h0 : 0 < xs.length) (h1 : xs.length ≤ 1000000) (k : ∀ x S', x ∈ xs → Well n S' → V x S') : wpE (f__law_any_of [.ref n, .lst xs] S) V E := by
  refine W_def rfl ?_
  unfold b__law_any_of
  simp! only [id_eq]
  refine W_stm (scoop W (by omega) (by omega) fun d S2 d0 d1 W2 => ?_)
  obtain ⟨i, rfl⟩ : ∃ i : Nat, d = (i : Int) := ⟨d.toNat, by omega⟩
  have hi : i < xs.length := by omega
  simp! only [ix_lst hi]
  exact k _ _ (List.getElem_mem hi) W2
theorem WS_any {k : Nat} {L : KL.E Val} {xs : List Val} {N : Env → Store → Prop} {Rt : Val → Env → Store → Prop} {X : Val → Env → Store → Prop} {ρ : Env} (W : Well n S) (hw : ρ[0]? = some (.pl (.ref n))) (hL : L ρ S = .ok (.lst xs) S) (h0 : 0 < xs.length) (h1 : xs.length ≤ 1000000)
    (h : ∀ x S', x ∈ xs → Well n S' → N (ρ.set k (.pl x)) S') : WS (sAsg k (cCall f__law_any_of (cCons (cVar 0) (cCons L cNil))) ρ S) N Rt X := by
  simp! only [hw, hL]
  refine W_stm (any_of W h0 h1 fun x S' hx W' => ?_)
  simp! only [id_eq]
  exact h x S' hx W'
theorem WS_anyR {L : KL.E Val} {xs : List Val} {N : Env → Store → Prop} {Rt : Val → Env → Store → Prop} {X : Val → Env → Store → Prop} {ρ : Env} (W : Well n S) (hw : ρ[0]? = some (.pl (.ref n))) (hL : L ρ S = .ok (.lst xs) S) (h0 : 0 < xs.length) (h1 : xs.length ≤ 1000000)
    (h : ∀ x S', x ∈ xs → Well n S' → Rt x ρ S') : WS (sRt (cCall f__law_any_of (cCons (cVar 0) (cCons L cNil))) ρ S) N Rt X := by
  simp! only [hw, hL]
  refine W_stm (any_of W h0 h1 fun x S' hx W' => ?_)
  simp! only [id_eq]
  exact h x S' hx W'
end
end KG

set_option Elab.async false
set_option linter.all false
set_option maxRecDepth 100000
set_option maxHeartbeats 4000000
/-! drawn worths -/
namespace KG
open KL
open PySem (Str PyData)
section
variable {V : Val → Store → Prop} {E : Val → Store → Prop} {n : Nat} {S : Store}
/-- worths of a middling size -/
def midW (y : Val) : Prop := ∃ d : Int, y = .int d ∧ -1000000000000 ≤ d ∧ d ≤ 1000000000000
theorem mid_of : ∀ {ys : List Val}, (∀ y, y ∈ ys → midW y) → ∃ ns : List Int, ys = ns.map Val.int ∧ ∀ w, w ∈ ns → -1000000000000 ≤ w ∧ w ≤ 1000000000000
  | [], _ => ⟨[], rfl, fun _ h => absurd h List.not_mem_nil⟩
  | y :: ys, h => by
    obtain ⟨d, rfl, hd⟩ := h y List.mem_cons_self
    obtain ⟨ns, e, hn⟩ := mid_of (ys := ys) fun y hy => h y (List.mem_cons_of_mem _ hy)
    exact ⟨d :: ns, by rw [e]; rfl, fun w hw => (List.mem_cons.mp hw).elim (fun e => e ▸ hd) (hn w)⟩
theorem mid_app {ys : List Val} {y : Val} (h : ∀ y, y ∈ ys → midW y) (hy : midW y) : ∀ z, z ∈ ys ++ [y] → midW z := fun z hz => (List.mem_append.mp hz).elim (h z) fun e => List.mem_singleton.mp e ▸ hy
theorem values {m : Nat} (W : Well n S) (h0 : 1 ≤ m) (h9 : m ≤ 9) (k : ∀ (ns : List Int) S', ns.length = m → (∀ w, w ∈ ns → -1000000000000 ≤ w ∧ w ≤ 1000000000000) → Well n S' → V (.lst (ns.map Val.int)) S') : wpE (f__law_values [.ref n, nv m] S) V E := by
  have fin : ∀ (ys : List Val) (S : Store), ys.length = m → (∀ y, y ∈ ys → midW y) → Well n S → V (.lst ys) S := fun ys S hl hp w => by
    obtain ⟨ns, rfl, hn⟩ := mid_of hp
    exact k ns S (by simpa using hl) hn w
  have hm : m ≤ 1000000 := by omega
  have hb : ((List.range m).map nv).length ≤ big := big_le (by simp; omega)
  refine W_def rfl ?_
  unfold b__law_values
  ((with_reducible refine KL.WS_step fun N' kN => ?_); simp! only [id_eq])
  refine W_stm (scoop W (by decide) (by decide) fun w S1 w0 w1 W1 => ?_)
  simp! only [id_eq]
  (refine kN _ _ ?_; clear kN N')
  refine WS_step fun N' kN => ?_
  simp! only [id_eq]
  split
  · ((with_reducible refine KL.WS_step fun N' kN => ?_); simp! only [lgO_nat hm])
    (refine kN _ _ ?_; clear kN N')
    refine WS_step fun N'' kN' => ?_
    simp! only [rgO_nat hm]
    refine WS_for (P := fun q ρ S => ∃ bag found s5, ρ = [.pl (.ref n), .pl (nv m), .pl (.int w), .ow bag, .ow found, s5] ∧ bag.length + q = m ∧ found.length = q ∧ (∀ y, y ∈ bag → midW y) ∧ (∀ y, y ∈ found → midW y) ∧ Well n S)
      ⟨_, _, _, rfl, by simp, rfl, fun y hy => ?_, (fun y h => absurd h List.not_mem_nil), W1⟩ (fun q x ρ S hx ⟨bag, found, s5, e, hl, hf, hb1, hf1, W2⟩ => ?_) fun ρ S ⟨bag, found, s5, e, hl, hf, hb1, hf1, W2⟩ => ?_
    · obtain ⟨k, hk, rfl⟩ := List.mem_map.mp hy
      have := List.mem_range.mp hk
      exact ⟨k, rfl, by omega⟩
    · subst e
      obtain ⟨hq, rfl⟩ := rangeV_get hx
      have hbl : bag.length ≤ big := big_le (by omega)
      have hfl : found.length < big := big_lt (by omega)
      simp! only [id_eq]
      refine W_stm (scoop W2 (by omega) (by omega) fun d S3 d0 d1 W3 => ?_)
      obtain ⟨dn, rfl⟩ : ∃ dn : Nat, d = dn := ⟨d.toNat, by omega⟩
      have hd : dn < bag.length := by omega
      simp! only [hfl, hd, hbl, List.getElem?_eq_getElem hd]
      exact ⟨_, _, _, rfl, by rw [List.length_eraseIdx_of_lt hd]; omega, by rw [List.length_append, hf]; rfl, fun y hy => hb1 y (List.mem_of_mem_eraseIdx hy), mid_app hf1 (hb1 _ (List.getElem_mem hd)), W3⟩
    · subst e
      refine kN' _ _ ?_
      simp! only [id_eq]
      exact fin found S (by simpa using hf) hf1 W2
  · refine kN _ _ ?_
    clear kN N'
    refine WS_step fun N' kN => ?_
    simp! only [id_eq]
    split
    · simp! only [rgO_nat hm]
      refine W_stm (W_lc (P := fun i acc S => Well n S ∧ acc.length = i ∧ ∀ y, y ∈ acc → midW y) ⟨W1, rfl, fun y h => absurd h List.not_mem_nil⟩ hb (fun i x S2 acc hx ⟨W2, hl, ha⟩ => ⟨_, rfl, ?_⟩) fun groups S2 ⟨W2, hl, ha⟩ => ?_)
      · simp! only [mul_l (i := 5) (by decide)]
        refine W_bind (scoop W2 (by decide) (by decide) fun d S3 d0 d1 W3 => ?_)
        simp! only [List.length_append]
        exact ⟨W3, by rw [hl], mid_app ha ⟨_, rfl, by omega⟩⟩
      · simp! only [id_eq]
        exact fin _ _ (by simpa using hl) ha W2
    · refine kN _ _ ?_
      clear kN N'
      simp! only [rgO_nat hm]
      refine W_stm (W_lc (P := fun i acc S => Well n S ∧ acc.length = i ∧ ∀ y, y ∈ acc → midW y) ⟨W1, rfl, fun y h => absurd h List.not_mem_nil⟩ hb (fun i x S2 acc hx ⟨W2, hl, ha⟩ => ⟨_, rfl, ?_⟩) fun groups S2 ⟨W2, hl, ha⟩ => ?_)
      · simp! only [id_eq]
        refine scoop W2 (by decide) (by decide) fun d S3 d0 d1 W3 => ?_
        simp! only [List.length_append]
        exact ⟨W3, by rw [hl], mid_app ha ⟨d, rfl, by omega⟩⟩
      · simp! only [id_eq]
        exact fin _ _ (by simpa using hl) ha W2
end
end KG

set_option linter.all false
set_option maxHeartbeats 1000000
/-! KMa2: plain mathematics of orders: what can be reached, round by round. -/
namespace KM
/-! ### sorted -/
def insN (x : Nat) : List Nat → List Nat
  | [] => [x]
  | y :: l => if x ≤ y then x :: y :: l else y :: insN x l
def srtN (l : List Nat) : List Nat := l.foldr insN []
theorem insN_perm (x : Nat) : ∀ l, (insN x l).Perm (x :: l)
  | [] => .refl _
  | y :: l => by
    unfold insN
    split
    · exact .refl _
    · exact (List.Perm.cons y (insN_perm x l)).trans (List.Perm.swap x y l)
theorem srtN_perm : ∀ l, (srtN l).Perm l
  | [] => .refl _
  | x :: l => (insN_perm x (srtN l)).trans (.cons x (srtN_perm l))
theorem mem_srtN {x : Nat} {l : List Nat} : x ∈ srtN l ↔ x ∈ l := (srtN_perm l).mem_iff
theorem insN_pw (x : Nat) : ∀ l : List Nat, l.Pairwise (· ≤ ·) → (insN x l).Pairwise (· ≤ ·)
  | [], _ => by simp [insN]
  | y :: l, h => by
    rw [List.pairwise_cons] at h
    unfold insN
    split
    · rename_i hxy
      rw [List.pairwise_cons]
      refine ⟨fun z hz => ?_, List.pairwise_cons.mpr h⟩
      rcases List.mem_cons.mp hz with e | e
      · rw [e]; exact hxy
      · exact Nat.le_trans hxy (h.1 z e)
    · rename_i hxy
      rw [List.pairwise_cons]
      refine ⟨fun z hz => ?_, insN_pw x l h.2⟩
      rcases List.mem_cons.mp ((insN_perm x l).mem_iff.mp hz) with e | e
      · rw [e]; omega
      · exact h.1 z e
theorem srtN_pw : ∀ l : List Nat, (srtN l).Pairwise (· ≤ ·)
  | [] => .nil
  | x :: l => insN_pw x _ (srtN_pw l)
theorem srt_uniq : ∀ {l m : List Nat}, l.Perm m → l.Pairwise (· ≤ ·) → m.Pairwise (· ≤ ·) → l = m
  | [], m, h, _, _ => (List.Perm.eq_nil h.symm).symm
  | x :: l, [], h, _, _ => absurd h.length_eq (by simp)
  | x :: l, y :: m, h, hl, hm => by
    rw [List.pairwise_cons] at hl hm
    have e : x = y := by
      have h1 : x ∈ y :: m := h.mem_iff.mp List.mem_cons_self
      have h2 : y ∈ x :: l := h.mem_iff.mpr List.mem_cons_self
      have a : y ≤ x := by
        rcases List.mem_cons.mp h1 with e | e
        · omega
        · exact hm.1 x e
      have b : x ≤ y := by
        rcases List.mem_cons.mp h2 with e | e
        · omega
        · exact hl.1 y e
      omega
    subst e
    rw [srt_uniq ((List.perm_cons x).mp h) hl.2 hm.2]
theorem srtN_eq {l m : List Nat} (h : l.Perm m) : srtN l = srtN m := srt_uniq ((srtN_perm l).trans (h.trans (srtN_perm m).symm)) (srtN_pw l) (srtN_pw m)
theorem srtN_id {l : List Nat} (h : l.Pairwise (· ≤ ·)) : srtN l = l := srt_uniq (srtN_perm l) (srtN_pw l) h
theorem srtN_srt (l : List Nat) : srtN (srtN l) = srtN l := srtN_id (srtN_pw l)
theorem srtN_range {n : Nat} {l : List Nat} (nd : l.Nodup) (h : ∀ x, x ∈ l → x < n) (hl : l.length = n) : srtN l = List.range n := by
  refine srt_uniq ((srtN_perm l).trans ?_) (srtN_pw l) ?_
  · refine perm_nodup l _ nd List.nodup_range fun x => ⟨fun hx => List.mem_range.mpr (h x hx), fun hx => ?_⟩
    apply Classical.byContradiction
    intro hn
    have := nodup_le n (x :: l) (List.nodup_cons.mpr ⟨hn, nd⟩) (fun y hy => by
      rcases List.mem_cons.mp hy with e | e
      · rw [e]; exact List.mem_range.mp hx
      · exact h y e)
    rw [List.length_cons] at this
    omega
  · exact List.pairwise_lt_range.imp fun h => Nat.le_of_lt h
/-! ### all that can be reached in so many steps -/
section
variable {S T : Type} [DecidableEq S] (nx : S → List T) (st : S → T → S) (s0 : S)
inductive Path : List T → Prop where
  | nil : Path []
  | snoc {o : List T} {t : T} : Path o → t ∈ nx (o.foldl st s0) → Path (o ++ [t])
/-- an entry, if there is none under this key -/
def sd (d : List (S × List T)) (k : S) (o : List T) : List (S × List T) := if d.any (fun p => decide (p.1 = k)) then d else d ++ [(k, o)]
def stepD (p : S × List T) (d : List (S × List T)) : List (S × List T) := (nx p.1).foldl (fun d t => sd d (st p.1 t) (p.2 ++ [t])) d
def roundD (L : List (S × List T)) : List (S × List T) := L.foldl (fun d p => stepD nx st p d) []
structure Lv (r : Nat) (L : List (S × List T)) : Prop where
  nd : (L.map (·.1)).Nodup
  pa : ∀ p, p ∈ L → Path nx st s0 p.2 ∧ p.2.foldl st s0 = p.1 ∧ p.2.length = r
  al : ∀ o, Path nx st s0 o → o.length = r → o.foldl st s0 ∈ L.map (·.1)
variable {nx st s0}
theorem any_key {d : List (S × List T)} {k : S} : d.any (fun p => decide (p.1 = k)) = true ↔ k ∈ d.map (·.1) := by
  simp [List.any_eq_true, List.mem_map]
theorem sd_nd {d : List (S × List T)} {k : S} {o : List T} (h : (d.map (·.1)).Nodup) : ((sd d k o).map (·.1)).Nodup := by
  unfold sd
  split
  · exact h
  · rename_i hn
    rw [any_key] at hn
    rw [List.map_append, List.nodup_append]
    exact ⟨h, by simp, fun a ha b hb e => by
      have hb' : b = k := by simpa using hb
      rw [e, hb'] at ha
      exact hn ha⟩
theorem sd_old {d : List (S × List T)} {k : S} {o : List T} {p : S × List T} (h : p ∈ d) : p ∈ sd d k o := by
  unfold sd
  split
  · exact h
  · exact List.mem_append_left _ h
theorem sd_new {d : List (S × List T)} {k : S} {o : List T} : k ∈ (sd d k o).map (·.1) := by
  unfold sd
  split
  · rename_i h; exact any_key.mp h
  · simp
theorem sd_mem {d : List (S × List T)} {k : S} {o : List T} {p : S × List T} (h : p ∈ sd d k o) : p ∈ d ∨ p = (k, o) := by
  unfold sd at h
  split at h
  · exact .inl h
  · rcases List.mem_append.mp h with h | h
    · exact .inl h
    · exact .inr (List.mem_singleton.mp h)
theorem Lv.zero : Lv nx st s0 0 [(s0, [])] := ⟨by simp, fun p h => by rw [List.mem_singleton.mp h]; exact ⟨.nil, rfl, rfl⟩, fun o _ h => by rw [List.length_eq_zero_iff.mp h]; simp⟩
/-- what is known of the dict that is being made -/
structure Mk (r : Nat) (L : List (S × List T)) (i : Nat) (p : S × List T) (j : Nat) (d : List (S × List T)) : Prop where
  nd : (d.map (·.1)).Nodup
  pa : ∀ q, q ∈ d → Path nx st s0 q.2 ∧ q.2.foldl st s0 = q.1 ∧ q.2.length = r + 1
  al : ∀ k q, k < i → L[k]? = some q → ∀ t, t ∈ nx q.1 → st q.1 t ∈ d.map (·.1)
  cu : ∀ k t, k < j → (nx p.1)[k]? = some t → st p.1 t ∈ d.map (·.1)
theorem Mk.add {r i j : Nat} {L d : List (S × List T)} {p : S × List T} {t : T} (h : Mk (nx := nx) (st := st) (s0 := s0) r L i p j d) (hp : Path nx st s0 p.2 ∧ p.2.foldl st s0 = p.1 ∧ p.2.length = r) (ht : (nx p.1)[j]? = some t) : Mk (nx := nx) (st := st) (s0 := s0) r L i p (j + 1) (sd d (st p.1 t) (p.2 ++ [t])) where
  nd := sd_nd h.nd
  pa := fun q hq => by
    rcases sd_mem hq with hq | hq
    · exact h.pa q hq
    · subst hq
      obtain ⟨h1, h2, h3⟩ := hp
      exact ⟨.snoc h1 (by rw [h2]; exact List.mem_of_getElem? ht), by simp [List.foldl_append, h2], by simp [h3]⟩
  al := fun k q hk hq t' ht' => by
    obtain ⟨z, hz, e⟩ := List.mem_map.mp (h.al k q hk hq t' ht')
    exact List.mem_map.mpr ⟨z, sd_old hz, e⟩
  cu := fun k t' hk ht' => by
    rcases Nat.lt_succ_iff_lt_or_eq.mp hk with hk | hk
    · obtain ⟨z, hz, e⟩ := List.mem_map.mp (h.cu k t' hk ht')
      exact List.mem_map.mpr ⟨z, sd_old hz, e⟩
    · subst hk
      rw [ht] at ht'; cases ht'
      exact sd_new
theorem Mk.turn {r i : Nat} {L d : List (S × List T)} {p : S × List T} (h : Mk (nx := nx) (st := st) (s0 := s0) r L i p (nx p.1).length d) (hi : L[i]? = some p) (p' : S × List T) : Mk (nx := nx) (st := st) (s0 := s0) r L (i + 1) p' 0 d where
  nd := h.nd
  pa := h.pa
  al := fun k q hk hq t ht => by
    rcases Nat.lt_succ_iff_lt_or_eq.mp hk with hk | hk
    · exact h.al k q hk hq t ht
    · subst hk
      rw [hi] at hq; cases hq
      obtain ⟨j, hj⟩ := List.mem_iff_getElem?.mp ht
      exact h.cu j t (List.getElem?_eq_some_iff.mp hj).1 hj
  cu := fun k t hk _ => absurd hk (Nat.not_lt_zero _)
theorem Mk.done {r : Nat} {L d : List (S × List T)} {p : S × List T} (l : Lv nx st s0 r L) (h : Mk (nx := nx) (st := st) (s0 := s0) r L L.length p 0 d) : Lv nx st s0 (r + 1) d where
  nd := h.nd
  pa := h.pa
  al := fun o ho hl => by
    cases ho with
    | nil => cases hl
    | @snoc o t ho ht =>
      have hl' : o.length = r := by simpa using hl
      obtain ⟨q, hq, e⟩ := List.mem_map.mp (l.al o ho hl')
      obtain ⟨k, hk⟩ := List.mem_iff_getElem?.mp hq
      rw [← e] at ht
      have := h.al k q (List.getElem?_eq_some_iff.mp hk).1 hk t ht
      rw [List.foldl_append]
      show st (o.foldl st s0) t ∈ _
      rw [← e]; exact this
theorem Mk.init {r : Nat} {L : List (S × List T)} {p : S × List T} : Mk (nx := nx) (st := st) (s0 := s0) r L 0 p 0 [] :=
  ⟨.nil, fun q h => absurd h List.not_mem_nil, fun k q hk => absurd hk (Nat.not_lt_zero _), fun k t hk => absurd hk (Nat.not_lt_zero _)⟩
end
end KM

set_option linter.all false
set_option maxHeartbeats 1000000
/-! KMa3: the ways: what rounds reach is what all orders lead to. -/
namespace KM
inductive Wy where
  | first | earlier | newest | better | best | lots
  deriving DecidableEq
theorem any_perm {l m : List Nat} {p : Nat → Bool} (h : l.Perm m) : l.any p = m.any p := by
  rw [Bool.eq_iff_iff, List.any_eq_true, List.any_eq_true]
  exact ⟨fun ⟨x, a, b⟩ => ⟨x, h.mem_iff.mp a, b⟩, fun ⟨x, a, b⟩ => ⟨x, h.mem_iff.mpr a, b⟩⟩
section
variable (v : Nat → Int) (nr lot : Nat → Nat → Bool) (top : Nat → Bool)
/-- whether a thing that comes is struck -/
def goesW (w : Wy) (seen found : List Nat) (t : Nat) : Bool := match w with
  | .lots => !(!found.any (lot t) && top t)
  | .earlier => seen.any (nr t)
  | .better => found.any fun e => nr t e && decide (v t ≤ v e)
  | .newest => false
  | _ => found.any (nr t)
/-- whether a thing that is there is struck by it -/
def goneW (w : Wy) (t e : Nat) : Bool := match w with
  | .newest => nr t e
  | .better => nr t e
  | _ => false
abbrev St2 := List Nat × List Nat
def stF (w : Wy) (s : St2) (t : Nat) : St2 := (srtN (s.1 ++ [t]), if goesW v nr lot top w s.1 s.2 t then s.2 else srtN (s.2.filter (fun e => !goneW nr w t e) ++ [t]))
def lwF (w : Wy) (s : St2) (t : Nat) : St2 := (s.1 ++ [t], if goesW v nr lot top w s.1 s.2 t then s.2 else s.2.filter (fun e => !goneW nr w t e) ++ [t])
variable {v nr lot top}
theorem goesW_perm {w : Wy} {a b c d : List Nat} {t : Nat} (h1 : a.Perm b) (h2 : c.Perm d) : goesW v nr lot top w a c t = goesW v nr lot top w b d t := by
  cases w <;> simp only [goesW, any_perm h1, any_perm h2]
theorem snoc_ind {α : Type} {P : List α → Prop} (h0 : P []) (h1 : ∀ l a, P l → P (l ++ [a])) (l : List α) : P l := by
  have : ∀ l : List α, P l.reverse := fun l => by
    induction l with
    | nil => exact h0
    | cons a l ih => rw [List.reverse_cons]; exact h1 _ _ ih
  have q := this l.reverse
  rwa [List.reverse_reverse] at q
theorem st_lw (w : Wy) (o : List Nat) : o.foldl (stF v nr lot top w) ([], []) = (srtN (o.foldl (lwF v nr lot top w) ([], [])).1, srtN (o.foldl (lwF v nr lot top w) ([], [])).2) := by
  refine snoc_ind (P := fun o => o.foldl (stF v nr lot top w) ([], []) = (srtN (o.foldl (lwF v nr lot top w) ([], [])).1, srtN (o.foldl (lwF v nr lot top w) ([], [])).2)) rfl (fun o t ih => ?_) o
  rw [List.foldl_append, List.foldl_append]
  simp only [List.foldl_cons, List.foldl_nil]
  rw [ih]
  generalize o.foldl (lwF v nr lot top w) ([], []) = s
  obtain ⟨seen, found⟩ := s
  unfold stF lwF
  simp only
  rw [goesW_perm (srtN_perm seen) (srtN_perm found)]
  refine Prod.ext (srtN_eq ((srtN_perm seen).append_right _)) ?_
  simp only
  split
  · rfl
  · exact srtN_eq (((srtN_perm found).filter _).append_right _)
theorem lw_fst (w : Wy) (o : List Nat) : (o.foldl (lwF v nr lot top w) ([], [])).1 = o := by
  refine snoc_ind (P := fun o => (o.foldl (lwF v nr lot top w) ([], [])).1 = o) rfl (fun o t ih => ?_) o
  rw [List.foldl_append]
  show (_ : St2).1 ++ [t] = _
  rw [ih]
theorem st_fst (w : Wy) (o : List Nat) : (o.foldl (stF v nr lot top w) ([], [])).1 = srtN o := by rw [st_lw, lw_fst]
theorem st_snd (w : Wy) (o : List Nat) : (o.foldl (stF v nr lot top w) ([], [])).2 = srtN (o.foldl (lwF v nr lot top w) ([], [])).2 := by rw [st_lw]
variable (v)
/-- what may come next -/
def leftN (m : Nat) (done : List Nat) : List Nat := (List.range m).filter fun t => decide (t ∉ done)
def bestN (left : List Nat) : List Nat := left.filter fun t => left.all fun u => decide (v u ≤ v t)
def nxF (m : Nat) (w : Wy) (s : St2) : List Nat := if w = .best then bestN v (leftN m s.1) else leftN m s.1
/-- all orders of so many of the things -/
def turnsL (xs : List Nat) : Nat → List (List Nat)
  | 0 => [[]]
  | k + 1 => (turnsL xs k).flatMap fun b => (xs.filter fun t => decide (t ∉ b)).map fun t => b ++ [t]
/-- an order with better things first -/
def insV (found : List Nat) (t : Nat) : List Nat := found.take (found.filter fun e => decide (v t ≤ v e)).length ++ [t] ++ found.drop (found.filter fun e => decide (v t ≤ v e)).length
def seqW (w : Wy) (o : List Nat) : List Nat := if w = .best then o.foldl (insV v) [] else o
variable {v}
theorem mem_left {m t : Nat} {d : List Nat} : t ∈ leftN m d ↔ t < m ∧ t ∉ d := by simp [leftN]
theorem mem_best {left : List Nat} {t : Nat} : t ∈ bestN v left ↔ t ∈ left ∧ ∀ u, u ∈ left → v u ≤ v t := by simp [bestN]
theorem mem_turns {xs : List Nat} : ∀ {k : Nat} {o : List Nat}, o ∈ turnsL xs k ↔ o.length = k ∧ o.Nodup ∧ ∀ x, x ∈ o → x ∈ xs
  | 0, o => by
    constructor
    · intro h
      rw [List.mem_singleton.mp h]; simp
    · intro ⟨h, _⟩
      rw [List.length_eq_zero_iff.mp h]; exact List.mem_singleton.mpr rfl
  | k + 1, o => by
    unfold turnsL
    simp only [List.mem_flatMap, List.mem_map, List.mem_filter, decide_eq_true_eq]
    constructor
    · rintro ⟨b, hb, t, ⟨ht, hn⟩, rfl⟩
      obtain ⟨h1, h2, h3⟩ := mem_turns.mp hb
      refine ⟨by simp [h1], ?_, fun x hx => ?_⟩
      · rw [List.nodup_append]
        exact ⟨h2, by simp, fun a ha c hc e => by rw [List.mem_singleton.mp hc] at e; exact hn (e ▸ ha)⟩
      · rcases List.mem_append.mp hx with z | z
        · exact h3 x z
        · rw [List.mem_singleton.mp z]; exact ht
    · rintro ⟨h1, h2, h3⟩
      rcases List.eq_nil_or_concat o with rfl | ⟨b, t, rfl⟩
      · cases h1
      · rw [List.concat_eq_append] at *
        rw [List.nodup_append] at h2
        exact ⟨b, mem_turns.mpr ⟨by simpa using h1, h2.1, fun x hx => h3 x (List.mem_append_left _ hx)⟩, t, ⟨h3 t (List.mem_append_right _ List.mem_cons_self), fun z => h2.2.2 t z t List.mem_cons_self rfl⟩, rfl⟩
/-! ### the ways that go through an order as it is -/
abbrev PathW (v : Nat → Int) (nr lot : Nat → Nat → Bool) (top : Nat → Bool) (m : Nat) (w : Wy) := Path (nxF v m w) (stF v nr lot top w) ([], [])
theorem path_any {m : Nat} {w : Wy} (hw : w ≠ .best) {o : List Nat} : PathW v nr lot top m w o ↔ o.Nodup ∧ ∀ x, x ∈ o → x < m := by
  have nx : ∀ (o : List Nat) (t : Nat), t ∈ nxF v m w (o.foldl (stF v nr lot top w) ([], [])) ↔ t < m ∧ t ∉ o := fun o t => by
    unfold nxF
    rw [if_neg hw, mem_left, st_fst, mem_srtN]
  constructor
  · intro h
    induction h with
    | nil => simp
    | @snoc o t _ ht ih =>
      obtain ⟨h1, h2⟩ := (nx o t).mp ht
      refine ⟨?_, fun x hx => ?_⟩
      · rw [List.nodup_append]
        exact ⟨ih.1, by simp, fun a ha b hb e => by rw [List.mem_singleton.mp hb] at e; exact h2 (e ▸ ha)⟩
      · rcases List.mem_append.mp hx with z | z
        · exact ih.2 x z
        · rw [List.mem_singleton.mp z]; exact h1
  · refine snoc_ind (P := fun o => (o.Nodup ∧ ∀ x, x ∈ o → x < m) → PathW v nr lot top m w o) (fun _ => .nil) (fun o t ih h => ?_) o
    rw [List.nodup_append] at h
    refine .snoc (ih ⟨h.1.1, fun x hx => h.2 x (List.mem_append_left _ hx)⟩) ((nx o t).mpr ⟨h.2 t (List.mem_append_right _ List.mem_cons_self), fun z => h.1.2.2 t z t List.mem_cons_self rfl⟩)
/-! ### the best first -/
abbrev Down (v : Nat → Int) (o : List Nat) : Prop := o.Pairwise fun a b => v b ≤ v a
theorem best_path {m : Nat} {o : List Nat} (h : PathW v nr lot top m .best o) : o.Nodup ∧ (∀ x, x ∈ o → x < m) ∧ Down v o ∧ ∀ x, x ∈ o → ∀ u, u < m → u ∉ o → v u ≤ v x := by
  induction h with
  | nil => simp
  | @snoc o t _ ht ih =>
    unfold nxF at ht
    rw [if_pos rfl, mem_best, mem_left, st_fst, mem_srtN] at ht
    obtain ⟨⟨h1, h2⟩, h3⟩ := ht
    have h3 : ∀ u, u < m → u ∉ o → v u ≤ v t := fun u a b => h3 u (mem_left.mpr ⟨a, fun z => b (mem_srtN.mp z)⟩)
    refine ⟨?_, fun x hx => ?_, ?_, fun x hx u hu hn => ?_⟩
    · rw [List.nodup_append]
      exact ⟨ih.1, by simp, fun a ha b hb e => by rw [List.mem_singleton.mp hb] at e; exact h2 (e ▸ ha)⟩
    · rcases List.mem_append.mp hx with z | z
      · exact ih.2.1 x z
      · rw [List.mem_singleton.mp z]; exact h1
    · rw [Down, List.pairwise_append]
      exact ⟨ih.2.2.1, by simp, fun a ha b hb => by rw [List.mem_singleton.mp hb]; exact ih.2.2.2 a ha t h1 h2⟩
    · have hn' : u ∉ o := fun z => hn (List.mem_append_left _ z)
      rcases List.mem_append.mp hx with z | z
      · exact ih.2.2.2 x z u hu hn'
      · rw [List.mem_singleton.mp z]; exact h3 u hu hn'
theorem path_best {m : Nat} : ∀ (r o : List Nat), (o ++ r).Nodup → (∀ x, x < m → x ∈ o ++ r) → (∀ x, x ∈ o ++ r → x < m) → Down v (o ++ r) → PathW v nr lot top m .best o := by
  intro r o
  refine snoc_ind (P := fun o => ∀ r, (o ++ r).Nodup → (∀ x, x < m → x ∈ o ++ r) → (∀ x, x ∈ o ++ r → x < m) → Down v (o ++ r) → PathW v nr lot top m .best o) (fun _ _ _ _ _ => .nil) (fun o t ih r nd al lt dn => ?_) o r
  rw [List.append_assoc, List.singleton_append] at nd al lt dn
  refine .snoc (ih (t :: r) nd al lt dn) ?_
  unfold nxF
  rw [if_pos rfl, mem_best, mem_left, st_fst, mem_srtN]
  rw [List.nodup_append] at nd
  rw [Down, List.pairwise_append, List.pairwise_cons] at dn
  refine ⟨⟨lt t (by simp), fun z => nd.2.2 t z t List.mem_cons_self rfl⟩, fun u hu => ?_⟩
  obtain ⟨h1, h2⟩ := mem_left.mp hu
  rw [mem_srtN] at h2
  rcases List.mem_append.mp (al u h1) with z | z
  · exact absurd z h2
  · rcases List.mem_cons.mp z with z | z
    · rw [z]; exact Int.le_refl _
    · exact dn.2.1.1 u z
theorem down_split {t : Nat} : ∀ {l : List Nat}, Down v l → (l.filter fun e => decide (v t ≤ v e)) ++ (l.filter fun e => !decide (v t ≤ v e)) = l
  | [], _ => rfl
  | x :: l, h => by
    rw [Down, List.pairwise_cons] at h
    by_cases hx : v t ≤ v x
    · rw [List.filter_cons_of_pos (by simpa using hx), List.filter_cons_of_neg (by simpa using hx), List.cons_append, down_split h.2]
    · have none : ∀ e, e ∈ l → ¬ v t ≤ v e := fun e he z => hx (Int.le_trans z (h.1 e he))
      rw [List.filter_cons_of_neg (by simpa using hx), List.filter_cons_of_pos (by simpa using hx), List.filter_eq_nil_iff.mpr (by simpa using none), List.nil_append,
        List.filter_eq_self.mpr (by simpa using none)]
theorem insV_is {t : Nat} {l : List Nat} (h : Down v l) : insV v l t = (l.filter fun e => decide (v t ≤ v e)) ++ t :: (l.filter fun e => !decide (v t ≤ v e)) := by
  have e := down_split (t := t) h
  unfold insV
  generalize hA : l.filter (fun e => decide (v t ≤ v e)) = A at e ⊢
  generalize hB : l.filter (fun e => !decide (v t ≤ v e)) = B at e ⊢
  rw [← e, List.take_left, List.drop_left, List.append_assoc, List.singleton_append]
theorem insV_down {t : Nat} {l : List Nat} (h : Down v l) : Down v (insV v l t) := by
  rw [insV_is h, Down, List.pairwise_append, List.pairwise_cons]
  refine ⟨List.Pairwise.filter _ h, ⟨fun u hu => ?_, List.Pairwise.filter _ h⟩, fun a ha b hb => ?_⟩
  · have := (List.mem_filter.mp hu).2
    simp at this; omega
  · have h1 := (List.mem_filter.mp ha).2
    simp at h1
    rcases List.mem_cons.mp hb with z | z
    · rw [z]; exact h1
    · have h2 := (List.mem_filter.mp z).2
      simp at h2; omega
theorem insV_perm {t : Nat} {l : List Nat} : (insV v l t).Perm (t :: l) := by
  unfold insV
  refine (List.perm_append_comm.append_right _).trans ?_
  rw [List.append_assoc, List.take_append_drop]
  exact .refl _
theorem seq_perm (o : List Nat) : (o.foldl (insV v) []).Perm o := by
  refine snoc_ind (P := fun o => (o.foldl (insV v) []).Perm o) (.refl _) (fun o t ih => ?_) o
  rw [List.foldl_append]
  exact insV_perm.trans ((List.Perm.cons t ih).trans (List.perm_append_singleton t o).symm)
theorem seq_down (o : List Nat) : Down v (o.foldl (insV v) []) := by
  refine snoc_ind (P := fun o => Down v (o.foldl (insV v) [])) .nil (fun o t ih => ?_) o
  rw [List.foldl_append]
  exact insV_down ih
theorem seq_id {o : List Nat} (h : Down v o) : o.foldl (insV v) [] = o := by
  revert h
  refine snoc_ind (P := fun o => Down v o → o.foldl (insV v) [] = o) (fun _ => rfl) (fun o t ih h => ?_) o
  rw [Down, List.pairwise_append] at h
  rw [List.foldl_append, ih h.1]
  show insV v o t = _
  have all : ∀ e, e ∈ o → v t ≤ v e := fun e he => h.2.2 e he t List.mem_cons_self
  rw [insV_is h.1, List.filter_eq_self.mpr (by simpa using all), List.filter_eq_nil_iff.mpr (by simpa using all)]
theorem all_of_len {m : Nat} {o : List Nat} (nd : o.Nodup) (lt : ∀ x, x ∈ o → x < m) (hl : o.length = m) : ∀ x, x < m → x ∈ o := fun x hx => by
  have := srtN_range nd lt hl
  rw [← mem_srtN, this]
  exact List.mem_range.mpr hx
/-- what the rounds reach is what all orders lead to -/
theorem reach_iff {m : Nat} {w : Wy} {k : List Nat} : (∃ o, PathW v nr lot top m w o ∧ o.length = m ∧ (o.foldl (stF v nr lot top w) ([], [])).2 = k) ↔ ∃ o, o ∈ turnsL (List.range m) m ∧ srtN ((seqW v w o).foldl (lwF v nr lot top w) ([], [])).2 = k := by
  by_cases hw : w = .best
  · subst hw
    constructor
    · rintro ⟨o, hp, hl, rfl⟩
      obtain ⟨h1, h2, h3, _⟩ := best_path hp
      refine ⟨o, mem_turns.mpr ⟨hl, h1, fun x hx => List.mem_range.mpr (h2 x hx)⟩, ?_⟩
      unfold seqW
      rw [if_pos rfl, seq_id h3, st_snd]
    · rintro ⟨o, ho, rfl⟩
      obtain ⟨hl, h1, h2⟩ := mem_turns.mp ho
      have pm := seq_perm (v := v) o
      have nd := pm.nodup_iff.mpr h1
      have lt : ∀ x, x ∈ o.foldl (insV v) [] → x < m := fun x hx => List.mem_range.mp (h2 x (pm.mem_iff.mp hx))
      have ln : (o.foldl (insV v) []).length = m := pm.length_eq.trans hl
      refine ⟨o.foldl (insV v) [], path_best [] _ (by simpa using nd) (by simpa using all_of_len nd lt ln) (by simpa using lt) (by simpa using seq_down o), ln, ?_⟩
      unfold seqW
      rw [if_pos rfl, st_snd]
  · constructor
    · rintro ⟨o, hp, hl, rfl⟩
      obtain ⟨h1, h2⟩ := (path_any hw).mp hp
      exact ⟨o, mem_turns.mpr ⟨hl, h1, fun x hx => List.mem_range.mpr (h2 x hx)⟩, by unfold seqW; rw [if_neg hw, st_snd]⟩
    · rintro ⟨o, ho, rfl⟩
      obtain ⟨hl, h1, h2⟩ := mem_turns.mp ho
      exact ⟨o, (path_any hw).mpr ⟨h1, fun x hx => List.mem_range.mp (h2 x hx)⟩, hl, by unfold seqW; rw [if_neg hw, st_snd]⟩
/-- at the end no two keys have the same second part -/
theorem keys_apart {m : Nat} {w : Wy} {L : List (St2 × List Nat)} (h : Lv (nxF v m w) (stF v nr lot top w) ([], []) m L) : (L.map (·.1.2)).Nodup := by
  have hf : ∀ p, p ∈ L → p.1.1 = List.range m := fun p hp => by
    obtain ⟨h1, h2, h3⟩ := h.pa p hp
    rw [← h2, st_fst]
    by_cases hw : w = .best
    · subst hw
      obtain ⟨a, b, _⟩ := best_path h1
      exact srtN_range a b h3
    · obtain ⟨a, b⟩ := (path_any hw).mp h1
      exact srtN_range a b h3
  have nd := h.nd
  rw [List.nodup_iff_pairwise_ne, List.pairwise_map] at *
  refine nd.imp_of_mem fun {p q} hp hq ne e => ne (Prod.ext ?_ e)
  rw [hf p hp, hf q hq]
end
end KM
namespace KM
section
variable {v : Nat → Int} {nr lot : Nat → Nat → Bool} {top : Nat → Bool}
theorem lw_step (w : Wy) {o : List Nat} {i t : Nat} (h : o[i]? = some t) (s : St2) : (o.take (i + 1)).foldl (lwF v nr lot top w) s = lwF v nr lot top w ((o.take i).foldl (lwF v nr lot top w) s) t := by
  rw [List.take_add_one, h, List.foldl_append]; rfl
theorem lw_sub (w : Wy) : ∀ o : List Nat, (∀ x, x ∈ (o.foldl (lwF v nr lot top w) ([], [])).2 → x ∈ o) ∧ (o.foldl (lwF v nr lot top w) ([], [])).2.length ≤ o.length := by
  refine snoc_ind (by simp) fun o t ih => ?_
  rw [List.foldl_append]
  show (∀ x, x ∈ (lwF v nr lot top w _ t).2 → _) ∧ (lwF v nr lot top w _ t).2.length ≤ _
  generalize o.foldl (lwF v nr lot top w) ([], []) = s at *
  unfold lwF
  simp only
  split
  · exact ⟨fun x hx => List.mem_append_left _ (ih.1 x hx), by rw [List.length_append]; omega⟩
  · refine ⟨fun x hx => ?_, ?_⟩
    · rcases List.mem_append.mp hx with z | z
      · exact List.mem_append_left _ (ih.1 x (List.mem_filter.mp z).1)
      · exact List.mem_append_right _ z
    · have := List.length_filter_le (fun e => !goneW nr w t e) s.2
      simp only [List.length_append, List.length_singleton] at *
      omega
end
end KM

set_option Elab.async false
set_option linter.all false
set_option maxRecDepth 100000
set_option maxHeartbeats 1000000
/-! KPl2: sorted of things, of sets of things; max, min. -/
namespace KL
open PySem (Str PyData)
theorem srt_cast (l : List Nat) : srtI (l.map fun k : Nat => (k : Int)) = (KM.srtN l).map fun k : Nat => (k : Int) := by
  refine sorted_uniq ((srtI_perm _).trans ((KM.srtN_perm l).symm.map _)) (srtI_pw _) ?_
  rw [List.pairwise_map]
  exact (KM.srtN_pw l).imp fun h => by omega
theorem nvs_int (l : List Nat) : l.map nv = (l.map fun k : Nat => (k : Int)).map Val.int := by rw [List.map_map]; rfl
theorem sortD_nats (l : List Nat) : bSortD [.lst (l.map nv)] = some (.lst ((KM.srtN l).map nv)) := by
  rw [nvs_int l, sortD_lst, srt_cast, ← nvs_int]
theorem sortD_natsT (l : List Nat) : bSortD [.tup (l.map nv)] = some (.lst ((KM.srtN l).map nv)) := by
  rw [nvs_int l, sortD_tup, srt_cast, ← nvs_int]
/-- sets of things, in order -/
def nT (l : List Nat) : Val := .tup (l.map nv)
def rowN (a b : List Nat) : Bool := rowLe (a.map fun k : Nat => (k : Int)) (b.map fun k : Nat => (k : Int))
theorem nT_row (l : List Nat) : nT l = rowV (l.map fun k : Nat => (k : Int)) := by unfold nT rowV; rw [nvs_int]
theorem sortD_sets (ls : List (List Nat)) (h : ∀ l, l ∈ ls → l ≠ []) : bSortD [.lst (ls.map nT)] = some (.lst ((ls.mergeSort rowN).map nT)) := by
  have e : ls.map nT = (ls.map fun l : List Nat => l.map fun k : Nat => (k : Int)).map rowV := by
    rw [List.map_map]; exact List.map_congr_left fun l _ => nT_row l
  rw [e, sortD_rows _ (by
    intro l hl
    obtain ⟨m, hm, rfl⟩ := List.mem_map.mp hl
    simpa using h m hm)]
  congr 2
  rw [← List.map_mergeSort (r := rowN) (f := fun l : List Nat => l.map fun k : Nat => (k : Int)) fun a _ b _ => rfl, List.map_map]
  exact List.map_congr_left fun l _ => (nT_row l).symm
theorem rowLe_total (a b : List Int) : (rowLe a b || rowLe b a) = true := by
  unfold rowLe
  rw [Bool.or_eq_true]
  by_cases h : b < a
  · right
    have : ¬ a < b := List.lt_asymm h
    simpa using this
  · left; simpa using h
theorem rowLe_trans (a b c : List Int) (h1 : rowLe a b = true) (h2 : rowLe b c = true) : rowLe a c = true := by
  unfold rowLe at *
  simp only [Bool.not_eq_true', decide_eq_false_iff_not] at *
  exact List.le_trans (show a ≤ b from h1) (show b ≤ c from h2)
theorem rowLe_anti (a b : List Int) (h1 : rowLe a b = true) (h2 : rowLe b a = true) : a = b := by
  unfold rowLe at *
  simp only [Bool.not_eq_true', decide_eq_false_iff_not] at *
  exact List.le_antisymm (show a ≤ b from h1) (show b ≤ a from h2)
theorem cast_inj {a b : List Nat} (h : a.map (fun k : Nat => (k : Int)) = b.map fun k : Nat => (k : Int)) : a = b := by
  induction a generalizing b with
  | nil => cases b with
    | nil => rfl
    | cons y b => cases h
  | cons x a ih => cases b with
    | nil => cases h
    | cons y b =>
      simp only [List.map_cons, List.cons.injEq] at h
      rw [ih h.2, Int.ofNat_inj.mp h.1]
/-- the same sets give the same order -/
theorem sets_uniq {ls ms : List (List Nat)} (h : ls.Perm ms) : ls.mergeSort rowN = ms.mergeSort rowN := by
  refine List.Perm.eq_of_pairwise (le := fun a b => rowN a b = true) (fun a b _ _ h1 h2 => cast_inj (rowLe_anti _ _ h1 h2)) ?_ ?_ ((List.mergeSort_perm _ _).trans (h.trans (List.mergeSort_perm _ _).symm))
  · exact List.pairwise_mergeSort (le := rowN) (fun a b c h1 h2 => rowLe_trans _ _ _ h1 h2) (fun a b => rowLe_total _ _) ls
  · exact List.pairwise_mergeSort (le := rowN) (fun a b c h1 h2 => rowLe_trans _ _ _ h1 h2) (fun a b => rowLe_total _ _) ms
theorem enc_nT : Enc 1 nT := enc_nv.tup
theorem nin_sets (a : List Nat) (ls : List (List Nat)) : opNotIn (.tup (a.map nv)) (.lst (ls.map nT)) = some (.bl (decide (a ∉ ls))) := (enc_nT.opNotInL a ls).trans (by congr)
end KL

set_option Elab.async false
set_option linter.all false
set_option maxRecDepth 100000
set_option maxHeartbeats 4000000
/-! pairs that pass a test that is handed in -/
namespace KG
open KL
open PySem (Str PyData)
section
variable {V : Val → Store → Prop} {E : Val → Store → Prop} {n : Nat} {S : Store}
theorem W_defH {nn mm i : Nat} {b : F → C} {g : F} {vs : List Val} (hl : vs.length = nn) (hi : i ≤ nn) (h : WS (b g (startH mm i vs) S) (fun _ S1 => V .non S1) (fun v _ S1 => V v S1) fun e _ S1 => E e S1) : wpE (defH nn mm i b g vs S) V E := by
  unfold defH
  rw [if_pos ⟨hl, hi⟩]
  cases hm : b g (startH mm i vs) S with
  | sk => rw [hm] at h; exact h.out.elim
  | er e ρ2 S2 => rw [hm] at h; exact ⟨h.out⟩
  | go fl ρ2 S2 =>
    rw [hm] at h
    cases fl with
    | nx => exact ⟨h.out⟩
    | rt v => exact ⟨h.out⟩
    | _ => exact h.out.elim
/-- all pairs up to a place that pass -/
structure Up2 (m : Nat) (p : Nat → Nat → Bool) (low high : Nat) (ps : KM.Ln) : Prop where
  u : KM.Upto m low high ps
  ok : ∀ q, q ∈ ps → p q.1 q.2 = true
  all : ∀ a b, a < b → b < m → p a b = true → (a < low ∨ (a = low ∧ b < high)) → (a, b) ∈ ps
theorem Up2.nil {m : Nat} {p : Nat → Nat → Bool} : Up2 m p 0 0 [] := ⟨KM.Upto.nil, fun _ h => absurd h List.not_mem_nil, fun a b _ _ _ h => by omega⟩
theorem Up2.start {m low : Nat} {p : Nat → Nat → Bool} {ps : KM.Ln} (U : Up2 m p low 0 ps) : Up2 m p low (low + 1) ps := ⟨U.u.start (by omega), U.ok, fun a b h1 h2 h3 h4 => U.all a b h1 h2 h3 (by omega)⟩
theorem Up2.skip {m low high : Nat} {p : Nat → Nat → Bool} {ps : KM.Ln} (U : Up2 m p low high ps) (h : p low high = false) : Up2 m p low (high + 1) ps := ⟨U.u.skip, U.ok, fun a b h1 h2 h3 h4 => by
  by_cases e : a = low ∧ b = high
  · rw [e.1, e.2, h] at h3; cases h3
  · exact U.all a b h1 h2 h3 (by omega)⟩
theorem Up2.add {m low high : Nat} {p : Nat → Nat → Bool} {ps : KM.Ln} (U : Up2 m p low high ps) (h1 : low < high) (h2 : high < m) (h : p low high = true) : Up2 m p low (high + 1) (ps ++ [(low, high)]) := ⟨U.u.add h1 h2, fun q hq => by
  rcases List.mem_append.mp hq with z | z
  · exact U.ok q z
  · rw [List.mem_singleton.mp z]; exact h, fun a b h1 h2 h3 h4 => by
  by_cases e : a = low ∧ b = high
  · rw [e.1, e.2]; simp
  · exact List.mem_append.mpr (.inl (U.all a b h1 h2 h3 (by omega)))⟩
theorem Up2.row {m low : Nat} {p : Nat → Nat → Bool} {ps : KM.Ln} (U : Up2 m p low m ps) : Up2 m p (low + 1) 0 ps := ⟨U.u.row, U.ok, fun a b h1 h2 h3 h4 => U.all a b h1 h2 h3 (by omega)⟩
theorem Up2.row2 {m low k : Nat} {p : Nat → Nat → Bool} {ps : KM.Ln} (U : Up2 m p low k ps) (h : m ≤ k) : Up2 m p (low + 1) 0 ps := ⟨U.u.row, U.ok, fun a b h1 h2 h3 h4 => U.all a b h1 h2 h3 (by omega)⟩
theorem pairs_with {m : Nat} {p : Nat → Nat → Bool} {g : F} (h9 : m ≤ 9) (hg : ∀ a b, a < b → b < m → g [nv a, nv b] S = .ok (.bl (p a b)) S) (k : ∀ qs : KM.Ln, KM.Links m qs → (∀ a b, (a, b) ∈ qs ↔ a < b ∧ b < m ∧ p a b = true) → V (.tup (qs.map prv)) S) : wpE (f_pairs_with g [nv m] S) V E := by
  refine W_defH rfl (by decide) ?_
  unfold b_pairs_with
  ((with_reducible refine KL.WS_step fun N' kN => ?_); simp! only [startH, List.take, List.drop]; refine kN _ _ ?_; clear kN N')
  ((with_reducible refine KL.WS_step fun N' kN => ?_); simp! only [rgO_nat (show m ≤ 1000000 by omega)])
  refine WS_for (P := fun i ρ S' => S' = S ∧ ∃ ps x y, ρ = [.pl (nv m), .cl 0 [], .ow (ps.map prv), x, y] ∧ Up2 m p i 0 ps) ⟨rfl, [], _, _, rfl, Up2.nil⟩
    (fun low x ρ S4 hx ⟨W4, ps, x1, y1, e, U⟩ => ?_) fun ρ S4 ⟨W4, ps, x1, y1, e, U⟩ => ?_
  · subst e W4
    obtain ⟨hq, rfl⟩ := rangeV_get hx
    have e1 : ∀ S, rgO2 (.int ((low : Int) + 1)) (.int (m : Int)) S = .ok ((List.range' (low + 1) (m - (low + 1))).map nv) S := fun S => rgO2_nat (lo := low + 1) (by omega) (by omega)
    simp! only [e1]
    refine WS_for (P := fun i ρ S' => S' = S4 ∧ ∃ ps x, ρ = [.pl (nv m), .cl 0 [], .ow (ps.map prv), .pl (nv low), x] ∧ Up2 m p low (low + 1 + i) ps) ⟨rfl, ps, _, rfl, U.start⟩
      (fun i x ρ S5 hx ⟨W5, ps, x1, e, U⟩ => ?_) fun ρ S5 ⟨W5, ps, x1, e, U⟩ => ⟨W5, ps, _, _, e, U.row2 (by simp only [List.length_map, List.length_range']; omega)⟩
    subst e W5
    obtain ⟨hi', rfl⟩ := range2V_get hx
    have hi : low + 1 + i < m := by omega
    have hp : ps.length < big := big_lt (by have := U.u.L.len h9; omega)
    have em : ps.map prv ++ [Val.tup [.int (low : Int), .int ((low + 1 + i : Nat) : Int)]] = (ps ++ [(low, low + 1 + i)]).map prv := by rw [List.map_append]; rfl
    have hg' := hg low (low + 1 + i) (by omega) hi
    simp! only [id_eq] at hg' ⊢
    simp! only [cHand, hg']
    cases hb : p low (low + 1 + i) with
    | true =>
      simp! only [em, if_pos hp]
      exact ⟨_, _, rfl, U.add (by omega) hi hb⟩
    | false =>
      simp! only [id_eq]
      exact ⟨_, _, rfl, U.skip hb⟩
  · subst e W4
    refine kN _ _ ?_
    simp! only [id_eq]
    refine k ps U.u.L fun a b => ⟨fun h => ?_, fun ⟨h1, h2, h3⟩ => U.all a b h1 h2 h3 (by simp only [List.length_map, List.length_range]; omega)⟩
    have := U.u.L.ok _ h
    exact ⟨this.1, this.2, U.ok _ h⟩
end
end KG

set_option Elab.async false
set_option linter.all false
set_option maxRecDepth 100000
set_option maxHeartbeats 4000000
/-! heaps -/
namespace KG
open KL
open PySem (Str PyData)
section
variable {V : Val → Store → Prop} {E : Val → Store → Prop} {n : Nat} {S : Store}
theorem is_integer_int (i : Int) : f_is_integer [.int i] S = .ok (.bl true) S := rfl
theorem check_worths {ws : List Int} (h1 : 1 ≤ ws.length) (h9 : ws.length ≤ 9) : f_check_worths [.tup (ws.map .int)] S = .ok .non S := by
  have a1 : (1 : Int) ≤ (ws.length : Int) := by omega
  have a2 : (ws.length : Int) ≤ 9 := by omega
  refine eq_wp (W_def rfl ?_)
  unfold b_check_worths
  ((with_reducible refine KL.WS_step fun N' kN => ?_); simp! only [a1, a2]; refine kN _ _ ?_; clear kN N')
  simp! only [id_eq]
  refine WS_for (P := fun _ ρ S' => S' = S ∧ ∃ x y, ρ = [.pl (.tup (ws.map .int)), x, y]) ⟨rfl, _, _, rfl⟩ (fun i x ρ S' hx ⟨e, a, b, e2⟩ => ?_) fun ρ S' h => h.1
  subst e e2
  obtain ⟨y, h1, rfl⟩ := enum_get hx
  obtain ⟨w, _, rfl⟩ := List.mem_map.mp (List.mem_of_getElem? h1)
  simp! only [is_integer_int]
  exact ⟨_, _, rfl⟩
theorem is_pair_ok {a b m : Nat} (h : a < b) (h2 : b < m) : f_is_pair [prv (a, b), nv m] S = .ok (.bl true) S := by
  have l := lc_all (tg := tgName 2) (e := cCall f_is_integer (cCons (cVar 2) cNil)) (f := nv) (h := fun _ => .bl true) (ρ := [.pl (prv (a, b)), .pl (nv m), .un]) (S := S) [a, b] (big_le (by simp)) fun x _ => ⟨_, rfl, by simp! only [nv, is_integer_int]⟩
  refine eq_wp (W_def rfl ?_)
  unfold b_is_pair
  ((with_reducible refine KL.WS_step fun N' kN => ?_); simp! only [id_eq]; refine kN _ _ ?_; clear kN N')
  simp! only [id_eq] at l ⊢
  rw [l]
  simp! only [h, h2]
theorem check_pairs {m : Nat} {ps : KM.Ln} (L : KM.Links m ps) : f_check_pairs [.tup (ps.map prv), nv m] S = .ok .non S := by
  refine eq_wp (W_def rfl ?_)
  unfold b_check_pairs
  ((with_reducible refine KL.WS_step fun N' kN => ?_); simp! only [id_eq]; refine kN _ _ ?_; clear kN N')
  simp! only [id_eq]
  rw [enum_map]
  refine WS_for (P := fun _ ρ S' => S' = S ∧ ∃ x y, ρ = [.pl (.tup (ps.map prv)), .pl (nv m), x, y]) ⟨rfl, _, _, rfl⟩ (fun i x ρ S' hx ⟨e, a, b, e2⟩ => ?_) fun ρ S' h => h.1
  subst e e2
  rw [List.getElem?_map] at hx
  obtain ⟨⟨⟨a, b⟩, k⟩, h1, rfl⟩ := Option.map_eq_some_iff.mp hx
  rw [List.getElem?_zipIdx] at h1
  obtain ⟨⟨c, d⟩, h2, e⟩ := Option.map_eq_some_iff.mp h1
  cases e
  obtain ⟨hi, h3⟩ := List.getElem?_eq_some_iff.mp h2
  have hab := L.ok (a, b) (h3 ▸ List.getElem_mem hi)
  have ip := is_pair_ok (S := S') hab.1 hab.2
  simp! only [id_eq] at ip ⊢
  rw [ip]
  simp! only [id_eq]
  rcases Nat.eq_zero_or_pos i with h0 | h0
  · subst h0
    simp! only [Int.lt_irrefl, Nat.lt_irrefl]
    exact ⟨_, _, rfl⟩
  · have hi1 : i - 1 < ps.length := by omega
    have hlt := List.pairwise_iff_getElem.mp L.asc (i - 1) i hi1 hi (by omega)
    rw [h3] at hlt
    have h0' : (0 : Int) < (i : Int) := by omega
    have e1 : (i : Int) - 1 = ((i - 1 : Nat) : Int) := by omega
    simp! only [h0', e1]
    rw [ix_tup (xs := ps.map prv) (k := i - 1) (by simpa using hi1)]
    simp! only [List.getElem_map]
    simp! only [show KM.lexB (ps[i - 1].1, ps[i - 1].2) (a, b) from hlt]
    exact ⟨_, _, rfl⟩
theorem reach_end {m t : Nat} {ps : KM.Ln} (ht : t < m) (L : KM.Links m ps) {found : List Nat} (D : KM.Dfs m ps t found []) : KM.srtN found = KM.lotL m ps t := by
  refine KM.srt_uniq ((KM.srtN_perm _).trans (KM.perm_nodup _ _ D.nd KM.lotL_nodup fun x => ?_)) (KM.srtN_pw _) ?_
  · rw [D.end x, KM.mem_lotL]
    exact ⟨fun h => ⟨L.reach ht h, h⟩, fun h => h.2⟩
  · exact KM.lotL_sorted.imp fun h => by omega
theorem lot_of_ok {m t : Nat} {ps : KM.Ln} (ht : t < m) (hm : m ≤ 9) (hp : ps.length ≤ 100) (L : KM.Links m ps) : f_lot_of [nv t, .tup (ps.map prv)] S = .ok (.tup ((KM.lotL m ps t).map nv)) S := by
  refine eq_wp (W_def rfl ?_)
  have big0 : KM.dfsM m ps [] [t] ≤ 1000 := by
    unfold KM.dfsM
    have : m * (ps.length + 1) ≤ 9 * 101 := Nat.mul_le_mul hm (by omega)
    simp only [List.length_nil, List.length_singleton, Nat.sub_zero]
    omega
  unfold b_lot_of
  ((with_reducible refine KL.WS_step fun N' kN => ?_); simp! only [id_eq]; refine kN _ _ ?_; clear kN N')
  refine WS_step fun N' kN => (WS_whl (P := fun k ρ S' => S' = S ∧ ∃ found waiting x y z, ρ = [.pl (nv t), .pl (.tup (ps.map prv)), .ow (found.map nv), .ow (waiting.map nv), x, y, z] ∧ KM.Dfs m ps t found waiting ∧ k = KM.dfsM m ps found waiting ∧ k ≤ 1000)
    _ ⟨rfl, [], [t], _, _, _, rfl, KM.Dfs.init, rfl, big0⟩ (by omega) fun k ρ S' ⟨e, found, waiting, x, y, z, e2, D, e3, hk⟩ => ?_)
  subst e e2 e3
  have hf : found.length < big := big_lt (by have := D.len L ht; omega)
  have hw : waiting.length ≤ big := big_le (by unfold KM.dfsM at hk; omega)
  rcases List.eq_nil_or_concat waiting with rfl | ⟨w, here, rfl⟩
  · simp! only [Int.lt_irrefl, Nat.lt_irrefl]
    refine kN _ _ ?_
    simp! only [sortD_nats, reach_end ht L D]
  · rw [List.concat_eq_append] at *
    have h0 : (0 : Int) < ((w ++ [here]).length : Int) := by simp
    simp! only [h0]
    rw [List.map_append]
    ((with_reducible refine KL.WS_step fun N' kN => ?_); simp! only [ix_last]; refine kN _ _ ?_; clear kN N')
    refine WS_step fun N' kN => ?_
    simp! only [id_eq]
    rw [ixOf_m1 (by simp)]
    have e1 : (List.map nv w ++ [Val.int (here : Int)]).eraseIdx ((List.map nv w ++ [Val.int (here : Int)]).length - 1) = w.map nv := by
      rw [List.eraseIdx_append_of_length_le (by simp)]; simp
    have e2 : (List.map nv w ++ [Val.int (here : Int)]).length ≤ 16777216 := by
      have : big = 16777216 := rfl
      simp at hw ⊢; omega
    simp! only [if_pos e2, e1]
    refine kN _ _ ?_
    clear kN N'
    by_cases hh : here ∈ found
    · simp! only [hh, not_true]
      have hlt : KM.dfsM m ps found w < KM.dfsM m ps found (w ++ [here]) := by unfold KM.dfsM; simp
      exact ⟨_, hlt, found, w, _, _, _, ⟨rfl, D.old hh, rfl, by omega⟩⟩
    · simp! only [hh, not_false_eq_true]
      ((with_reducible refine KL.WS_step fun N' kN => ?_); simp! only [if_pos hf]; refine kN _ _ ?_; clear kN N')
      simp! only [id_eq]
      have hlt := D.less L ht hh
      refine WS_for (P := fun i ρ S2 => S2 = S' ∧ ∃ y z, ρ = [.pl (nv t), .pl (.tup (ps.map prv)), .ow ((found ++ [here]).map nv), .ow ((w ++ KM.nbrs (ps.take i) here).map nv), .pl (nv here), y, z])
        ⟨rfl, y, z, by simp [KM.nbrs, nv]⟩ (fun i x ρ S2 hx ⟨e4, y, z, e5⟩ => ?_) fun ρ S2 ⟨e4, y, z, e5⟩ => ?_
      · subst e4 e5
        rw [List.getElem?_map] at hx
        obtain ⟨⟨a, b⟩, h2, rfl⟩ := Option.map_eq_some_iff.mp hx
        have hab := L.ok (a, b) (List.mem_of_getElem? h2)
        have hl : (w ++ KM.nbrs (ps.take i) here).length < big := big_lt (by
          have : (KM.nbrs (ps.take i) here).length ≤ (ps.take i).length := List.length_filterMap_le ..
          have : (ps.take i).length ≤ ps.length := by rw [List.length_take]; omega
          simp only [List.length_append, List.length_singleton] at hw ⊢
          unfold KM.dfsM at hk
          simp only [List.length_append, List.length_singleton] at hk
          omega)
        have tk : KM.nbrs (ps.take (i + 1)) here = KM.nbrs (ps.take i) here ++ (KM.nbr here (a, b)).toList := by
          unfold KM.nbrs
          rw [List.take_succ, h2, List.filterMap_append]
          rfl
        simp! only [id_eq]
        rw [tk]
        by_cases hin : here ∈ [a, b]
        · simp! only [hin, if_pos hl]
          have : (KM.nbr here (a, b)).toList.map nv = [Val.int ((a : Int) + b - here)] := by
            unfold KM.nbr
            rcases List.mem_cons.mp hin with e | e
            · subst e
              rw [if_pos rfl]
              show [Val.int _] = _
              congr 2; omega
            · have e := List.mem_singleton.mp e
              subst e
              rw [if_neg (by show here ≠ a; simp only at hab; omega), if_pos rfl]
              show [Val.int _] = _
              congr 2; omega
          rw [← List.append_assoc, List.map_append (l₂ := Option.toList _), this]
          exact ⟨_, _, rfl⟩
        · simp! only [hin]
          have : KM.nbr here (a, b) = none := by
            unfold KM.nbr
            rw [if_neg (fun e => hin (by simp [e])), if_neg (fun e => hin (by simp [e]))]
          rw [this, Option.toList_none, List.append_nil]
          exact ⟨_, _, rfl⟩
      · subst e4 e5
        rw [List.length_map, List.take_length]
        simp! only [id_eq]
        exact ⟨_, hlt, _, _, _, _, _, ⟨rfl, D.new L hh, rfl, by omega⟩⟩
/-- the lots, the lot with the least thing first -/
noncomputable def lots (m : Nat) (ps : KM.Ln) : List (List Nat) := ((List.range m).filter fun t => decide ((KM.lotL m ps t).head? = some t)).map (KM.lotL m ps)
noncomputable def passes (m : Nat) (ps : KM.Ln) : Bool := decide (((lots m ps).map fun l => l.length * (l.length - 1) / 2).sum = ps.length)
noncomputable def heapV (ws : List Int) (ps : KM.Ln) : Val :=
  .obj 0 [.tup (ws.map .int), .tup (ps.map prv), .tup ((List.range ws.length).map fun t => .tup ((KM.lotL ws.length ps t).map nv)), .tup ((lots ws.length ps).map fun l => .tup (l.map nv)), .bl (passes ws.length ps)]
theorem heap_ok {ws : List Int} {ps : KM.Ln} (h1 : 1 ≤ ws.length) (h9 : ws.length ≤ 9) (hp : ps.length ≤ 100) (L : KM.Links ws.length ps) : f_Heap [.tup (ws.map .int), .tup (ps.map prv)] S = .ok (heapV ws ps) S := by
  have cp := check_pairs (S := S) L
  refine eq_wp ?_
  unfold f_Heap mkF
  refine W_bind (W_init rfl ?_)
  unfold b_Heap___init__
  simp! only [id_eq] at cp ⊢
  ((with_reducible refine KL.WS_step fun N' kN => ?_); simp! only [check_worths h1 h9]; refine kN _ _ ?_; clear kN N')
  ((with_reducible refine KL.WS_step fun N' kN => ?_); simp! only [cp]; refine kN _ _ ?_; clear kN N')
  ((with_reducible refine KL.WS_step fun N' kN => ?_); simp! only [id_eq]; refine kN _ _ ?_; clear kN N')
  ((with_reducible refine KL.WS_step fun N' kN => ?_); simp! only [id_eq]; refine kN _ _ ?_; clear kN N')
  have hr : ws.length ≤ 1000000 := by omega
  have hb : (List.range ws.length).length ≤ big := big_le (by rw [List.length_range]; omega)
  ((with_reducible refine KL.WS_step fun N' kN => ?_); simp! only [rgO_nat hr])
  refine W_stm (W_lcA (fun t => .tup ((KM.lotL ws.length ps t).map nv)) hb (fun t ht => ⟨_, rfl, ?_⟩) ?_)
  · have lo := lot_of_ok (S := S) (List.mem_range.mp ht) h9 hp L
    simp! only [id_eq] at lo ⊢; exact lo
  simp! only [id_eq]
  (refine kN _ _ ?_; clear kN N')
  ((with_reducible refine KL.WS_step fun N' kN => ?_); simp! only [id_eq])
  rw [enum_rng0]
  refine W_stm (W_lcF (fun t => decide ((KM.lotL ws.length ps t).head? = some t)) (fun t => .tup ((KM.lotL ws.length ps t).map nv)) hb (fun t ht => ⟨_, rfl, ?_, fun _ => ?_⟩) ?_)
  · have hs := KM.lotL_self (ps := ps) (List.mem_range.mp ht)
    cases hl : KM.lotL ws.length ps t with
    | nil => rw [hl] at hs; cases hs
    | cons u us =>
      simp! only [List.head?_cons, Option.some.injEq]
  · simp! only [id_eq]
  simp! only [id_eq]
  (refine kN _ _ ?_; clear kN N')
  simp! only [id_eq]
  refine W_stm (W_lcA (fun t => .int (((KM.lotL ws.length ps t).length * ((KM.lotL ws.length ps t).length - 1) / 2 : Nat) : Int)) (Nat.le_trans (List.length_filter_le ..) hb) (fun t ht => ⟨_, rfl, ?_⟩) ?_)
  · have hl : (KM.lotL ws.length ps t).length ≤ 9 := Nat.le_trans (KM.nodup_le ws.length _ KM.lotL_nodup fun x hx => (KM.mem_lotL.mp hx).1) h9
    have hs := KM.lotL_self (ps := ps) (List.mem_range.mp (List.mem_filter.mp ht).1)
    have hp : 1 ≤ (KM.lotL ws.length ps t).length := List.length_pos_of_mem hs
    simp! only [mul_nat (Nat.le_trans hl (by decide : 9 ≤ 1000000))]
    congr 2
    rw [show ((KM.lotL ws.length ps t).length : Int) - 1 = (((KM.lotL ws.length ps t).length - 1 : Nat) : Int) by omega, ← Int.natCast_mul]
    rfl
  · rw [show (fun t => Val.int (((KM.lotL ws.length ps t).length * ((KM.lotL ws.length ps t).length - 1) / 2 : Nat) : Int)) = nv ∘ fun t => (KM.lotL ws.length ps t).length * ((KM.lotL ws.length ps t).length - 1) / 2 from rfl, ← List.map_map]
    simp! only [ints_nats]
    refine ⟨_, rfl, rfl, ?_⟩
    rw [sum_nat]
    unfold heapV passes lots
    rw [List.map_map, List.map_map]
    congr 7
    refine decide_eq_decide.mpr ?_
    rw [Int.natCast_inj]
    exact Iff.rfl
/-! a heap's methods -/
section
variable (S : Store) (ws : List Int) (ps : KM.Ln)
theorem hv0 : fldOf S 0 0 (heapV ws ps) = some (.tup (ws.map .int)) := rfl
theorem hv1 : fldOf S 0 1 (heapV ws ps) = some (.tup (ps.map prv)) := rfl
theorem hv2 : fldOf S 0 2 (heapV ws ps) = some (.tup ((List.range ws.length).map fun t => .tup ((KM.lotL ws.length ps t).map nv))) := rfl
theorem hv3 : fldOf S 0 3 (heapV ws ps) = some (.tup ((lots ws.length ps).map fun l => .tup (l.map nv))) := rfl
theorem hv4 : fldOf S 0 4 (heapV ws ps) = some (.bl (passes ws.length ps)) := rfl
theorem hvT : tyOf (heapV ws ps) = none := rfl
theorem hvC : clsOf S (heapV ws ps) = some 0 := rfl
theorem hvI : isOf S 0 (heapV ws ps) = true := rfl
theorem hvD : dr S (heapV ws ps) = heapV ws ps := rfl
end
theorem Links_small {m : Nat} {ps : KM.Ln} (L : KM.Links m ps) (h : m ≤ 9) : ∀ p, p ∈ ps → p.1 ≤ 1000000 ∧ p.2 ≤ 1000000 := fun p hp => by have := L.ok p hp; omega
end
end KG

set_option linter.all false
set_option maxHeartbeats 1000000
/-! KMa4: lots found by sweeps. -/
namespace KM
def swA (f : List Nat) (p : Nat × Nat) : List Nat := if p.1 ∈ f ∧ p.2 ∉ f then f ++ [p.2] else f
def swB (f : List Nat) (p : Nat × Nat) : List Nat := if p.2 ∈ f ∧ p.1 ∉ f then f ++ [p.1] else f
def sw1 (f : List Nat) (p : Nat × Nat) : List Nat := swB (swA f p) p
def sweep (ps : Ln) (f : List Nat) : List Nat := ps.foldl sw1 f
def sweeps (ps : Ln) (t : Nat) : Nat → List Nat
  | 0 => [t]
  | k + 1 => sweep ps (sweeps ps t k)
theorem sw1_pre (f : List Nat) (p : Nat × Nat) : ∃ e, sw1 f p = f ++ e := by
  unfold sw1 swA
  split <;> unfold swB <;> split
  · exact ⟨[p.2] ++ [p.1], by simp⟩
  · exact ⟨[p.2], rfl⟩
  · exact ⟨[p.1], rfl⟩
  · exact ⟨[], by simp⟩
theorem sweep_pre (ps : Ln) : ∀ f : List Nat, ∃ e, sweep ps f = f ++ e := by
  induction ps with
  | nil => exact fun f => ⟨[], by simp [sweep]⟩
  | cons p ps ih =>
    intro f
    obtain ⟨e1, h1⟩ := sw1_pre f p
    obtain ⟨e2, h2⟩ := ih (sw1 f p)
    exact ⟨e1 ++ e2, by show sweep ps (sw1 f p) = _; rw [h2, h1, List.append_assoc]⟩
theorem sw1_same {f : List Nat} {p : Nat × Nat} (h : sw1 f p = f) : p.1 ∈ f ↔ p.2 ∈ f := by
  unfold sw1 swB swA at h
  by_cases h1 : p.1 ∈ f <;> by_cases h2 : p.2 ∈ f <;> simp [h1, h2] at h ⊢
  all_goals (split at h <;> simp at h)
theorem sweep_same : ∀ {ps : Ln} {f : List Nat}, sweep ps f = f → ∀ p, p ∈ ps → (p.1 ∈ f ↔ p.2 ∈ f)
  | [], f, _, p, hp => absurd hp List.not_mem_nil
  | q :: ps, f, h, p, hp => by
    obtain ⟨e1, h1⟩ := sw1_pre f q
    obtain ⟨e2, h2⟩ := sweep_pre ps (sw1 f q)
    have h' : sweep ps (sw1 f q) = f := h
    have z : e1 = [] := by
      rw [h2, h1, List.append_assoc] at h'
      have := List.self_eq_append_right.mp h'.symm
      exact (List.append_eq_nil_iff.mp this).1
    rw [z, List.append_nil] at h1
    rw [h1] at h'
    rcases List.mem_cons.mp hp with e | e
    · rw [e]; exact sw1_same h1
    · exact sweep_same h' p e
theorem sw1_closed {f : List Nat} {p : Nat × Nat} (h : p.1 ∈ f ↔ p.2 ∈ f) : sw1 f p = f := by
  unfold sw1 swB swA
  by_cases h1 : p.1 ∈ f
  · have := h.mp h1; simp [h1, this]
  · have : p.2 ∉ f := fun z => h1 (h.mpr z)
    simp [h1, this]
theorem sweep_closed : ∀ {ps : Ln} {f : List Nat}, (∀ p, p ∈ ps → (p.1 ∈ f ↔ p.2 ∈ f)) → sweep ps f = f
  | [], _, _ => rfl
  | q :: ps, f, h => by
    show sweep ps (sw1 f q) = f
    rw [sw1_closed (h q List.mem_cons_self)]
    exact sweep_closed fun p hp => h p (List.mem_cons_of_mem _ hp)
structure Swp (ps : Ln) (t : Nat) (f : List Nat) : Prop where
  nd : f.Nodup
  st : t ∈ f
  rc : ∀ x, x ∈ f → Reach ps t x
theorem Swp.add {ps : Ln} {t x : Nat} {f : List Nat} (h : Swp ps t f) (hx : x ∉ f) (hr : Reach ps t x) : Swp ps t (f ++ [x]) where
  nd := by
    rw [List.nodup_append]
    exact ⟨h.nd, by simp, fun a ha b hb e => by rw [List.mem_singleton.mp hb] at e; exact hx (e ▸ ha)⟩
  st := List.mem_append_left _ h.st
  rc := fun y hy => by
    rcases List.mem_append.mp hy with z | z
    · exact h.rc y z
    · rw [List.mem_singleton.mp z]; exact hr
theorem Swp.sw1 {ps : Ln} {t : Nat} {f : List Nat} {p : Nat × Nat} (h : Swp ps t f) (hp : p ∈ ps) : Swp ps t (KM.sw1 f p) := by
  have key : ∀ g : List Nat, Swp ps t g → Swp ps t (swB g p) := fun g hg => by
    unfold swB
    split
    · rename_i c; exact hg.add c.2 (.step (hg.rc _ c.1) (.inr hp))
    · exact hg
  refine key _ ?_
  unfold swA
  split
  · rename_i c; exact h.add c.2 (.step (h.rc _ c.1) (.inl hp))
  · exact h
theorem Swp.sweep {ps qs : Ln} {t : Nat} : ∀ {f : List Nat}, Swp ps t f → (∀ p, p ∈ qs → p ∈ ps) → Swp ps t (KM.sweep qs f) := by
  induction qs with
  | nil => exact fun h _ => h
  | cons p qs ih => exact fun h hq => ih (h.sw1 (hq p List.mem_cons_self)) fun q hq' => hq q (List.mem_cons_of_mem _ hq')
theorem sweeps_swp (ps : Ln) (t : Nat) : ∀ k, Swp ps t (sweeps ps t k)
  | 0 => ⟨by simp [sweeps], by simp [sweeps], fun x h => by rw [List.mem_singleton.mp h]; exact .refl⟩
  | k + 1 => (sweeps_swp ps t k).sweep fun _ h => h
theorem sweeps_grow (ps : Ln) (t : Nat) : ∀ k, (∀ p, p ∈ ps → (p.1 ∈ sweeps ps t k ↔ p.2 ∈ sweeps ps t k)) ∨ k + 1 ≤ (sweeps ps t k).length
  | 0 => .inr (by simp [sweeps])
  | k + 1 => by
    rcases sweeps_grow ps t k with h | h
    · left
      show ∀ p, p ∈ ps → (p.1 ∈ sweep ps (sweeps ps t k) ↔ p.2 ∈ sweep ps (sweeps ps t k))
      rw [sweep_closed h]; exact h
    · obtain ⟨e, he⟩ := sweep_pre ps (sweeps ps t k)
      cases e with
      | nil =>
        rw [List.append_nil] at he
        left
        show ∀ p, p ∈ ps → (p.1 ∈ sweep ps (sweeps ps t k) ↔ p.2 ∈ sweep ps (sweeps ps t k))
        rw [he]; exact sweep_same he
      | cons x e =>
        right
        show k + 1 + 1 ≤ (sweep ps (sweeps ps t k)).length
        rw [he, List.length_append, List.length_cons]; omega
/-- nine sweeps are enough for nine things -/
theorem sweeps_end {n : Nat} {ps : Ln} (L : Links n ps) (h9 : n ≤ 9) {t : Nat} (ht : t < n) (x : Nat) : x ∈ sweeps ps t 9 ↔ Reach ps t x := by
  have S := sweeps_swp ps t 9
  refine ⟨S.rc x, fun r => ?_⟩
  have cl : ∀ p, p ∈ ps → (p.1 ∈ sweeps ps t 9 ↔ p.2 ∈ sweeps ps t 9) := by
    rcases sweeps_grow ps t 9 with h | h
    · exact h
    · have := nodup_le n _ S.nd fun y hy => L.reach ht (S.rc y hy)
      omega
  induction r with
  | refl => exact S.st
  | step _ q ih =>
    rcases q with q | q
    · exact (cl _ q).mp ih
    · exact (cl _ q).mpr ih
theorem sweeps_len {n : Nat} {ps : Ln} (L : Links n ps) {t : Nat} (ht : t < n) (k : Nat) : (sweeps ps t k).length ≤ n :=
  nodup_le n _ (sweeps_swp ps t k).nd fun y hy => L.reach ht ((sweeps_swp ps t k).rc y hy)
end KM

set_option linter.all false
set_option maxHeartbeats 1000000
/-! KMa5: what is kept is never nothing; all different ones of a list. -/
namespace KM
section
variable {v : Nat → Int} {nr lot : Nat → Nat → Bool} {top : Nat → Bool}
theorem lw_ne {w : Wy} (o : List Nat) (h : w ≠ .lots ∧ o ≠ [] ∨ ∃ t, t ∈ o ∧ top t = true) : (o.foldl (lwF v nr lot top w) ([], [])).2 ≠ [] := by
  revert h
  refine snoc_ind (P := fun o => (w ≠ .lots ∧ o ≠ [] ∨ ∃ t, t ∈ o ∧ top t = true) → (o.foldl (lwF v nr lot top w) ([], [])).2 ≠ []) ?_ (fun o t ih h => ?_) o
  · rintro (⟨_, h⟩ | ⟨t, h, _⟩)
    · exact absurd rfl h
    · cases h
  · rw [List.foldl_append]
    show (lwF v nr lot top w _ t).2 ≠ []
    have hs := lw_fst (v := v) (nr := nr) (lot := lot) (top := top) w o
    generalize hg : o.foldl (lwF v nr lot top w) ([], []) = s at *
    unfold lwF
    simp only
    split
    · rename_i hgo
      by_cases ho : o = []
      · subst ho
        have e : s = ([], []) := hg.symm
        subst e
        rcases h with ⟨h1, _⟩ | ⟨u, hu, ht⟩
        · cases w <;> simp [goesW] at hgo
          exact absurd rfl h1
        · have : u = t := by simpa using hu
          subst this
          cases w <;> simp [goesW, ht] at hgo
      · rcases h with ⟨h1, _⟩ | ⟨u, hu, ht⟩
        · exact ih (.inl ⟨h1, ho⟩)
        · rcases List.mem_append.mp hu with z | z
          · exact ih (.inr ⟨u, z, ht⟩)
          · have : u = t := List.mem_singleton.mp z
            subst this
            by_cases hw : w = .lots
            · subst hw
              simp [goesW, ht] at hgo
              obtain ⟨x, hx, _⟩ := hgo
              exact List.ne_nil_of_mem hx
            · exact ih (.inl ⟨hw, ho⟩)
    · simp
end
/-- all that are different, in their order -/
def ddp (L : List (List Nat)) : List (List Nat) := L.foldl (fun f e => if e ∉ f then f ++ [e] else f) []
theorem ddp_step {L : List (List Nat)} {i : Nat} {e : List Nat} (h : L[i]? = some e) : ddp (L.take (i + 1)) = if e ∉ ddp (L.take i) then ddp (L.take i) ++ [e] else ddp (L.take i) := by
  unfold ddp
  rw [List.take_add_one, h, List.foldl_append]; rfl
theorem ddp_snoc (L : List (List Nat)) (e : List Nat) : ddp (L ++ [e]) = if e ∉ ddp L then ddp L ++ [e] else ddp L := by
  unfold ddp
  rw [List.foldl_append]; rfl
theorem mem_ddp (L : List (List Nat)) : ∀ x, x ∈ ddp L ↔ x ∈ L := by
  refine snoc_ind (P := fun L => ∀ x, x ∈ ddp L ↔ x ∈ L) (by simp [ddp]) (fun L e ih => ?_) L
  intro x
  rw [ddp_snoc, List.mem_append, ← ih x]
  split
  · rw [List.mem_append]
  · rename_i h
    have h : e ∈ ddp L := Classical.not_not.mp h
    constructor
    · exact .inl
    · rintro (z | z)
      · exact z
      · rw [List.mem_singleton.mp z]; exact h
theorem ddp_nd (L : List (List Nat)) : (ddp L).Nodup := by
  refine snoc_ind (P := fun L => (ddp L).Nodup) (by simp [ddp]) (fun L e ih => ?_) L
  rw [ddp_snoc]
  split
  · rename_i h
    rw [List.nodup_append]
    exact ⟨ih, by simp, fun a ha b hb z => by rw [List.mem_singleton.mp hb] at z; exact h (z ▸ ha)⟩
  · exact ih
theorem ddp_len (L : List (List Nat)) : (ddp L).length ≤ L.length := by
  refine snoc_ind (P := fun L => (ddp L).length ≤ L.length) (by simp [ddp]) (fun L e ih => ?_) L
  rw [ddp_snoc]
  split <;> simp <;> omega
end KM

set_option linter.all false
set_option Elab.async false
/-! KMa8: lots in their order; when all things of each lot are near; pairs of a part. -/
namespace KM
section
variable {n : Nat} {ps : Ln}
theorem lotL_eq {s t : Nat} (h : Reach ps s t) : lotL n ps s = lotL n ps t := lt_uniq lotL_sorted lotL_sorted fun x => by
  rw [mem_lotL, mem_lotL]
  exact ⟨fun ⟨a, b⟩ => ⟨a, h.symm.trans b⟩, fun ⟨a, b⟩ => ⟨a, h.trans b⟩⟩
theorem head_le : ∀ {l : List Nat} {h x : Nat}, l.Pairwise (· < ·) → l.head? = some h → x ∈ l → h ≤ x
  | y :: l, h, x, p, e, hx => by
    cases e
    rcases List.mem_cons.mp hx with e | hx
    · omega
    · exact Nat.le_of_lt (List.rel_of_pairwise_cons p hx)
theorem head_mem {l : List Nat} {h : Nat} (e : l.head? = some h) : h ∈ l := List.mem_of_mem_head? (by rw [e]; rfl)
theorem head_new {k : Nat} (hk : k < n) : (lotL n ps k).head? = some k ↔ ¬ ∃ s, s < k ∧ lotL n ps s = lotL n ps k := by
  have self := lotL_self (n := n) (ps := ps) hk
  constructor
  · rintro e ⟨s, hs, he⟩
    have : s ∈ lotL n ps k := he ▸ lotL_self (by omega)
    have := head_le lotL_sorted e this
    omega
  · intro h
    cases e : (lotL n ps k).head? with
    | none => rw [List.head?_eq_none_iff] at e; rw [e] at self; cases self
    | some y =>
      have hm := head_mem e
      have hle := head_le lotL_sorted e self
      rcases Nat.lt_or_eq_of_le hle with lt | e2
      · exact absurd ⟨y, lt, lotL_eq (mem_lotL.mp hm).2.symm⟩ h
      · rw [e2]
/-- the lots, the lot with the least thing first -/
noncomputable def lotsL (n : Nat) (ps : Ln) : List (List Nat) := ((List.range n).filter fun t => decide ((lotL n ps t).head? = some t)).map (lotL n ps)
theorem ddp_lots : ∀ k, k ≤ n → ddp ((List.range k).map (lotL n ps)) = ((List.range k).filter fun t => decide ((lotL n ps t).head? = some t)).map (lotL n ps)
  | 0, _ => rfl
  | k + 1, h => by
    have ih := ddp_lots k (by omega)
    rw [List.range_succ, List.map_append, List.map_cons, List.map_nil, ddp_snoc, List.filter_append, List.map_append]
    have iff := head_new (ps := ps) (show k < n by omega)
    have mem : lotL n ps k ∈ ddp ((List.range k).map (lotL n ps)) ↔ ∃ s, s < k ∧ lotL n ps s = lotL n ps k := by
      rw [mem_ddp, List.mem_map]
      exact ⟨fun ⟨s, a, b⟩ => ⟨s, List.mem_range.mp a, b⟩, fun ⟨s, a, b⟩ => ⟨s, List.mem_range.mpr a, b⟩⟩
    by_cases q : (lotL n ps k).head? = some k
    · rw [if_pos (fun z => iff.mp q (mem.mp z)), ih, List.filter_cons_of_pos (by simpa using q)]
      simp
    · have hn : ¬ ¬ ∃ s, s < k ∧ lotL n ps s = lotL n ps k := fun z => q (iff.mpr z)
      rw [if_neg (fun z => hn fun w => z (mem.mpr w)), ih, List.filter_cons_of_neg (by simpa using q)]
      simp
/-- all pairs of a list, in its order -/
def prs : List Nat → List (Nat × Nat)
  | [] => []
  | x :: xs => xs.map (fun y => (x, y)) ++ prs xs
theorem prs_len : ∀ l : List Nat, (prs l).length * 2 = l.length * (l.length - 1)
  | [] => rfl
  | x :: xs => by
    have ih := prs_len xs
    simp only [prs, List.length_append, List.length_map, List.length_cons, Nat.add_sub_cancel, Nat.add_mul]
    rw [ih]
    cases h : xs.length with
    | zero => simp
    | succ m =>
      simp only [Nat.add_sub_cancel, Nat.succ_mul, Nat.mul_succ]
      omega
theorem prs_len2 (l : List Nat) : l.length * (l.length - 1) / 2 = (prs l).length := by
  have := prs_len l
  omega
theorem mem_prs : ∀ {l : List Nat} {a b : Nat}, l.Pairwise (· < ·) → ((a, b) ∈ prs l ↔ a ∈ l ∧ b ∈ l ∧ a < b)
  | [], a, b, _ => by simp [prs]
  | x :: xs, a, b, p => by
    have p2 := (List.pairwise_cons.mp p)
    have ih := mem_prs (a := a) (b := b) p2.2
    simp only [prs, List.mem_append, List.mem_map, Prod.mk.injEq, List.mem_cons, ih]
    constructor
    · rintro (⟨y, hy, rfl, rfl⟩ | ⟨h1, h2, h3⟩)
      · exact ⟨.inl rfl, .inr hy, p2.1 _ hy⟩
      · exact ⟨.inr h1, .inr h2, h3⟩
    · rintro ⟨h1 | h1, h2 | h2, h3⟩
      · omega
      · exact .inl ⟨b, h2, h1.symm, rfl⟩
      · have := p2.1 _ h1; omega
      · exact .inr ⟨h1, h2, h3⟩
theorem prs_nodup : ∀ {l : List Nat}, l.Pairwise (· < ·) → (prs l).Nodup
  | [], _ => .nil
  | x :: xs, p => by
    have p2 := (List.pairwise_cons.mp p)
    refine List.nodup_append.mpr ⟨?_, prs_nodup p2.2, ?_⟩
    · exact List.Pairwise.map _ (fun a b h => by intro z; cases z; exact h rfl) (lt_nodup p2.2)
    · rintro q hq r hr rfl
      obtain ⟨y, hy, rfl⟩ := List.mem_map.mp hq
      have h1 := ((mem_prs p2.2).mp hr).1
      have := p2.1 _ h1
      omega
theorem sub_len {α : Type} [DecidableEq α] : ∀ {l m : List α}, l.Nodup → (∀ x, x ∈ l → x ∈ m) → l.length ≤ m.length
  | [], _, _, _ => Nat.zero_le _
  | x :: xs, m, nd, h => by
    have nd2 := List.nodup_cons.mp nd
    have ih := sub_len (m := m.erase x) nd2.2 fun y hy => (List.mem_erase_of_ne (fun e : y = x => nd2.1 (by rw [← e]; exact hy))).mpr (h y (List.mem_cons_of_mem _ hy))
    have hx := h x List.mem_cons_self
    have := List.length_erase_of_mem hx
    have := List.length_pos_of_mem hx
    simp only [List.length_cons]
    omega
theorem sub_all {α : Type} [DecidableEq α] {l m : List α} (nd : l.Nodup) (h : ∀ x, x ∈ l → x ∈ m) (hl : m.length ≤ l.length) : ∀ x, x ∈ m → x ∈ l := fun x hx => by
  by_cases q : x ∈ l
  · exact q
  · have := sub_len (m := m.erase x) nd fun y hy => (List.mem_erase_of_ne (fun e : y = x => q (by rw [← e]; exact hy))).mpr (h y hy)
    have := List.length_erase_of_mem hx
    have := List.length_pos_of_mem hx
    omega
theorem links_nodup (L : Links n ps) : ps.Nodup := L.asc.imp fun h e => by unfold lexB at h; rw [e] at h; omega
theorem mem_lots {l : List Nat} : l ∈ lotsL n ps ↔ ∃ t, t < n ∧ (lotL n ps t).head? = some t ∧ lotL n ps t = l := by
  unfold lotsL
  rw [List.mem_map]
  constructor
  · rintro ⟨t, h, e⟩
    rw [List.mem_filter, List.mem_range, decide_eq_true_eq] at h
    exact ⟨t, h.1, h.2, e⟩
  · rintro ⟨t, h1, h2, e⟩
    exact ⟨t, List.mem_filter.mpr ⟨List.mem_range.mpr h1, by simpa using h2⟩, e⟩
theorem lot_there {t : Nat} (ht : t < n) : lotL n ps t ∈ lotsL n ps := by
  have self := lotL_self (n := n) (ps := ps) ht
  cases e : (lotL n ps t).head? with
  | none => rw [List.head?_eq_none_iff] at e; rw [e] at self; cases self
  | some y =>
    have hm := mem_lotL.mp (head_mem e)
    have ey := lotL_eq (n := n) hm.2
    exact mem_lots.mpr ⟨y, hm.1, by rw [← ey]; exact e, ey.symm⟩
theorem lots_disj {l m : List Nat} (hl : l ∈ lotsL n ps) (hm : m ∈ lotsL n ps) {x : Nat} (h1 : x ∈ l) (h2 : x ∈ m) : l = m := by
  obtain ⟨s, _, _, rfl⟩ := mem_lots.mp hl
  obtain ⟨t, _, _, rfl⟩ := mem_lots.mp hm
  exact lotL_eq ((mem_lotL.mp h1).2.trans (mem_lotL.mp h2).2.symm)
theorem lots_sorted {l : List Nat} (hl : l ∈ lotsL n ps) : l.Pairwise (· < ·) := by
  obtain ⟨s, _, _, rfl⟩ := mem_lots.mp hl
  exact lotL_sorted
theorem lots_nodup : (lotsL n ps).Nodup := by
  unfold lotsL
  have nd : ((List.range n).filter fun t => decide ((lotL n ps t).head? = some t)).Nodup := List.Pairwise.filter _ List.nodup_range
  refine (List.pairwise_map.mpr ?_)
  refine List.Pairwise.imp_of_mem ?_ nd
  intro a b ha hb ne e
  rw [List.mem_filter, decide_eq_true_eq] at ha hb
  have h1 := ha.2
  rw [e, hb.2] at h1
  cases h1
  exact ne rfl
/-- all pairs within lots -/
noncomputable def allP (n : Nat) (ps : Ln) : List (Nat × Nat) := (lotsL n ps).flatMap prs
theorem mem_allP {a b : Nat} : (a, b) ∈ allP n ps ↔ ∃ l, l ∈ lotsL n ps ∧ a ∈ l ∧ b ∈ l ∧ a < b := by
  unfold allP
  rw [List.mem_flatMap]
  exact ⟨fun ⟨l, h1, h2⟩ => ⟨l, h1, (mem_prs (lots_sorted h1)).mp h2⟩, fun ⟨l, h1, h2⟩ => ⟨l, h1, (mem_prs (lots_sorted h1)).mpr h2⟩⟩
theorem flat_nodup : ∀ {ls : List (List Nat)}, ls.Nodup → (∀ l, l ∈ ls → l.Pairwise (· < ·)) → (∀ l m x, l ∈ ls → m ∈ ls → x ∈ l → x ∈ m → l = m) → (ls.flatMap prs).Nodup
  | [], _, _, _ => .nil
  | l :: ls, nd, hs, hd => by
    have nd2 := List.nodup_cons.mp nd
    rw [List.flatMap_cons]
    refine List.nodup_append.mpr ⟨prs_nodup (hs l List.mem_cons_self), flat_nodup nd2.2 (fun m hm => hs m (List.mem_cons_of_mem _ hm)) fun a b x ha hb => hd a b x (List.mem_cons_of_mem _ ha) (List.mem_cons_of_mem _ hb), ?_⟩
    rintro ⟨a, b⟩ h1 q h2 rfl
    obtain ⟨m, hm, h3⟩ := List.mem_flatMap.mp h2
    have m1 := ((mem_prs (hs l List.mem_cons_self)).mp h1).1
    have m2 := ((mem_prs (hs m (List.mem_cons_of_mem _ hm))).mp h3).1
    have e := hd l m a List.mem_cons_self (List.mem_cons_of_mem _ hm) m1 m2
    exact nd2.1 (e ▸ hm)
theorem allP_nodup : (allP n ps).Nodup := flat_nodup lots_nodup (fun l h => lots_sorted h) fun l m x h1 h2 h3 h4 => lots_disj h1 h2 h3 h4
theorem sub_allP (L : Links n ps) : ∀ p, p ∈ ps → p ∈ allP n ps := fun ⟨a, b⟩ h => by
  have ok := L.ok _ h
  have ha : a < n := Nat.lt_trans ok.1 ok.2
  exact mem_allP.mpr ⟨_, lot_there ha, lotL_self ha, mem_lotL.mpr ⟨ok.2, Reach.step .refl (Or.inl h)⟩, ok.1⟩
theorem sum_allP : ((lotsL n ps).map fun l => l.length * (l.length - 1) / 2).sum = (allP n ps).length := by
  unfold allP
  rw [List.length_flatMap]
  congr 1
  exact List.map_congr_left fun l _ => prs_len2 l
/-- the counts agree exactly if all things of each lot are near one another -/
theorem passes_iff (L : Links n ps) : ((lotsL n ps).map fun l => l.length * (l.length - 1) / 2).sum = ps.length ↔ ∀ l, l ∈ lotsL n ps → ∀ a, a ∈ l → ∀ b, b ∈ l → a = b ∨ near ps a b := by
  rw [sum_allP]
  constructor
  · intro h l hl a ha b hb
    have all := sub_all (links_nodup L) (sub_allP L) (by omega)
    rcases Nat.lt_trichotomy a b with lt | e | lt
    · exact .inr (.inl (all _ (mem_allP.mpr ⟨l, hl, ha, hb, lt⟩)))
    · exact .inl e
    · exact .inr (.inr (all _ (mem_allP.mpr ⟨l, hl, hb, ha, lt⟩)))
  · intro h
    refine (perm_nodup _ _ allP_nodup (links_nodup L) fun ⟨a, b⟩ => ⟨fun z => ?_, sub_allP L _⟩).length_eq
    obtain ⟨l, hl, ha, hb, lt⟩ := mem_allP.mp z
    rcases h l hl a ha b hb with e | e | e
    · omega
    · exact e
    · have := L.ok _ e
      simp only at this
      omega
/-- two strictly ascending lists of pairs with the same members -/
theorem lex_uniq {l m : Ln} (h1 : l.Pairwise lexB) (h2 : m.Pairwise lexB) (h : ∀ x, x ∈ l ↔ x ∈ m) : l = m := by
  have nd : ∀ {l : Ln}, l.Pairwise lexB → l.Nodup := fun h => h.imp fun h e => by unfold lexB at h; rw [e] at h; omega
  refine List.Perm.eq_of_pairwise (le := fun p q => lexB p q) (fun a b _ _ x y => ?_) h1 h2 (perm_nodup _ _ (nd h1) (nd h2) h)
  unfold lexB at x y
  omega
/-- the places of a list of ascending things -/
theorem idx_mono {s : List Nat} (hs : s.Pairwise (· < ·)) {a b : Nat} (ha : a ∈ s) (hb : b ∈ s) : s.idxOf a < s.idxOf b ↔ a < b := by
  have h1 := List.idxOf_lt_length_of_mem ha
  have h2 := List.idxOf_lt_length_of_mem hb
  have e1 := List.getElem_idxOf h1
  have e2 := List.getElem_idxOf h2
  have pw := List.pairwise_iff_getElem.mp hs
  constructor
  · intro h
    have := pw _ _ h1 h2 h
    omega
  · intro h
    rcases Nat.lt_trichotomy (s.idxOf a) (s.idxOf b) with q | q | q
    · exact q
    · have : s[s.idxOf a] = s[s.idxOf b] := by simp only [q]
      omega
    · have := pw _ _ h2 h1 q
      omega
end
end KM

set_option Elab.async false
set_option linter.all false
set_option maxRecDepth 100000
set_option maxHeartbeats 4000000
/-! k03: lines and words -/
namespace KG
open KL
open PySem (Str PyData)
section
variable {V : Val → Store → Prop} {E : Val → Store → Prop} {n : Nat} {S : Store}
/-! texts -/
def sg (c : Nat) : Str := ⟨#[c]⟩
theorem any_sign {s : Str} (W : Well n S) (h0 : 0 < s.length) (h1 : s.length ≤ 1000000) (k : ∀ c S', Well n S' → V (.str (sg c)) S') : wpE (f__law_any_of [.ref n, .str s] S) V E := by
  have hb : s.length ≤ 16777216 := by omega
  refine W_def rfl ?_
  unfold b__law_any_of
  simp! only [if_pos hb]
  refine W_stm (scoop W (by omega) (by omega) fun d S2 d0 d1 W2 => ?_)
  obtain ⟨i, rfl⟩ : ∃ i : Nat, d = (i : Int) := ⟨d.toNat, by omega⟩
  have hi : i < s.cps.toList.length := by
    have : s.length = s.cps.size := rfl
    rw [Array.length_toList]; omega
  have ix : opIx (.str s) (.int (i : Int)) = some (.str (sg s.cps.toList[i])) := by
    unfold opIx
    dsimp only
    rw [if_pos (big_le h1), ixOf_nat hi]
    simp only [Option.bind_some]
    rw [List.getElem?_eq_getElem hi]
    rfl
  simp! only [ix]
  exact k _ _ W2
theorem join_len : ∀ cs : List Nat, (Str.join "" (cs.map sg)).length = cs.length
  | [] => rfl
  | [c] => rfl
  | c :: d :: cs => by
    show (sg c ++ ("" : Str) ++ Str.join "" ((d :: cs).map sg)).length = _
    have h := join_len (d :: cs)
    have e : ∀ a b : Str, (a ++ b).length = a.length + b.length := fun a b => Array.size_append
    rw [e, e, h]
    show 1 + 0 + (cs.length + 1) = cs.length + 1 + 1
    omega
theorem allStr_map : ∀ cs : List Str, allStr (cs.map .str) = some cs
  | [] => rfl
  | c :: cs => by
    show (allStr (cs.map .str)).map (c :: ·) = _
    rw [allStr_map cs]; rfl
theorem sum_sg : ∀ cs : List Nat, ((cs.map sg).map (·.length)).sum = cs.length
  | [] => rfl
  | c :: cs => by
    show 1 + ((cs.map sg).map (·.length)).sum = cs.length + 1
    rw [sum_sg cs]; omega
theorem join_ok {cs : List Nat} (h : cs.length ≤ 1000000) : ∃ w : Str, joinV (.str "") (.lst ((cs.map sg).map .str)) = some (.str w) ∧ w.length = cs.length := by
  have e : (((cs.map sg).map (·.length)).sum + (cs.map sg).length * ("" : Str).length ≤ 16777216) := by
    rw [sum_sg]
    show cs.length + (cs.map sg).length * 0 ≤ 16777216
    omega
  refine ⟨Str.join "" (cs.map sg), ?_, join_len cs⟩
  unfold joinV
  simp only [allStr_map, e, if_true, TL.join_eq]

theorem at_sign {s : Str} {i : Nat} (h : i < s.length) (h1 : s.length ≤ 1000000) : opIx (.str s) (.int (i : Int)) = some (.str (sg (s.cps.toList.getD i 0))) := by
  have hi : i < s.cps.toList.length := by
    have : s.length = s.cps.size := rfl
    rw [Array.length_toList]; omega
  unfold opIx
  dsimp only
  rw [if_pos (big_le h1), ixOf_nat hi]
  simp only [Option.bind_some]
  rw [List.getElem?_eq_getElem hi]
  simp [List.getD, List.getElem?_eq_getElem hi, sg]
theorem sg_eq (c d : Nat) : decide (sg c = sg d) = decide (c = d) := by
  refine decide_eq_decide.mpr ⟨fun h => ?_, fun h => by rw [h]⟩
  unfold sg at h
  simpa using h
/-- how many signs are unlike -/
def unl (a b : Str) : Nat := ((a.cps.toList.zip b.cps.toList).filter fun p => !decide (p.1 = p.2)).length
theorem zip_rng {a b : List Nat} (h : a.length = b.length) : a.zip b = (List.range a.length).map fun k => (a.getD k 0, b.getD k 0) := by
  refine List.ext_getElem (by simp; omega) fun i h1 h2 => ?_
  simp at h1 h2
  simp [List.getD, h2, show i < b.length by omega]
theorem unl_rng {a b : Str} (h : a.length = b.length) : ((List.range a.length).filter fun k => !decide (a.cps.toList.getD k 0 = b.cps.toList.getD k 0)).length = unl a b := by
  have e : a.cps.toList.length = a.length := by rw [Array.length_toList]; rfl
  have e2 : b.cps.toList.length = b.length := by rw [Array.length_toList]; rfl
  unfold unl
  rw [zip_rng (by omega), e, List.filter_map, List.length_map]
  rfl
theorem zip_signs : ∀ a b : List Nat, zipV (a.map fun c => Val.str (sg c)) (b.map fun c => .str (sg c)) = (a.zip b).map fun p => .tup [.str (sg p.1), .str (sg p.2)]
  | [], b => by simp [zipV]
  | x :: a, [] => by simp [zipV]
  | x :: a, y :: b => by
    simp only [List.map_cons, zipV, List.zip_cons_cons, zip_signs a b]
theorem bl_toDs : ∀ bs : List Bool, toDs (bs.map .bl) = some (bs.map PyData.bool)
  | [] => rfl
  | b :: bs => by
    have h := bl_toDs bs
    simp only [List.map_cons, toDs, Val.toD, h]
theorem bl_plain : ∀ bs : List Bool, PyData.plainAll (bs.map PyData.bool) = true
  | [] => rfl
  | b :: bs => by
    show (true && PyData.plainAll (bs.map PyData.bool)) = true
    rw [bl_plain bs]; rfl
theorem bl_cnt : ∀ bs : List Bool, ((bs.map PyData.bool).countP fun z => PyData.eqv z (PyData.bool false)) = (bs.filter (!·)).length
  | [] => rfl
  | b :: bs => by
    rw [List.map_cons, List.countP_cons, bl_cnt bs]
    cases b <;> rfl
theorem cnt_false (bs : List Bool) : cntV (bs.map .bl) (.bl false) = some (.int ((bs.filter (!·)).length : Nat)) := by
  unfold cntV
  rw [bl_toDs]
  show (if (PyData.plainAll (bs.map PyData.bool) && true && decide (PyData.depth (PyData.bool false) ≤ 60)) = true then _ else _) = _
  rw [bl_plain]
  show some (Val.int (((bs.map PyData.bool).countP fun z => PyData.eqv z (PyData.bool false) : Nat) : Int)) = _
  rw [bl_cnt]
theorem len_eq (s : Str) : s.cps.toList.length = s.length := by rw [Array.length_toList]; rfl
theorem are_close {a b : Str} {few : Int} (ha : a.length ≤ 20) (hb : b.length ≤ 20) : f_are_close [.str a, .str b, .int few] S = .ok (.bl (decide (a.length = b.length) && decide ((unl a b : Int) ≤ few))) S := by
  have ha2 : a.length ≤ 16777216 := by omega
  have hb2 : b.length ≤ 16777216 := by omega
  refine eq_wp (W_def rfl ?_)
  unfold b_are_close
  by_cases h : a.length = b.length
  · simp! only [if_pos ha2, if_pos hb2, h, cCnt, iZs, signs]
    have zs := zip_signs a.cps.toList b.cps.toList
    unfold sg at zs
    rw [zs]
    refine W_stm (W_lcA (f := fun p : Nat × Nat => .tup [.str ⟨#[p.1]⟩, .str ⟨#[p.2]⟩]) (ys := a.cps.toList.zip b.cps.toList) (fun p => .bl (decide (p.1 = p.2))) (big_le (by rw [List.length_zip, len_eq, len_eq]; omega)) (fun p _ => ⟨_, rfl, ?_⟩) ?_)
    · have := sg_eq p.1 p.2
      unfold sg at this
      simp! only [this]
    have e : (a.cps.toList.zip b.cps.toList).map (fun p => Val.bl (decide (p.1 = p.2))) = ((a.cps.toList.zip b.cps.toList).map fun p => decide (p.1 = p.2)).map .bl := by rw [List.map_map]; rfl
    have e2 : (((a.cps.toList.zip b.cps.toList).map fun p => decide (p.1 = p.2)).filter (!·)).length = unl a b := by
      unfold unl
      rw [List.filter_map, List.length_map]; rfl
    rw [e]
    simp! only [cnt_false, e2]
  · simp! only [if_pos ha2, if_pos hb2, h]
theorem unlike {a b : Str} (ha : a.length ≤ 20) (hb : b.length ≤ 20) : f__law_unlike [.str a, .str b] S = .ok (.int (if a.length = b.length then (unl a b : Int) else 99)) S := by
  have ha2 : a.length ≤ 16777216 := by omega
  have hb2 : b.length ≤ 16777216 := by omega
  refine eq_wp (W_def rfl ?_)
  unfold b__law_unlike
  refine WS_step fun N' kN => ?_
  by_cases h : a.length = b.length
  · simp! only [if_pos ha2, if_pos hb2, h]
    refine kN _ _ ?_
    simp! only [if_pos ha2, if_pos hb2, rgO_nat (show a.length ≤ 1000000 by omega)]
    refine W_stm (W_lcF (f := nv) (ys := List.range a.length) (fun k => !decide (a.cps.toList.getD k 0 = b.cps.toList.getD k 0)) nv (big_le (by simp; omega)) (fun k hk => ⟨_, rfl, ?_, fun _ => ?_⟩) ?_)
    · have hk := List.mem_range.mp hk
      simp! only [at_sign hk (show a.length ≤ 1000000 by omega), at_sign (show k < b.length by omega) (show b.length ≤ 1000000 by omega), sg_eq]
    · simp! only [id_eq]
    have := unl_rng h
    rw [h] at this
    simp! only [this, h]
  · simp! only [if_pos ha2, if_pos hb2, h]
/-! checks -/
theorem check_places {ss : List Int} : f_check_places [.tup (ss.map .int), nv ss.length] S = .ok .non S := by
  refine eq_wp (W_def rfl ?_)
  unfold b_check_places
  ((with_reducible refine KL.WS_step fun N' kN => ?_); simp! only [id_eq]; refine kN _ _ ?_; clear kN N')
  simp! only [id_eq]
  refine WS_for (P := fun _ ρ S' => S' = S ∧ ∃ x y, ρ = [.pl (.tup (ss.map .int)), .pl (nv ss.length), x, y]) ⟨rfl, _, _, rfl⟩ (fun i x ρ S' hx ⟨e, a, b, e2⟩ => ?_) fun ρ S' h => h.1
  subst e e2
  obtain ⟨y, h1, rfl⟩ := enum_get hx
  obtain ⟨w, _, rfl⟩ := List.mem_map.mp (List.mem_of_getElem? h1)
  simp! only [is_integer_int]
  exact ⟨_, _, rfl⟩
theorem check_reach {w : Int} (h : 0 ≤ w) : f_check_reach [.int w] S = .ok .non S := by
  have h' : ¬ w < 0 := by omega
  refine eq_wp (W_def rfl ?_)
  unfold b_check_reach
  simp! only [is_integer_int, h']
theorem check_words {ss : List Str} (h : ∀ s, s ∈ ss → s.length ≤ 20) : f_check_words [.tup (ss.map .str), nv ss.length] S = .ok .non S := by
  refine eq_wp (W_def rfl ?_)
  unfold b_check_words
  ((with_reducible refine KL.WS_step fun N' kN => ?_); simp! only [id_eq]; refine kN _ _ ?_; clear kN N')
  simp! only [id_eq]
  refine WS_for (P := fun _ ρ S' => S' = S ∧ ∃ x y, ρ = [.pl (.tup (ss.map .str)), .pl (nv ss.length), x, y]) ⟨rfl, _, _, rfl⟩ (fun i x ρ S' hx ⟨e, a, b, e2⟩ => ?_) fun ρ S' h => h.1
  subst e e2
  obtain ⟨y, h1, rfl⟩ := enum_get hx
  obtain ⟨w, hw, rfl⟩ := List.mem_map.mp (List.mem_of_getElem? h1)
  have hl := h w hw
  have hl2 : w.length ≤ 16777216 := by omega
  have hl3 : ¬ (20 : Int) < (w.length : Int) := by omega
  simp! only [if_pos hl2, hl3]
  exact ⟨_, _, rfl⟩
/-! the heaps -/
theorem pw_eq {m : Nat} {p : Nat → Nat → Bool} {g : F} {qs : KM.Ln} (h9 : m ≤ 9) (hg : ∀ a b, a < b → b < m → g [nv a, nv b] S = .ok (.bl (p a b)) S) (L : KM.Links m qs) (mq : ∀ a b, (a, b) ∈ qs ↔ a < b ∧ b < m ∧ p a b = true) : f_pairs_with g [nv m] S = .ok (.tup (qs.map prv)) S :=
  eq_wp (pairs_with h9 hg fun qs' L' mq' => ⟨by rw [KM.lex_uniq L'.asc L.asc fun ⟨a, b⟩ => (mq' a b).trans (mq a b).symm], rfl⟩)
theorem pairs_of_eq : f__law_pairs_of = f_pairs_with := rfl
def sI (ss : List Int) (t : Nat) : Int := ss.getD t 0
theorem sI_at {ss : List Int} {t : Nat} (h : t < ss.length) : opIx (.tup (ss.map .int)) (.int (t : Int)) = some (.int (sI ss t)) := by
  have hl : t < (ss.map Val.int).length := by rw [List.length_map]; exact h
  rw [ix_tup hl, List.getElem_map]
  unfold sI
  simp [List.getD, h]
def nI (ss : List Str) (t : Nat) : Str := ss.getD t ""
theorem nI_at {ss : List Str} {t : Nat} (h : t < ss.length) : opIx (.tup (ss.map .str)) (.int (t : Int)) = some (.str (nI ss t)) := by
  have hl : t < (ss.map Val.str).length := by rw [List.length_map]; exact h
  rw [ix_tup hl, List.getElem_map]
  unfold nI
  simp [List.getD, h]
theorem nI_atL {ss : List Str} {t : Nat} (h : t < ss.length) : opIx (.lst (ss.map .str)) (.int (t : Int)) = some (.str (nI ss t)) := by
  have hl : t < (ss.map Val.str).length := by rw [List.length_map]; exact h
  rw [ix_lst hl, List.getElem_map]
  unfold nI
  simp [List.getD, h]
theorem nI_len {ss : List Str} (h : ∀ s, s ∈ ss → s.length ≤ 20) {t : Nat} (ht : t < ss.length) : (nI ss t).length ≤ 20 := by
  refine h _ ?_
  unfold nI
  simp [List.getD, ht]
def lineP (ss : List Int) (w : Int) (a b : Nat) : Bool := decide (-w ≤ sI ss a - sI ss b) && decide (sI ss a - sI ss b ≤ w)
theorem heap_line {ws ss : List Int} {w : Int} {qs : KM.Ln} (h1 : 1 ≤ ws.length) (h9 : ws.length ≤ 9) (hl : ss.length = ws.length) (hw : 0 ≤ w) (L : KM.Links ws.length qs) (mq : ∀ a b, (a, b) ∈ qs ↔ a < b ∧ b < ws.length ∧ lineP ss w a b = true) : f_Heap_line [.tup (ws.map .int), .tup (ss.map .int), .int w] S = .ok (heapV ws qs) S := by
  have cw := check_worths (S := S) h1 h9
  have cp := check_places (S := S) (ss := ss)
  have cr := check_reach (S := S) hw
  have hk := heap_ok (S := S) h1 h9 (by have := L.len h9; omega) L
  refine eq_wp (W_def rfl ?_)
  unfold b_Heap_line
  rw [hl] at cp
  simp! only [id_eq] at cp ⊢
  ((with_reducible refine KL.WS_step fun N' kN => ?_); simp! only [cw]; refine kN _ _ ?_; clear kN N')
  ((with_reducible refine KL.WS_step fun N' kN => ?_); simp! only [cp]; refine kN _ _ ?_; clear kN N')
  ((with_reducible refine KL.WS_step fun N' kN => ?_); simp! only [cr]; refine kN _ _ ?_; clear kN N')
  simp! only [cCallL, caps]
  refine W_stm (wp_eq (pw_eq (p := lineP ss w) h9 (fun a b ha hb => ?_) L mq) ?_)
  · have ia := sI_at (ss := ss) (t := a) (by omega)
    have ib := sI_at (ss := ss) (t := b) (by omega)
    unfold lineP
    simp! only [lamF, lstart, ia, ib]
    generalize sI ss a - sI ss b = d
    congr 2
    rw [← Bool.decide_and]
    refine decide_eq_decide.mpr ?_
    split <;> omega
  simp! only [hk]
def wordP (ss : List Str) (w : Int) (a b : Nat) : Bool := decide ((if (nI ss a).length = (nI ss b).length then (unl (nI ss a) (nI ss b) : Int) else 99) ≤ w)
theorem heap_words {ws : List Int} {ss : List Str} {w : Int} {qs : KM.Ln} (h1 : 1 ≤ ws.length) (h9 : ws.length ≤ 9) (hl : ss.length = ws.length) (hs : ∀ s, s ∈ ss → s.length ≤ 20) (hw : 0 ≤ w) (hw2 : w < 99) (L : KM.Links ws.length qs) (mq : ∀ a b, (a, b) ∈ qs ↔ a < b ∧ b < ws.length ∧ wordP ss w a b = true) : f_Heap_words [.tup (ws.map .int), .tup (ss.map .str), .int w] S = .ok (heapV ws qs) S := by
  have cw := check_worths (S := S) h1 h9
  have cp := check_words (S := S) hs
  have cr := check_reach (S := S) hw
  have hk := heap_ok (S := S) h1 h9 (by have := L.len h9; omega) L
  refine eq_wp (W_def rfl ?_)
  unfold b_Heap_words
  rw [hl] at cp
  simp! only [id_eq] at cp ⊢
  ((with_reducible refine KL.WS_step fun N' kN => ?_); simp! only [cw]; refine kN _ _ ?_; clear kN N')
  ((with_reducible refine KL.WS_step fun N' kN => ?_); simp! only [cp]; refine kN _ _ ?_; clear kN N')
  ((with_reducible refine KL.WS_step fun N' kN => ?_); simp! only [cr]; refine kN _ _ ?_; clear kN N')
  simp! only [cCallL, caps]
  refine W_stm (wp_eq (pw_eq (p := wordP ss w) h9 (fun a b ha hb => ?_) L mq) ?_)
  · have ia := nI_at (ss := ss) (t := a) (by omega)
    have ib := nI_at (ss := ss) (t := b) (by omega)
    have ac := are_close (S := S) (few := w) (nI_len hs (t := a) (by omega)) (nI_len hs (t := b) (by omega))
    unfold wordP
    simp! only [lamF, lstart, ia, ib, ac]
    congr 2
    by_cases h : (nI ss a).length = (nI ss b).length
    · simp [h]
    · have : ¬ (99 : Int) ≤ w := by omega
      simp [h, this]
  simp! only [hk]
theorem right (W : Well n S) : wpE (f__law_right [.ref n] S) (fun v _ => v = .bl true) fun _ _ => False := by
  refine W_def rfl ?_
  unfold b__law_right
  refine WS_step fun N' kN => ?_
  simp! only [rgO_int (j := 4) (by decide)]
  refine WS_for (P := fun _ ρ S' => Well n S' ∧ ∃ a1 a2 a3 a4 a5 a6 a7 a8 a9 a10 a11 a12 a13 a14 a15, ρ = [.pl (.ref n), a1, a2, a3, a4, a5, a6, a7, a8, a9, a10, a11, a12, a13, a14, a15]) ⟨W, _, _, _, _, _, _, _, _, _, _, _, _, _, _, _, rfl⟩ (fun i x ρ S1 hx ⟨W1, a1, a2, a3, a4, a5, a6, a7, a8, a9, a10, a11, a12, a13, a14, a15, e⟩ => ?_) fun ρ S1 ⟨W1, a1, a2, a3, a4, a5, a6, a7, a8, a9, a10, a11, a12, a13, a14, a15, e⟩ => ?_
  · subst e
    clear kN N'
    simp! only [id_eq]
    ((with_reducible refine KL.WS_step fun N' kN => ?_); simp! only [id_eq])
    refine W_stm (scoop W1 (by decide) (by decide) fun d S2 d0 d1 W2 => ?_)
    obtain ⟨m, hm, hm9, em⟩ : ∃ m : Nat, 1 ≤ m ∧ m ≤ 9 ∧ 1 + d = (m : Int) := ⟨(1 + d).toNat, by omega, by omega, by omega⟩
    simp! only [em]
    (refine kN _ _ ?_; clear kN N')
    have hmm : m ≤ 1000000 := by omega
    ((with_reducible refine KL.WS_step fun N' kN => ?_); simp! only [id_eq])
    refine W_stm (values W2 hm hm9 fun ws S3 hl hw W3 => ?_)
    simp! only [id_eq]
    refine W_stm (any_of W3 (by simp) (by simp) fun y S4 hy W4 => ?_)
    obtain ⟨far, rfl, f1, f2⟩ : ∃ far : Int, y = .int far ∧ 6 ≤ far ∧ far ≤ 10000000000000000000 := by
      simp only [List.mem_cons, List.not_mem_nil, or_false] at hy
      rcases hy with rfl | rfl | rfl <;> exact ⟨_, rfl, by omega, by omega⟩
    simp! only [id_eq]
    (refine kN _ _ ?_; clear kN N')
    ((with_reducible refine KL.WS_step fun N' kN => ?_); simp! only [rgO_nat hmm])
    refine W_stm (W_lc (P := fun i acc S => Well n S ∧ acc.length = i ∧ ∀ y, y ∈ acc → ∃ d : Int, y = .int d) ⟨W4, rfl, fun y h => absurd h List.not_mem_nil⟩ (big_le (by simp; omega)) (fun i x S5 acc hx ⟨W5, hl5, ha⟩ => ⟨_, rfl, ?_⟩) fun acc S5 ⟨W5, hl5, ha⟩ => ?_)
    · simp! only [id_eq]
      refine W_bind (scoop W5 (by omega) (by omega) fun d S6 d0 d1 W6 => ?_)
      simp! only [List.length_append]
      refine ⟨W6, by rw [hl5], fun y hy => ?_⟩
      rcases List.mem_append.mp hy with h | h
      · exact ha y h
      · exact ⟨_, List.mem_singleton.mp h⟩
    rw [List.length_map, List.length_range] at hl5
    obtain ⟨ss, rfl⟩ := ints_of ha
    rw [List.length_map] at hl5
    try simp! only [id_eq]
    refine W_stm (scoop W5 (by omega) (by omega) fun w S6 w0 w1 W6 => ?_)
    simp! only [id_eq]
    (refine kN _ _ ?_; clear kN N')
    subst hl
    ((with_reducible refine KL.WS_step fun N' kN => ?_); simp! only [cCallL, caps, pairs_of_eq])
    refine W_stm (pairs_with (m := ws.length) (p := lineP ss w) hm9 (fun a b ha hb => ?_) fun qs L mq => ?_)
    · have ia := sI_at (ss := ss) (t := a) (by omega)
      have ib := sI_at (ss := ss) (t := b) (by omega)
      unfold lineP
      simp! only [lamF, lstart, ia, ib]
      split
      · rename_i h
        simp [h]
      · rename_i h
        simp [h]
    simp! only [id_eq]
    (refine kN _ _ ?_; clear kN N')
    have hk := fun (S : Store) => heap_line (S := S) hm hm9 hl5 w0 L mq
    ((with_reducible refine KL.WS_step fun N' kN => ?_); simp! only [hk, List.filterMap_cons, List.filterMap_nil]; refine kN _ _ ?_; clear kN N')
    ((with_reducible refine KL.WS_step fun N' kN => ?_); simp! only [id_eq])
    refine W_stm (W_lcA (f := fun _ : Nat => heapV ws qs) (ys := [0, 1]) (fun _ => .bl true) (by decide) (fun p _ => ⟨_, rfl, ?_⟩) ?_)
    · simp! only [hv0, hv1, hv2, hv3, hv4, hvT, hvC, hvI, hvD]
    simp! only [asBls]
    (refine kN _ _ ?_; clear kN N')
    ((with_reducible refine KL.WS_step fun N' kN => ?_); simp! only [id_eq])
    refine W_stm (any_of W6 (by simp) (by simp) fun y S7 hy W7 => ?_)
    obtain ⟨si, rfl, s1, s2⟩ : ∃ si : Str, y = .str si ∧ 0 < si.length ∧ si.length ≤ 1000000 := by
      simp only [List.mem_cons, List.not_mem_nil, or_false] at hy
      rcases hy with rfl | rfl | rfl <;> exact ⟨_, rfl, by decide +kernel, by decide +kernel⟩
    simp! only [id_eq]
    (refine kN _ _ ?_; clear kN N')
    ((with_reducible refine KL.WS_step fun N' kN => ?_); simp! only [id_eq])
    refine W_stm (any_of W7 (by simp) (by simp) fun y S8 hy W8 => ?_)
    obtain ⟨ls, rfl, l1, l2, l3⟩ : ∃ ls : List Int, y = .lst (ls.map .int) ∧ 0 < ls.length ∧ ls.length ≤ 1000000 ∧ ∀ l, l ∈ ls → 0 ≤ l ∧ l ≤ 20 := by
      simp only [List.mem_cons, List.not_mem_nil, or_false] at hy
      rcases hy with rfl | rfl
      · exact ⟨[0, 2, 3, 3, 6], rfl, by decide, by decide, by decide⟩
      · exact ⟨[20, 20, 19], rfl, by decide, by decide, by decide⟩
    simp! only [id_eq]
    (refine kN _ _ ?_; clear kN N')
    ((with_reducible refine KL.WS_step fun N' kN => ?_); simp! only [rgO_nat hmm])
    refine WS_for (P := fun i ρ S' => Well n S' ∧ ∃ (ns : List Str) (b7 b14 : Slot), ρ = [.pl (.ref n), .pl x, .pl (nv ws.length), .pl (.tup (ws.map .int)), .pl (.int far), .pl (.tup (ss.map .int)), .pl (.int w), b7, .pl (.tup (qs.map prv)), .pl (.lst [heapV ws qs, heapV ws qs]), a10, .ow (ns.map .str), .pl (.str si), .pl (.lst (ls.map .int)), b14, a15] ∧ ns.length = i ∧ ∀ s, s ∈ ns → s.length ≤ 20) ⟨W8, [], _, _, rfl, rfl, fun _ h => absurd h List.not_mem_nil⟩ (fun i y ρ S9 hy ⟨W9, ns, b7, b14, e, hn, hs⟩ => ?_) fun ρ S9 ⟨W9, ns, b7, b14, e, hn, hs⟩ => ?_
    · subst e
      clear kN N'
      obtain ⟨hi, rfl⟩ := rangeV_get hy
      simp! only [cJoinX]
      refine W_stm (any_of W9 (by simpa using l1) (by simpa using l2) fun y S10 hy W10 => ?_)
      obtain ⟨l, hl, rfl⟩ := List.mem_map.mp hy
      have hl := l3 l hl
      obtain ⟨k, rfl⟩ : ∃ k : Nat, l = (k : Int) := ⟨l.toNat, by omega⟩
      simp! only [rgO_nat (show k ≤ 1000000 by omega)]
      refine W_stm (W_lc (P := fun i acc S => Well n S ∧ ∃ cs : List Nat, acc = (cs.map sg).map .str ∧ cs.length = i) ⟨W10, [], rfl, rfl⟩ (big_le (by simp; omega)) (fun i x S11 acc hx ⟨W11, cs, ea, hc⟩ => ⟨_, rfl, ?_⟩) fun acc S11 ⟨W11, cs, ea, hc⟩ => ?_)
      · subst ea
        try simp! only [id_eq]
        refine any_sign W11 s1 s2 fun c S12 W12 => ?_
        exact ⟨W12, cs ++ [c], by simp, by simp [hc]⟩
      subst ea
      rw [List.length_map, List.length_range] at hc
      obtain ⟨jw, hj, hjl⟩ := join_ok (cs := cs) (by omega)
      have hb : ns.length < big := big_lt (by omega)
      simp! only [hj, if_pos hb]
      refine ⟨W11, ns ++ [jw], _, _, by rw [List.map_append]; rfl, by simp [hn], fun s hs' => ?_⟩
      rcases List.mem_append.mp hs' with h | h
      · exact hs s h
      · rw [List.mem_singleton.mp h]; omega
    · subst e
      refine kN _ _ ?_
      clear kN N'
      rw [List.length_map, List.length_range] at hn
      ((with_reducible refine KL.WS_step fun N' kN => ?_); simp! only [id_eq])
      refine W_stm (any_of W9 (by simp) (by simp) fun y S10 hy W10 => ?_)
      obtain ⟨u, rfl, u1, u2⟩ : ∃ u : Int, y = .int u ∧ 0 < u ∧ u ≤ 22 := by
        simp only [List.mem_cons, List.not_mem_nil, or_false] at hy
        rcases hy with rfl | rfl <;> exact ⟨_, rfl, by omega, by omega⟩
      try simp! only [id_eq]
      refine W_stm (scoop W10 (by omega) (by omega) fun v S11 v0 v1 W11 => ?_)
      simp! only [id_eq]
      (refine kN _ _ ?_; clear kN N')
      ((with_reducible refine KL.WS_step fun N' kN => ?_); simp! only [cCallL, caps, pairs_of_eq])
      refine W_stm (pairs_with (m := ws.length) (p := wordP ns v) hm9 (fun a b ha hb => ?_) fun qs2 L2 mq2 => ?_)
      · have ia := nI_atL (ss := ns) (t := a) (by omega)
        have ib := nI_atL (ss := ns) (t := b) (by omega)
        have un := unlike (S := S11) (nI_len hs (t := a) (by omega)) (nI_len hs (t := b) (by omega))
        unfold wordP
        simp! only [lamF, lstart, ia, ib, un]
      simp! only [id_eq]
      (refine kN _ _ ?_; clear kN N')
      have hk2 := fun (S : Store) => heap_words (S := S) hm hm9 hn hs v0 (by omega) L2 mq2
      ((with_reducible refine KL.WS_step fun N' kN => ?_); simp! only [hk2, List.filterMap_cons, List.filterMap_nil]; refine kN _ _ ?_; clear kN N')
      simp! only [id_eq]
      refine W_stm (W_lcA (f := fun _ : Nat => heapV ws qs2) (ys := [0, 1]) (fun _ => .bl true) (by decide) (fun p _ => ⟨_, rfl, ?_⟩) ?_)
      · simp! only [hv0, hv1, hv2, hv3, hv4, hvT, hvC, hvI, hvD]
      simp! only [asBls]
      exact ⟨W11, _, _, _, _, _, _, _, _, _, _, _, _, _, _, _, rfl⟩
  · subst e
    refine kN _ _ ?_
    simp! only [id_eq]
theorem law_pure : ∀ ns : List Int, ns.length ≤ 63 → ∃ S', f_law [.arr (ns.map Val.int)] [] = .ok (.bl true) S' := law_pure_of fun _ _ W => right W
end
end KG

set_option Elab.async false
set_option linter.all false
set_option maxRecDepth 100000
set_option maxHeartbeats 1000000
/-! KEnd: a law's end, for a law's def that stands where no guard is up. -/
namespace KL
open PySem PySem.Spec PyProof.Rows L2
/-- the script's object alone is tracked, unless it is the module's -/
def scH (tr : Bool) (a : Addr) (vs : List Value) (ns : List Int) : Hp := fun b => if tr = true ∧ b = a then some (.frz { cls := .type "list", data := .seq vs.toArray } (.lst (ns.map V.int))) else none
theorem scH_off {tr : Bool} {a b : Addr} {vs : List Value} {ns : List Int} (h : ¬(tr = true ∧ b = a)) : scH tr a vs ns b = none := if_neg h
theorem scH_at {a : Addr} {vs : List Value} {ns : List Int} : scH true a vs ns a = some (.frz { cls := .type "list", data := .seq vs.toArray } (.lst (ns.map V.int))) := if_pos ⟨rfl, rfl⟩
theorem scH_is {tr : Bool} {a b : Addr} {vs : List Value} {ns : List Int} {u : HO} (h : scH tr a vs ns b = some u) : tr = true ∧ b = a ∧ u = .frz { cls := .type "list", data := .seq vs.toArray } (.lst (ns.map V.int)) := by
  unfold scH at h
  split at h
  · rename_i c
    cases h
    exact ⟨c.1, c.2, rfl⟩
  · cases h
/-- .. and the tables of code objects, all empty -/
def scT (ts : List Addr) (tr : Bool) (a : Addr) (vs : List Value) (ns : List Int) : Hp := fun b => if b ∈ ts then some (.tbl #[]) else scH tr a vs ns b
theorem scT_in {ts : List Addr} {tr : Bool} {a b : Addr} {vs : List Value} {ns : List Int} (h : b ∈ ts) : scT ts tr a vs ns b = some (.tbl #[]) := if_pos h
theorem scT_out {ts : List Addr} {tr : Bool} {a b : Addr} {vs : List Value} {ns : List Int} (h : b ∉ ts) : scT ts tr a vs ns b = scH tr a vs ns b := if_neg h
section
variable {P : Program} {w : World} {K : PySem.W.Frag} {mg mb : Str → Option Value} {k : Nat} {fa a : Addr} {fd : FuncData} {x : Str} {sp : Sp} {s₁ : Shared} {vs : List Value} {ns : List Int} {cs : List (Addr × Addr)}
theorem law_run (tr : Bool) (hfree : tr = true → K.lookup a = none) (hsq : tr = false → ∀ H : Hp, FzL K H a (ns.map V.int))
    (hT : ∀ p ∈ cs, s₁.heap.get? p.2 = some { cls := .none, data := .fields #[] }) (nT : ∀ p ∈ cs, K.lookup p.2 = none) (hC : ∀ p ∈ cs, PySem.W.CodeHd s₁.heap p.1 p.2)
    (hbm : ∃ (bm : Addr) (ob : Obj), mg "__builtins__" = some (.ref bm) ∧ bm ≠ builtinsNs ∧ s₁.heap.get? bm = some ob ∧ ob.cls = .type "module" ∧ ob.dict = some builtinsNs ∧ ob.data = .plain)
    (KX : K.In s₁.heap) (hns : s₁.heap.Ns mainGlobals mg) (hb : s₁.heap.Ns builtinsNs mb) (hbb : ∀ x : Str, x ≠ "__name__" → mb x = bootBuiltins x) (hlim : s₁.heap.NoLimit) (hg : s₁.gens = #[])
    (ha : s₁.heap.get? a = some { cls := .type "list", data := .seq vs.toArray }) (hi : IntsAre vs ns) (hl : ns.length ≤ sizeLine) (hr : Room k callerA)
    (F : ∀ base : Heap, K.In base → base.Ns mainGlobals mg → (∀ p ∈ cs, LamX.TabB base mg p.1 p.2) → FnG P w K mg base k fa fd [x] sp) (hbind : ∀ (s : Shared) (u : Value), BindsTo s fd ⟨[u], []⟩ [(x, u)])
    (hsp : ∀ H : Hp, (∀ p ∈ cs, H p.2 = some (.tbl #[])) → FzL K H a (ns.map V.int) → sp [.ref a] H (fun v _ => v = .bl true) fun _ _ _ => False) :
    codeAny (model P w) callerA (.call (.ref fa) ⟨[.ref a], []⟩) (fun r s' => r = .ok (.ret (.bool true)) ∧ OldK s₁.heap s'.heap ∧ s'.os = s₁.os ∧ AllBare s'.gens) s₁ := by
  have isT : ∀ b : Addr, b ∈ cs.map (·.2) → s₁.heap.get? b = some { cls := .none, data := .fields #[] } := fun b hb => by
    obtain ⟨p, hp, e⟩ := List.mem_map.mp hb; rw [← e]; exact hT p hp
  have memT : ∀ p ∈ cs, p.2 ∈ cs.map (·.2) := fun p hp => List.mem_map.mpr ⟨p, hp, rfl⟩
  have aT : a ∉ cs.map (·.2) := fun z => by
    have q := isT a z; rw [ha] at q; have z' := congrArg Obj.data (Option.some.inj q); cases z'
  obtain ⟨H, hH⟩ : ∃ H, H = scT (cs.map (·.2)) tr a vs ns := ⟨_, rfl⟩
  have inT : ∀ b, b ∈ cs.map (·.2) → H b = some (.tbl #[]) := fun b hb => by rw [hH]; exact scT_in hb
  have noT : ∀ b, b ∉ cs.map (·.2) → H b = scH tr a vs ns b := fun b hb => by rw [hH]; exact scT_out hb
  have hok : HOk P w H s₁.heap := fun b u z => by
    by_cases hb : b ∈ cs.map (·.2)
    · rw [inT b hb] at z; cases z; exact isT b hb
    · rw [noT b hb] at z
      obtain ⟨_, e1, e2⟩ := scH_is z
      subst e1 e2
      exact ⟨ha, by rw [List.length_map]; exact hl, vs, _, vals_ints hi, ha⟩
  have clear : ∀ {b : Addr} {o : Obj}, s₁.heap.get? b = some o → (∀ q, o.data ≠ .seq vs.toArray q) → o.data ≠ .fields #[] → H b = none := fun {b o} e d d2 => by
    have nb : b ∉ cs.map (·.2) := fun z => by rw [isT b z] at e; cases e; exact d2 rfl
    rw [noT b nb]
    exact scH_off fun ⟨_, c⟩ => by
      subst c
      rw [ha] at e; cases e
      exact d _ rfl
  have old : ∀ {b : Addr} {o : Obj}, s₁.heap.get? b = some o → H b = none → (hidT s₁.heap H).get? b = some o := fun e n => hidT_get e n
  have names : ∀ {b : Addr} {m : Str → Option Value}, s₁.heap.Ns b m → (hidT s₁.heap H).Ns b m := fun {b m} ⟨o, es, ep, e, d, r⟩ => ⟨o, es, ep, old e (clear e (fun q z => by rw [d] at z; cases z) (fun z => by rw [d] at z; cases z)), d, r⟩
  have kin : K.In (hidT s₁.heap H) := fun b o e => old (KX b o e) (by
    have nb : b ∉ cs.map (·.2) := fun z => by
      obtain ⟨p, hp, ep⟩ := List.mem_map.mp z
      rw [← ep, nT p hp] at e; cases e
    rw [noT b nb]
    exact scH_off fun ⟨c1, c2⟩ => by
      subst c2
      rw [hfree c1] at e; cases e)
  have md : Mod K mg (hidT s₁.heap H) := ⟨kin, names hns, ⟨mb, names hb, hbb⟩, let ⟨mc, h1, h2⟩ := hlim; ⟨mc, names h1, h2⟩⟩
  have TB : ∀ p ∈ cs, LamX.TabB (hidT s₁.heap H) mg p.1 p.2 := fun p hp => by
    have hTp := hT p hp
    refine ⟨?_, ?_, fun z => ?_⟩
    · obtain ⟨o, us, file, tf, flags, tg, inF, text, tt, e1, r1, r2, r3, r4⟩ := hC p hp
      exact ⟨o, us, file, tf, flags, tg, inF, text, tt, old e1 (clear e1 (fun q z => by rw [r2] at z; cases z) (fun z => by rw [r2] at z; cases z; simp at r3)), r1, r2, r3, r4⟩
    · obtain ⟨bm, ob, b1, b2, b3, b4, b5, b6⟩ := hbm
      refine ⟨bm, ob, b1, b2, fun q => ?_, fun q => ?_, old b3 (clear b3 (fun q z => by rw [b6] at z; cases z) (fun z => by rw [b6] at z; cases z)), b4, b5, b6⟩
      · obtain ⟨o, es, ep, e, hd, _⟩ := hns
        rw [q, e] at b3; cases b3; rw [hd] at b6; cases b6
      · rw [q, hTp] at b3; cases b3; cases b6
    · obtain ⟨o, es, ep, e, hd, _⟩ := hns
      rw [z, hTp] at e; cases e; cases hd
  have e0 : Env0 P w K mg (hidT s₁.heap H) callerA [] s₁ H := ⟨rfl, md, fun b o e => of_hidT e, Nat.le_of_eq (hidT_size _ _), trivial, (fun b hb => by cases hb), hok, .of_eq hg⟩
  have seq : FzL K H a (ns.map V.int) := by
    cases tr with
    | true => exact .inl ⟨_, by rw [noT a aT]; exact scH_at⟩
    | false => exact hsq rfl H
  refine codeAny_mono ((F _ kin (names hns) TB).run callerA [] s₁ H ⟨[.ref a], []⟩ [.ref a] [.ref a] _ _ rfl hr e0 (hbind s₁ (.ref a)) (.cons rfl .nil) (hsp _ (fun p hp => inT _ (memT p hp)) seq)) fun r s' h => ?_
  match r, h with
  | .error e, h =>
    obtain ⟨_, _, _, _, _, _, _, _, _, _, _, _, z⟩ := h
    exact z.elim
  | .ok (.ret u), ⟨v, H', os, bare, un, hok', r', q⟩ =>
    have q' : v = .bl true := q
    subst q'
    obtain rfl : u = Value.bool true := r'
    have key : ∀ b o, b ∉ cs.map (·.2) → s₁.heap.get? b = some o → s'.heap.get? b = some o := fun b o nb e => by
      cases q : H b with
      | none => exact un.keep b o e q (fun z => by cases z) (fun z => by cases z)
      | some u =>
        rw [noT b nb] at q
        obtain ⟨_, e1, e2⟩ := scH_is q
        subst e1 e2
        rw [← noT b nb] at q
        have z2 := un.frzs b _ _ q
        obtain ⟨g1, _⟩ := hok b _ q
        obtain ⟨g2, _⟩ := hok' b _ z2
        rw [e] at g1; cases g1
        exact g2
    have grown : ∀ p ∈ cs, ∃ more : Array Value, s'.heap.get? p.2 = some { cls := .none, data := .fields more } := fun p hp => by
      obtain ⟨more, z⟩ := un.tbls p.2 #[] (inT _ (memT p hp)); exact ⟨_, hok' p.2 _ z⟩
    refine ⟨rfl, ⟨fun b o e => ?_, fun b o e => ?_⟩, os, bare⟩
    · by_cases hb : b ∈ cs.map (·.2)
      · obtain ⟨p, hp, rfl⟩ := List.mem_map.mp hb
        obtain ⟨more, hm⟩ := grown p hp
        rw [hT p hp] at e; cases e
        exact .inr (.inl ⟨((hC p hp).tab (hT p hp)).isCodeTable, rfl, #[], more, rfl, by rw [Array.empty_append]; exact hm⟩)
      · exact .inl (key b o hb e)
    · by_cases hb : b ∈ cs.map (·.2)
      · obtain ⟨p, hp, rfl⟩ := List.mem_map.mp hb
        obtain ⟨more, hm⟩ := grown p hp; exact ⟨_, hm⟩
      · exact ⟨o, key b o hb e⟩
theorem walk_g {l : PySem.W.OpenLaw} {n k : Nat} {q : Program} {loose : List Str} {XP : (Str → Option Value) → Heap → Prop} {YP : World → Heap → Prop} {d : DefRec} {K : Params → PySem.W.Frag} {sp : PySem.W.Frag → Sp} {x : Str}
    (hn : l.most = some n) (hn2 : n ≤ sizeLine) (hdf : d.params.defaults = []) (hr : Room k callerA) (hY : ∀ (w : World) (h : Heap), YP w h → (K w.params).In h)
    (F : ∀ (w : World) (mg : Str → Option Value) (fa : Addr) (h : Heap), YP w h → (K w.params).In h → h.Ns mainGlobals mg → mg d.name = some (.ref fa) →
      ∃ (fd : FuncData) (cs : List (Addr × Addr)) (sp : Sp), (∀ p ∈ cs, h.get? p.2 = some { cls := .none, data := .fields #[] }) ∧ (∀ p ∈ cs, (K w.params).lookup p.2 = none) ∧ (∀ p ∈ cs, PySem.W.CodeHd h p.1 p.2) ∧ (∀ (s : Shared) (u : Value), BindsTo s fd ⟨[u], []⟩ [(x, u)]) ∧
        (∀ base : Heap, (K w.params).In base → base.Ns mainGlobals mg → (∀ p ∈ cs, LamX.TabB base mg p.1 p.2) → FnG l.prog w (K w.params) mg base k fa fd [x] sp) ∧
        ∀ (H : Hp) (a : Addr) (ns : List Int), ns.length ≤ n → (∀ p ∈ cs, H p.2 = some (.tbl #[])) → FzL (K w.params) H a (ns.map V.int) → sp [.ref a] H (fun v _ => v = .bl true) fun _ _ _ => False) :
    PySem.W.WalkO q loose XP YP l.row.toRowW d [] (fun f vs => PySem.call f vs) := by
  refine Att.attach_call hn hdf fun w s₀ s₁ mg mb fa o pm cd doc a vs ns G Y ho hd hcd hmg hobj hints hlen hg => ?_
  have KX := hY w _ Y
  obtain ⟨fd, cs, sp, hT, nT, hC, hb, hF, hsp⟩ := F w mg fa _ Y KX G.T.g hmg
  cases hk : (K w.params).lookup a with
  | none => exact law_run true (fun _ => hk) (fun z => by cases z) hT nT hC G.T.bmain KX G.T.g G.T.b G.T.builtins G.T.nolimit hg hobj hints (Nat.le_trans hlen hn2) hr hF hb fun H h1 h2 => hsp H a ns hlen h1 h2
  | some ob =>
    have e := KX a ob hk
    rw [hobj] at e
    cases e
    have hsz : vs.length ≤ sizeLine := by rw [hints.length]; exact Nat.le_trans hlen hn2
    exact law_run false (fun z => by cases z) (fun _ H => .inr ⟨_, vs.toArray, _, hk, rfl, rfl, rfl, by simpa using hsz, by simpa using vals_ints hints⟩) hT nT hC G.T.bmain KX G.T.g G.T.b G.T.builtins G.T.nolimit hg hobj hints (Nat.le_trans hlen hn2) hr hF hb fun H h1 h2 => hsp H a ns hlen h1 h2
end
theorem TabK.nil {H : Hp} {P : Addr} {q : Str} (h : H P = some (.tbl #[])) : TabK H P q := ⟨#[], h, True.intro, fun pos cv hc => by
  have z : codeAmong pos [] = some cv := hc
  simp [codeAmong] at z⟩
/-- a law by what its def does with the script -/
theorem sp_law {G : GP} {f : F} {n : Nat} (h : ∀ ns : List Int, ns.length ≤ n → ∃ S', f [.arr (ns.map Val.int)] [] = .ok (.bl true) S') (H : Hp) (a : Addr) (ns : List Int) (hn : ns.length ≤ n) (hT : ∀ p, p ∈ G.tabs → H p.1 = some (.tbl #[])) (hS : FzL G.K H a (ns.map V.int)) : spF G f [.ref a] H (fun v _ => v = .bl true) fun _ _ _ => False := by
  obtain ⟨S', e⟩ := h ns hn
  refine ⟨[.arr (ns.map Val.int)], [], [], ⟨rfl, List.nodup_nil, fun p hp => TabK.nil (hT p hp), fun n c a h1 => by simp at h1⟩, .cons (.arr hS (vrs_ints ns)) .nil, ?_⟩
  rw [e]
  intro μ' H' _ _ u hu
  cases hu
  rfl
end KL

set_option Elab.async false
set_option linter.all false
set_option maxRecDepth 100000
set_option maxHeartbeats 4000000
/-! law_k03_whole_lines_and_words: the top and the head (printed by genend.py) -/
namespace KG
open PySem L2 KL
theorem mg_no {K : PySem.W.Frag} {h : Heap} {mg : Str → Option Value} {n : Str} (X : K.In h) (G : h.Ns mainGlobals mg) (e : PySem.W.nsIn K mainGlobals n = some none) : mg n = none := by
  obtain ⟨o, es, ep, ho, hd, _, hf⟩ := G
  unfold PySem.W.nsIn at e
  split at e
  · rename_i c d es' n' sl q
    have := X _ _ q
    rw [ho] at this
    cases this
    cases hd
    split at e
    · cases e
    · rename_i he
      rw [← hf]
      unfold nsFind findBy
      rw [← Array.find?_toList, he]
      rfl
  · cases e
theorem kit_t {K : PySem.W.Frag} {C : Addr} {T : String} {b : Bool} (hm : PySem.W.kitMeta T = true) (h : PySem.W.subIn K (.ref C) (.type T) = some b) : PySem.W.kitOne K (.ref C) (.type T) = some b := by
  show (if (Value.ref C == Value.type T) = true then some true else if PySem.W.kitMeta T = true then PySem.W.subIn K (.ref C) (.type T) else none) = some b
  rw [if_neg (by intro z; have := beq_iff_eq.mp z; cases this), if_pos hm, h]
theorem kit_c {K : PySem.W.Frag} {t : Value} {C : Addr} (h2 : PySem.W.isClsIn K C = true) (h3 : PySem.W.typeIn K (.ref C) = some (.type "type")) (hne : ¬ (t == .ref C) = true) {b : Bool} (h : PySem.W.subIn K t (.ref C) = some b) : PySem.W.kitOne K t (.ref C) = some b := by
  have e2 : ((PySem.W.clsIn K C).isSome && PySem.W.typeIn K (.ref C) == some (.type "type")) = true := by
    have h2' : (PySem.W.clsIn K C).isSome = true := h2
    rw [h2', h3]; rfl
  show (if (t == Value.ref C) = true then some true else if ((PySem.W.clsIn K C).isSome && PySem.W.typeIn K (.ref C) == some (.type "type")) = true then PySem.W.subIn K t (.ref C) else none) = some b
  rw [if_neg hne, if_pos e2, h]
theorem kit_self {K : PySem.W.Frag} {C : Addr} : PySem.W.kitOne K (.ref C) (.ref C) = some true := if_pos (beq_self_eq_true _)
def tabOf (K : PySem.W.Frag) (c : Addr) : Option Addr := match K.lookup c with
  | some ⟨_, _, .fields vs, _⟩ => match (vs[11]? : Option Value) with
    | some (.ref P) => some P
    | _ => none
  | _ => none
theorem ty_ne {T : String} {C : Addr} : ¬ (Value.type T == Value.ref C) = true := by intro z; have := beq_iff_eq.mp z; cases this
theorem all_mk {l : PySem.W.OpenLaw} {w : World} {K : PySem.W.Frag} {h : Heap} {mg : Str → Option Value} {fa : Addr} {A0 A20 A24 A25 A26 A27 A108 A109 A110 A111 A112 A113 A114 A115 A116 A117 A118 A119 A120 A121 A122 A123 A124 A125 A126 A127 A128 A129 A130 A131 A132 A133 : Addr}
    {od108 an108 : Option Addr} {sl108 : Array (Option Value)} {oc108 kV108 dc108 pm108 cd108 ct108 : Value}
    {od109 an109 : Option Addr} {sl109 : Array (Option Value)} {oc109 kV109 dc109 pm109 cd109 ct109 : Value}
    {od110 an110 : Option Addr} {sl110 : Array (Option Value)} {oc110 kV110 dc110 pm110 cd110 ct110 : Value}
    {od111 an111 : Option Addr} {sl111 : Array (Option Value)} {oc111 kV111 dc111 pm111 cd111 ct111 : Value}
    {od112 an112 : Option Addr} {sl112 : Array (Option Value)} {oc112 kV112 dc112 pm112 cd112 ct112 : Value}
    {od113 an113 : Option Addr} {sl113 : Array (Option Value)} {oc113 kV113 dc113 pm113 cd113 ct113 : Value}
    {od114 an114 : Option Addr} {sl114 : Array (Option Value)} {oc114 kV114 dc114 pm114 cd114 ct114 : Value}
    {od115 an115 : Option Addr} {sl115 : Array (Option Value)} {oc115 kV115 dc115 pm115 cd115 ct115 : Value}
    {od116 an116 : Option Addr} {sl116 : Array (Option Value)} {oc116 kV116 dc116 pm116 cd116 ct116 : Value}
    {od117 an117 : Option Addr} {sl117 : Array (Option Value)} {oc117 kV117 dc117 pm117 cd117 ct117 : Value}
    {od118 an118 : Option Addr} {sl118 : Array (Option Value)} {oc118 kV118 dc118 pm118 cd118 ct118 : Value}
    {od119 an119 : Option Addr} {sl119 : Array (Option Value)} {oc119 kV119 dc119 pm119 cd119 ct119 : Value}
    {od120 an120 : Option Addr} {sl120 : Array (Option Value)} {oc120 kV120 dc120 pm120 cd120 ct120 : Value}
    {od121 an121 : Option Addr} {sl121 : Array (Option Value)} {oc121 kV121 dc121 pm121 cd121 ct121 : Value}
    {od122 an122 : Option Addr} {sl122 : Array (Option Value)} {oc122 kV122 dc122 pm122 cd122 ct122 : Value}
    {od123 an123 : Option Addr} {sl123 : Array (Option Value)} {oc123 kV123 dc123 pm123 cd123 ct123 : Value}
    {od124 an124 : Option Addr} {sl124 : Array (Option Value)} {oc124 kV124 dc124 pm124 cd124 ct124 : Value}
    {od125 an125 : Option Addr} {sl125 : Array (Option Value)} {oc125 kV125 dc125 pm125 cd125 ct125 : Value}
    {od126 an126 : Option Addr} {sl126 : Array (Option Value)} {oc126 kV126 dc126 pm126 cd126 ct126 : Value}
    {od127 an127 : Option Addr} {sl127 : Array (Option Value)} {oc127 kV127 dc127 pm127 cd127 ct127 : Value}
    {od128 an128 : Option Addr} {sl128 : Array (Option Value)} {oc128 kV128 dc128 pm128 cd128 ct128 : Value}
    {od129 an129 : Option Addr} {sl129 : Array (Option Value)} {oc129 kV129 dc129 pm129 cd129 ct129 : Value}
    {od130 an130 : Option Addr} {sl130 : Array (Option Value)} {oc130 kV130 dc130 pm130 cd130 ct130 : Value}
    {od131 an131 : Option Addr} {sl131 : Array (Option Value)} {oc131 kV131 dc131 pm131 cd131 ct131 : Value}
    {od132 an132 : Option Addr} {sl132 : Array (Option Value)} {oc132 kV132 dc132 pm132 cd132 ct132 : Value}
    {od133 an133 : Option Addr} {sl133 : Array (Option Value)} {oc133 kV133 dc133 pm133 cd133 ct133 : Value}
    {SP121 : Addr} {sq121 : List Value}
    {SP125 : Addr} {sq125 : List Value}
    {nm20 q20 : Str} {N20 : Addr} {bs20 bm20 : List Value} {sn20 : List Str} {sub20 : List Value} {ab20 : Bool} {col20 : Option Bool} {dd20 : Option Addr} {m020 m120 m220 m320 m520 : Option Value}
    {nm24 q24 : Str} {N24 : Addr} {bs24 bm24 : List Value} {sn24 : List Str} {sub24 : List Value} {ab24 : Bool} {col24 : Option Bool} {dd24 : Option Addr} {m024 m124 m224 m324 m524 : Option Value}
    {nm25 q25 : Str} {N25 : Addr} {bs25 bm25 : List Value} {sn25 : List Str} {sub25 : List Value} {ab25 : Bool} {col25 : Option Bool} {dd25 : Option Addr} {m025 m125 m225 m325 m525 : Option Value}
    {nm26 q26 : Str} {N26 : Addr} {bs26 bm26 : List Value} {sn26 : List Str} {sub26 : List Value} {ab26 : Bool} {col26 : Option Bool} {dd26 : Option Addr} {m026 m126 m226 m326 m526 : Option Value}
    {nm27 q27 : Str} {N27 : Addr} {bs27 bm27 : List Value} {sn27 : List Str} {sub27 : List Value} {ab27 : Bool} {col27 : Option Bool} {dd27 : Option Addr} {m027 m127 m227 m327 m527 : Option Value}
    {C121 P121 : Addr}
    {C125 P125 : Addr}
    {C131 P131 : Addr}
    {t_i_MOST_LETTERS : _} {t_i_MOST_THINGS : _}
    (X : K.In h) (G : h.Ns mainGlobals mg) (hfa : mg "law" = some (.ref fa))
    (h_a_Heap : PySem.W.nsIn K mainGlobals "Heap" = some (some (.ref A0)))
    (h_a_InvalidReach : PySem.W.nsIn K mainGlobals "InvalidReach" = some (some (.ref A20)))
    (h_a_InvalidWorths : PySem.W.nsIn K mainGlobals "InvalidWorths" = some (some (.ref A24)))
    (h_a_InvalidPairs : PySem.W.nsIn K mainGlobals "InvalidPairs" = some (some (.ref A25)))
    (h_a_InvalidPlaces : PySem.W.nsIn K mainGlobals "InvalidPlaces" = some (some (.ref A26)))
    (h_a_InvalidWords : PySem.W.nsIn K mainGlobals "InvalidWords" = some (some (.ref A27)))
    (h_a_InvalidPairs___init__ : PySem.W.findIn K (.ref A25) "__init__" = some (some (.ref A108)))
    (h_l_InvalidPairs___init__ : K.lookup A108 = some ⟨oc108, od108, .func (PySem.W.fnOf "__init__" "InvalidPairs.__init__" (defArgs s_InvalidPairs___init__) (defBody s_InvalidPairs___init__) (defScope s_InvalidPairs___init__) .none kV108 dc108 pm108 an108 cd108 ct108), sl108⟩)
    (h_c_InvalidPairs___init__ : PySem.W.codeIn K cd108 "InvalidPairs.__init__" = true)
    (h_k_InvalidPairs___init__ : PySem.W.keepIn K (.ref A108) = true)
    (h_a_is_integer : PySem.W.nsIn K mainGlobals "is_integer" = some (some (.ref A109)))
    (h_l_is_integer : K.lookup A109 = some ⟨oc109, od109, .func (PySem.W.fnOf "is_integer" "is_integer" (defArgs s_is_integer) (defBody s_is_integer) (defScope s_is_integer) .none kV109 dc109 pm109 an109 cd109 ct109), sl109⟩)
    (h_c_is_integer : PySem.W.codeIn K cd109 "is_integer" = true)
    (h_k_is_integer : PySem.W.keepIn K (.ref A109) = true)
    (h_a_is_pair : PySem.W.nsIn K mainGlobals "is_pair" = some (some (.ref A110)))
    (h_l_is_pair : K.lookup A110 = some ⟨oc110, od110, .func (PySem.W.fnOf "is_pair" "is_pair" (defArgs s_is_pair) (defBody s_is_pair) (defScope s_is_pair) .none kV110 dc110 pm110 an110 cd110 ct110), sl110⟩)
    (h_c_is_pair : PySem.W.codeIn K cd110 "is_pair" = true)
    (h_k_is_pair : PySem.W.keepIn K (.ref A110) = true)
    (h_a_check_pairs : PySem.W.nsIn K mainGlobals "check_pairs" = some (some (.ref A111)))
    (h_l_check_pairs : K.lookup A111 = some ⟨oc111, od111, .func (PySem.W.fnOf "check_pairs" "check_pairs" (defArgs s_check_pairs) (defBody s_check_pairs) (defScope s_check_pairs) .none kV111 dc111 pm111 an111 cd111 ct111), sl111⟩)
    (h_c_check_pairs : PySem.W.codeIn K cd111 "check_pairs" = true)
    (h_k_check_pairs : PySem.W.keepIn K (.ref A111) = true)
    (h_a_InvalidWorths___init__ : PySem.W.findIn K (.ref A24) "__init__" = some (some (.ref A112)))
    (h_l_InvalidWorths___init__ : K.lookup A112 = some ⟨oc112, od112, .func (PySem.W.fnOf "__init__" "InvalidWorths.__init__" (defArgs s_InvalidWorths___init__) (defBody s_InvalidWorths___init__) (defScope s_InvalidWorths___init__) .none kV112 dc112 pm112 an112 cd112 ct112), sl112⟩)
    (h_c_InvalidWorths___init__ : PySem.W.codeIn K cd112 "InvalidWorths.__init__" = true)
    (h_k_InvalidWorths___init__ : PySem.W.keepIn K (.ref A112) = true)
    (h_a_check_worths : PySem.W.nsIn K mainGlobals "check_worths" = some (some (.ref A113)))
    (h_l_check_worths : K.lookup A113 = some ⟨oc113, od113, .func (PySem.W.fnOf "check_worths" "check_worths" (defArgs s_check_worths) (defBody s_check_worths) (defScope s_check_worths) .none kV113 dc113 pm113 an113 cd113 ct113), sl113⟩)
    (h_c_check_worths : PySem.W.codeIn K cd113 "check_worths" = true)
    (h_k_check_worths : PySem.W.keepIn K (.ref A113) = true)
    (h_a_lot_of : PySem.W.nsIn K mainGlobals "lot_of" = some (some (.ref A114)))
    (h_l_lot_of : K.lookup A114 = some ⟨oc114, od114, .func (PySem.W.fnOf "lot_of" "lot_of" (defArgs s_lot_of) (defBody s_lot_of) (defScope s_lot_of) .none kV114 dc114 pm114 an114 cd114 ct114), sl114⟩)
    (h_c_lot_of : PySem.W.codeIn K cd114 "lot_of" = true)
    (h_k_lot_of : PySem.W.keepIn K (.ref A114) = true)
    (h_a_Heap___init__ : PySem.W.findIn K (.ref A0) "__init__" = some (some (.ref A115)))
    (h_l_Heap___init__ : K.lookup A115 = some ⟨oc115, od115, .func (PySem.W.fnOf "__init__" "Heap.__init__" (defArgs s_Heap___init__) (defBody s_Heap___init__) (defScope s_Heap___init__) .none kV115 dc115 pm115 an115 cd115 ct115), sl115⟩)
    (h_c_Heap___init__ : PySem.W.codeIn K cd115 "Heap.__init__" = true)
    (h_k_Heap___init__ : PySem.W.keepIn K (.ref A115) = true)
    (h_a_InvalidPlaces___init__ : PySem.W.findIn K (.ref A26) "__init__" = some (some (.ref A116)))
    (h_l_InvalidPlaces___init__ : K.lookup A116 = some ⟨oc116, od116, .func (PySem.W.fnOf "__init__" "InvalidPlaces.__init__" (defArgs s_InvalidPlaces___init__) (defBody s_InvalidPlaces___init__) (defScope s_InvalidPlaces___init__) .none kV116 dc116 pm116 an116 cd116 ct116), sl116⟩)
    (h_c_InvalidPlaces___init__ : PySem.W.codeIn K cd116 "InvalidPlaces.__init__" = true)
    (h_k_InvalidPlaces___init__ : PySem.W.keepIn K (.ref A116) = true)
    (h_a_check_places : PySem.W.nsIn K mainGlobals "check_places" = some (some (.ref A117)))
    (h_l_check_places : K.lookup A117 = some ⟨oc117, od117, .func (PySem.W.fnOf "check_places" "check_places" (defArgs s_check_places) (defBody s_check_places) (defScope s_check_places) .none kV117 dc117 pm117 an117 cd117 ct117), sl117⟩)
    (h_c_check_places : PySem.W.codeIn K cd117 "check_places" = true)
    (h_k_check_places : PySem.W.keepIn K (.ref A117) = true)
    (h_a_InvalidReach___init__ : PySem.W.findIn K (.ref A20) "__init__" = some (some (.ref A118)))
    (h_l_InvalidReach___init__ : K.lookup A118 = some ⟨oc118, od118, .func (PySem.W.fnOf "__init__" "InvalidReach.__init__" (defArgs s_InvalidReach___init__) (defBody s_InvalidReach___init__) (defScope s_InvalidReach___init__) .none kV118 dc118 pm118 an118 cd118 ct118), sl118⟩)
    (h_c_InvalidReach___init__ : PySem.W.codeIn K cd118 "InvalidReach.__init__" = true)
    (h_k_InvalidReach___init__ : PySem.W.keepIn K (.ref A118) = true)
    (h_a_check_reach : PySem.W.nsIn K mainGlobals "check_reach" = some (some (.ref A119)))
    (h_l_check_reach : K.lookup A119 = some ⟨oc119, od119, .func (PySem.W.fnOf "check_reach" "check_reach" (defArgs s_check_reach) (defBody s_check_reach) (defScope s_check_reach) .none kV119 dc119 pm119 an119 cd119 ct119), sl119⟩)
    (h_c_check_reach : PySem.W.codeIn K cd119 "check_reach" = true)
    (h_k_check_reach : PySem.W.keepIn K (.ref A119) = true)
    (h_a_pairs_with : PySem.W.nsIn K mainGlobals "pairs_with" = some (some (.ref A120)))
    (h_l_pairs_with : K.lookup A120 = some ⟨oc120, od120, .func (PySem.W.fnOf "pairs_with" "pairs_with" (defArgs s_pairs_with) (defBody s_pairs_with) (defScope s_pairs_with) .none kV120 dc120 pm120 an120 cd120 ct120), sl120⟩)
    (h_c_pairs_with : PySem.W.codeIn K cd120 "pairs_with" = true)
    (h_k_pairs_with : PySem.W.keepIn K (.ref A120) = true)
    (h_sf1_Heap_line : PySem.W.findCls K (.ref A0) (.type "type") "line" = some (.get (.builtin "staticmethod.__get__") (.ref SP121) .none (.ref A0)))
    (h_sf2_Heap_line : PySem.W.recIn K SP121 "staticmethod" = some (.ref A121 :: sq121))
    (h_l_Heap_line : K.lookup A121 = some ⟨oc121, od121, .func (PySem.W.fnOf "line" "Heap.line" (defArgs s_Heap_line) (defBody s_Heap_line) (defScope s_Heap_line) .none kV121 dc121 pm121 an121 cd121 ct121), sl121⟩)
    (h_c_Heap_line : PySem.W.codeIn K cd121 "Heap.line" = true)
    (h_k_Heap_line : PySem.W.keepIn K (.ref A121) = true)
    (h_a_are_close : PySem.W.nsIn K mainGlobals "are_close" = some (some (.ref A122)))
    (h_l_are_close : K.lookup A122 = some ⟨oc122, od122, .func (PySem.W.fnOf "are_close" "are_close" (defArgs s_are_close) (defBody s_are_close) (defScope s_are_close) .none kV122 dc122 pm122 an122 cd122 ct122), sl122⟩)
    (h_c_are_close : PySem.W.codeIn K cd122 "are_close" = true)
    (h_k_are_close : PySem.W.keepIn K (.ref A122) = true)
    (h_a_InvalidWords___init__ : PySem.W.findIn K (.ref A27) "__init__" = some (some (.ref A123)))
    (h_l_InvalidWords___init__ : K.lookup A123 = some ⟨oc123, od123, .func (PySem.W.fnOf "__init__" "InvalidWords.__init__" (defArgs s_InvalidWords___init__) (defBody s_InvalidWords___init__) (defScope s_InvalidWords___init__) .none kV123 dc123 pm123 an123 cd123 ct123), sl123⟩)
    (h_c_InvalidWords___init__ : PySem.W.codeIn K cd123 "InvalidWords.__init__" = true)
    (h_k_InvalidWords___init__ : PySem.W.keepIn K (.ref A123) = true)
    (h_a_check_words : PySem.W.nsIn K mainGlobals "check_words" = some (some (.ref A124)))
    (h_l_check_words : K.lookup A124 = some ⟨oc124, od124, .func (PySem.W.fnOf "check_words" "check_words" (defArgs s_check_words) (defBody s_check_words) (defScope s_check_words) .none kV124 dc124 pm124 an124 cd124 ct124), sl124⟩)
    (h_c_check_words : PySem.W.codeIn K cd124 "check_words" = true)
    (h_k_check_words : PySem.W.keepIn K (.ref A124) = true)
    (h_sf1_Heap_words : PySem.W.findCls K (.ref A0) (.type "type") "words" = some (.get (.builtin "staticmethod.__get__") (.ref SP125) .none (.ref A0)))
    (h_sf2_Heap_words : PySem.W.recIn K SP125 "staticmethod" = some (.ref A125 :: sq125))
    (h_l_Heap_words : K.lookup A125 = some ⟨oc125, od125, .func (PySem.W.fnOf "words" "Heap.words" (defArgs s_Heap_words) (defBody s_Heap_words) (defScope s_Heap_words) .none kV125 dc125 pm125 an125 cd125 ct125), sl125⟩)
    (h_c_Heap_words : PySem.W.codeIn K cd125 "Heap.words" = true)
    (h_k_Heap_words : PySem.W.keepIn K (.ref A125) = true)
    (h_a__law_scoop : PySem.W.nsIn K mainGlobals "_law_scoop" = some (some (.ref A126)))
    (h_l__law_scoop : K.lookup A126 = some ⟨oc126, od126, .func (PySem.W.fnOf "_law_scoop" "_law_scoop" (defArgs s__law_scoop) (defBody s__law_scoop) (defScope s__law_scoop) .none kV126 dc126 pm126 an126 cd126 ct126), sl126⟩)
    (h_c__law_scoop : PySem.W.codeIn K cd126 "_law_scoop" = true)
    (h_k__law_scoop : PySem.W.keepIn K (.ref A126) = true)
    (h_a__law_any_of : PySem.W.nsIn K mainGlobals "_law_any_of" = some (some (.ref A127)))
    (h_l__law_any_of : K.lookup A127 = some ⟨oc127, od127, .func (PySem.W.fnOf "_law_any_of" "_law_any_of" (defArgs s__law_any_of) (defBody s__law_any_of) (defScope s__law_any_of) .none kV127 dc127 pm127 an127 cd127 ct127), sl127⟩)
    (h_c__law_any_of : PySem.W.codeIn K cd127 "_law_any_of" = true)
    (h_k__law_any_of : PySem.W.keepIn K (.ref A127) = true)
    (h_a__law_pairs_of : PySem.W.nsIn K mainGlobals "_law_pairs_of" = some (some (.ref A128)))
    (h_l__law_pairs_of : K.lookup A128 = some ⟨oc128, od128, .func (PySem.W.fnOf "_law_pairs_of" "_law_pairs_of" (defArgs s__law_pairs_of) (defBody s__law_pairs_of) (defScope s__law_pairs_of) .none kV128 dc128 pm128 an128 cd128 ct128), sl128⟩)
    (h_c__law_pairs_of : PySem.W.codeIn K cd128 "_law_pairs_of" = true)
    (h_k__law_pairs_of : PySem.W.keepIn K (.ref A128) = true)
    (h_a__law_unlike : PySem.W.nsIn K mainGlobals "_law_unlike" = some (some (.ref A129)))
    (h_l__law_unlike : K.lookup A129 = some ⟨oc129, od129, .func (PySem.W.fnOf "_law_unlike" "_law_unlike" (defArgs s__law_unlike) (defBody s__law_unlike) (defScope s__law_unlike) .none kV129 dc129 pm129 an129 cd129 ct129), sl129⟩)
    (h_c__law_unlike : PySem.W.codeIn K cd129 "_law_unlike" = true)
    (h_k__law_unlike : PySem.W.keepIn K (.ref A129) = true)
    (h_a__law_values : PySem.W.nsIn K mainGlobals "_law_values" = some (some (.ref A130)))
    (h_l__law_values : K.lookup A130 = some ⟨oc130, od130, .func (PySem.W.fnOf "_law_values" "_law_values" (defArgs s__law_values) (defBody s__law_values) (defScope s__law_values) .none kV130 dc130 pm130 an130 cd130 ct130), sl130⟩)
    (h_c__law_values : PySem.W.codeIn K cd130 "_law_values" = true)
    (h_k__law_values : PySem.W.keepIn K (.ref A130) = true)
    (h_a__law_right : PySem.W.nsIn K mainGlobals "_law_right" = some (some (.ref A131)))
    (h_l__law_right : K.lookup A131 = some ⟨oc131, od131, .func (PySem.W.fnOf "_law_right" "_law_right" (defArgs s__law_right) (defBody s__law_right) (defScope s__law_right) .none kV131 dc131 pm131 an131 cd131 ct131), sl131⟩)
    (h_c__law_right : PySem.W.codeIn K cd131 "_law_right" = true)
    (h_k__law_right : PySem.W.keepIn K (.ref A131) = true)
    (h_a__law_well : PySem.W.nsIn K mainGlobals "_law_well" = some (some (.ref A132)))
    (h_l__law_well : K.lookup A132 = some ⟨oc132, od132, .func (PySem.W.fnOf "_law_well" "_law_well" (defArgs s__law_well) (defBody s__law_well) (defScope s__law_well) .none kV132 dc132 pm132 an132 cd132 ct132), sl132⟩)
    (h_c__law_well : PySem.W.codeIn K cd132 "_law_well" = true)
    (h_k__law_well : PySem.W.keepIn K (.ref A132) = true)
    (h_a_law : PySem.W.nsIn K mainGlobals "law" = some (some (.ref A133)))
    (h_l_law : K.lookup A133 = some ⟨oc133, od133, .func (PySem.W.fnOf "law" "law" (defArgs s_law) (defBody s_law) (defScope s_law) .none kV133 dc133 pm133 an133 cd133 ct133), sl133⟩)
    (h_c_law : PySem.W.codeIn K cd133 "law" = true)
    (h_k_law : PySem.W.keepIn K (.ref A133) = true)
    (h_e_Heap_line : cd121 = .ref C121)
    (h_t_Heap_line : tabOf K C121 = some P121)
    (h_tc_Heap_line : PySem.W.codeHdIn K C121 P121 = true)
    (h_tn_Heap_line : K.lookup P121 = none)
    (h_tg_Heap_line : h.get? P121 = some { cls := .none, data := .fields #[] })
    (h_e_Heap_words : cd125 = .ref C125)
    (h_t_Heap_words : tabOf K C125 = some P125)
    (h_tc_Heap_words : PySem.W.codeHdIn K C125 P125 = true)
    (h_tn_Heap_words : K.lookup P125 = none)
    (h_tg_Heap_words : h.get? P125 = some { cls := .none, data := .fields #[] })
    (h_e__law_right : cd131 = .ref C131)
    (h_t__law_right : tabOf K C131 = some P131)
    (h_tc__law_right : PySem.W.codeHdIn K C131 P131 = true)
    (h_tn__law_right : K.lookup P131 = none)
    (h_tg__law_right : h.get? P131 = some { cls := .none, data := .fields #[] })
    (h_np_121_125 : ¬ (P121 = P125))
    (h_np_121_131 : ¬ (P121 = P131))
    (h_np_125_131 : ¬ (P125 = P131))
    (h_mki_Heap : PySem.W.makesIn K A0 = true)
    (h_fi_Heap : PySem.W.isFn K (.ref A115) = true)
    (h_k_Heap : PySem.W.keepIn K (.ref A0) = true)
    (h_pg_Heap : PySem.W.plainGet K A0 Str.empty = true)
    (h_hd_Heap : PySem.W.hasDictIn K A0 = true)
    (h_po_Heap : PySem.W.plainOver K A0 = true)
    (h_sa_Heap : PySem.W.findIn K (.ref A0) "__setattr__" = some (some (.builtin "object.__setattr__")))
    (h_no_Heap_worths : PySem.W.findIn K (.ref A0) "worths" = some none)
    (h_no_Heap_pairs : PySem.W.findIn K (.ref A0) "pairs" = some none)
    (h_no_Heap_by_thing : PySem.W.findIn K (.ref A0) "by_thing" = some none)
    (h_no_Heap_lots : PySem.W.findIn K (.ref A0) "lots" = some none)
    (h_no_Heap_passes_on : PySem.W.findIn K (.ref A0) "passes_on" = some none)
    (h_hgs : PySem.W.specialIn K (.builtin "object.__class__") "__get__" = some (some (.builtin "getset_descriptor.__get__")))
    (h_htks : PySem.W.takesIn K (.builtin "object.__class__") = some true)
    (h_ha_Heap : PySem.W.findIn K (.ref A0) "__class__" = some (some (.builtin "object.__class__")))
    (h_hm_Heap : PySem.W.mroIn K A0 (.type "object") = some true)
    (h_kT_Heap_bool : PySem.W.subIn K (.ref A0) (.type "bool") = some false)
    (h_kT_Heap_int : PySem.W.subIn K (.ref A0) (.type "int") = some false)
    (h_kT_Heap_str : PySem.W.subIn K (.ref A0) (.type "str") = some false)
    (h_kT_Heap_tuple : PySem.W.subIn K (.ref A0) (.type "tuple") = some false)
    (h_sg_Heap_line : PySem.W.specialIn K (.ref A0) "__getattribute__" = some (some (.builtin "type.__getattribute__")))
    (h_sy_Heap_line : PySem.W.typeIn K (.ref A0) = some (.type "type"))
    (h_sr_Heap_line : PySem.W.readsIn K A0 (.type "type") = true)
    (h_sg_Heap_words : PySem.W.specialIn K (.ref A0) "__getattribute__" = some (some (.builtin "type.__getattribute__")))
    (h_sy_Heap_words : PySem.W.typeIn K (.ref A0) = some (.type "type"))
    (h_sr_Heap_words : PySem.W.readsIn K A0 (.type "type") = true)
    (h_xl_InvalidReach : K.lookup A20 = some (excClassObj nm20 q20 A20 N20 bs20 bm20 true sn20 sub20 ab20 col20 dd20 m020 m120 m220 m320 m520 "ValueError.__new__"))
    (h_xr_InvalidReach : PySem.HandSPX.refsVE bm20 = true)
    (h_xs_InvalidReach : PySem.W.findIn K (.ref A20) "__setattr__" = some (some (.builtin "object.__setattr__")))
    (h_xe_InvalidReach : PySem.W.subIn K (.ref A20) (.type "BaseException") = some true)
    (h_xt_InvalidReach : PySem.W.typeIn K (.ref A20) = some (.type "type"))
    (h_xk_InvalidReach : PySem.W.keepIn K (.ref A20) = true)
    (h_ti_InvalidReach : PySem.W.typeIn K (.ref A118) = some (.type "function"))
    (h_xn_InvalidReach : PySem.W.findIn K (.ref A20) "value" = some none)
    (h_xl_InvalidWorths : K.lookup A24 = some (excClassObj nm24 q24 A24 N24 bs24 bm24 true sn24 sub24 ab24 col24 dd24 m024 m124 m224 m324 m524 "ValueError.__new__"))
    (h_xr_InvalidWorths : PySem.HandSPX.refsVE bm24 = true)
    (h_xs_InvalidWorths : PySem.W.findIn K (.ref A24) "__setattr__" = some (some (.builtin "object.__setattr__")))
    (h_xe_InvalidWorths : PySem.W.subIn K (.ref A24) (.type "BaseException") = some true)
    (h_xt_InvalidWorths : PySem.W.typeIn K (.ref A24) = some (.type "type"))
    (h_xk_InvalidWorths : PySem.W.keepIn K (.ref A24) = true)
    (h_ti_InvalidWorths : PySem.W.typeIn K (.ref A112) = some (.type "function"))
    (h_xn_InvalidWorths : PySem.W.findIn K (.ref A24) "index" = some none)
    (h_xl_InvalidPairs : K.lookup A25 = some (excClassObj nm25 q25 A25 N25 bs25 bm25 true sn25 sub25 ab25 col25 dd25 m025 m125 m225 m325 m525 "ValueError.__new__"))
    (h_xr_InvalidPairs : PySem.HandSPX.refsVE bm25 = true)
    (h_xs_InvalidPairs : PySem.W.findIn K (.ref A25) "__setattr__" = some (some (.builtin "object.__setattr__")))
    (h_xe_InvalidPairs : PySem.W.subIn K (.ref A25) (.type "BaseException") = some true)
    (h_xt_InvalidPairs : PySem.W.typeIn K (.ref A25) = some (.type "type"))
    (h_xk_InvalidPairs : PySem.W.keepIn K (.ref A25) = true)
    (h_ti_InvalidPairs : PySem.W.typeIn K (.ref A108) = some (.type "function"))
    (h_xn_InvalidPairs : PySem.W.findIn K (.ref A25) "index" = some none)
    (h_xl_InvalidPlaces : K.lookup A26 = some (excClassObj nm26 q26 A26 N26 bs26 bm26 true sn26 sub26 ab26 col26 dd26 m026 m126 m226 m326 m526 "ValueError.__new__"))
    (h_xr_InvalidPlaces : PySem.HandSPX.refsVE bm26 = true)
    (h_xs_InvalidPlaces : PySem.W.findIn K (.ref A26) "__setattr__" = some (some (.builtin "object.__setattr__")))
    (h_xe_InvalidPlaces : PySem.W.subIn K (.ref A26) (.type "BaseException") = some true)
    (h_xt_InvalidPlaces : PySem.W.typeIn K (.ref A26) = some (.type "type"))
    (h_xk_InvalidPlaces : PySem.W.keepIn K (.ref A26) = true)
    (h_ti_InvalidPlaces : PySem.W.typeIn K (.ref A116) = some (.type "function"))
    (h_xn_InvalidPlaces : PySem.W.findIn K (.ref A26) "index" = some none)
    (h_xl_InvalidWords : K.lookup A27 = some (excClassObj nm27 q27 A27 N27 bs27 bm27 true sn27 sub27 ab27 col27 dd27 m027 m127 m227 m327 m527 "ValueError.__new__"))
    (h_xr_InvalidWords : PySem.HandSPX.refsVE bm27 = true)
    (h_xs_InvalidWords : PySem.W.findIn K (.ref A27) "__setattr__" = some (some (.builtin "object.__setattr__")))
    (h_xe_InvalidWords : PySem.W.subIn K (.ref A27) (.type "BaseException") = some true)
    (h_xt_InvalidWords : PySem.W.typeIn K (.ref A27) = some (.type "type"))
    (h_xk_InvalidWords : PySem.W.keepIn K (.ref A27) = true)
    (h_ti_InvalidWords : PySem.W.typeIn K (.ref A123) = some (.type "function"))
    (h_xn_InvalidWords : PySem.W.findIn K (.ref A27) "index" = some none)
    (h_i_MOST_LETTERS : PySem.W.nsIn K mainGlobals "MOST_LETTERS" = some (some (.int 20 t_i_MOST_LETTERS)))
    (h_i_MOST_THINGS : PySem.W.nsIn K mainGlobals "MOST_THINGS" = some (some (.int 9 t_i_MOST_THINGS)))
    (h_n_abs : PySem.W.nsIn K mainGlobals "abs" = some none)
    (h_n_all : PySem.W.nsIn K mainGlobals "all" = some none)
    (h_n_bool : PySem.W.nsIn K mainGlobals "bool" = some none)
    (h_n_divmod : PySem.W.nsIn K mainGlobals "divmod" = some none)
    (h_n_enumerate : PySem.W.nsIn K mainGlobals "enumerate" = some none)
    (h_n_int : PySem.W.nsIn K mainGlobals "int" = some none)
    (h_n_isinstance : PySem.W.nsIn K mainGlobals "isinstance" = some none)
    (h_n_len : PySem.W.nsIn K mainGlobals "len" = some none)
    (h_n_list : PySem.W.nsIn K mainGlobals "list" = some none)
    (h_n_max : PySem.W.nsIn K mainGlobals "max" = some none)
    (h_n_min : PySem.W.nsIn K mainGlobals "min" = some none)
    (h_n_range : PySem.W.nsIn K mainGlobals "range" = some none)
    (h_n_sorted : PySem.W.nsIn K mainGlobals "sorted" = some none)
    (h_n_str : PySem.W.nsIn K mainGlobals "str" = some none)
    (h_n_sum : PySem.W.nsIn K mainGlobals "sum" = some none)
    (h_n_tuple : PySem.W.nsIn K mainGlobals "tuple" = some none)
    (h_n_zip : PySem.W.nsIn K mainGlobals "zip" = some none)
    : ∃ (fd : FuncData) (cs : List (Addr × Addr)) (sp : Sp), (∀ p ∈ cs, h.get? p.2 = some { cls := .none, data := .fields #[] }) ∧ (∀ p ∈ cs, K.lookup p.2 = none) ∧ (∀ p ∈ cs, PySem.W.CodeHd h p.1 p.2) ∧ (∀ (s : Shared) (u : Value), BindsTo s fd ⟨[u], []⟩ [("_law_script", u)]) ∧
      (∀ base : Heap, K.In base → base.Ns mainGlobals mg → (∀ p ∈ cs, LamX.TabB base mg p.1 p.2) → FnG l.prog w K mg base 8 fa fd ["_law_script"] sp) ∧
      ∀ (H : Hp) (a : Addr) (ns : List Int), ns.length ≤ 63 → (∀ p ∈ cs, H p.2 = some (.tbl #[])) → FzL K H a (ns.map V.int) → sp [.ref a] H (fun v _ => v = .bl true) fun _ _ _ => False := by
  subst h_e_Heap_line
  subst h_e_Heap_words
  subst h_e__law_right
  have e := hfa.symm.trans (PySem.W.mg_of X G h_a_law)
  cases e
  have F108 := fun_mk (st := s_InvalidPairs___init__) h_l_InvalidPairs___init__ h_c_InvalidPairs___init__ h_k_InvalidPairs___init__
  have b108 := F108.binds (ps := ["self", "index"]) fun _ _ _ _ _ _ us hl => match us, hl with | [_, _], _ => rfl
  have F109 := fun_mk (st := s_is_integer) h_l_is_integer h_c_is_integer h_k_is_integer
  have b109 := F109.binds (ps := ["value"]) fun _ _ _ _ _ _ us hl => match us, hl with | [_], _ => rfl
  have F110 := fun_mk (st := s_is_pair) h_l_is_pair h_c_is_pair h_k_is_pair
  have b110 := F110.binds (ps := ["value", "count"]) fun _ _ _ _ _ _ us hl => match us, hl with | [_, _], _ => rfl
  have F111 := fun_mk (st := s_check_pairs) h_l_check_pairs h_c_check_pairs h_k_check_pairs
  have b111 := F111.binds (ps := ["value", "count"]) fun _ _ _ _ _ _ us hl => match us, hl with | [_, _], _ => rfl
  have F112 := fun_mk (st := s_InvalidWorths___init__) h_l_InvalidWorths___init__ h_c_InvalidWorths___init__ h_k_InvalidWorths___init__
  have b112 := F112.binds (ps := ["self", "index"]) fun _ _ _ _ _ _ us hl => match us, hl with | [_, _], _ => rfl
  have F113 := fun_mk (st := s_check_worths) h_l_check_worths h_c_check_worths h_k_check_worths
  have b113 := F113.binds (ps := ["value"]) fun _ _ _ _ _ _ us hl => match us, hl with | [_], _ => rfl
  have F114 := fun_mk (st := s_lot_of) h_l_lot_of h_c_lot_of h_k_lot_of
  have b114 := F114.binds (ps := ["thing", "pairs"]) fun _ _ _ _ _ _ us hl => match us, hl with | [_, _], _ => rfl
  have F115 := fun_mk (st := s_Heap___init__) h_l_Heap___init__ h_c_Heap___init__ h_k_Heap___init__
  have b115 := F115.binds (ps := ["self", "worths", "pairs"]) fun _ _ _ _ _ _ us hl => match us, hl with | [_, _, _], _ => rfl
  have F116 := fun_mk (st := s_InvalidPlaces___init__) h_l_InvalidPlaces___init__ h_c_InvalidPlaces___init__ h_k_InvalidPlaces___init__
  have b116 := F116.binds (ps := ["self", "index"]) fun _ _ _ _ _ _ us hl => match us, hl with | [_, _], _ => rfl
  have F117 := fun_mk (st := s_check_places) h_l_check_places h_c_check_places h_k_check_places
  have b117 := F117.binds (ps := ["value", "count"]) fun _ _ _ _ _ _ us hl => match us, hl with | [_, _], _ => rfl
  have F118 := fun_mk (st := s_InvalidReach___init__) h_l_InvalidReach___init__ h_c_InvalidReach___init__ h_k_InvalidReach___init__
  have b118 := F118.binds (ps := ["self", "value"]) fun _ _ _ _ _ _ us hl => match us, hl with | [_, _], _ => rfl
  have F119 := fun_mk (st := s_check_reach) h_l_check_reach h_c_check_reach h_k_check_reach
  have b119 := F119.binds (ps := ["value"]) fun _ _ _ _ _ _ us hl => match us, hl with | [_], _ => rfl
  have F120 := fun_mk (st := s_pairs_with) h_l_pairs_with h_c_pairs_with h_k_pairs_with
  have b120 := F120.binds (ps := ["count", "test"]) fun _ _ _ _ _ _ us hl => match us, hl with | [_, _], _ => rfl
  have F121 := fun_mk (st := s_Heap_line) h_l_Heap_line h_c_Heap_line h_k_Heap_line
  have b121 := F121.binds (ps := ["worths", "places", "reach"]) fun _ _ _ _ _ _ us hl => match us, hl with | [_, _, _], _ => rfl
  have F122 := fun_mk (st := s_are_close) h_l_are_close h_c_are_close h_k_are_close
  have b122 := F122.binds (ps := ["one", "other", "most"]) fun _ _ _ _ _ _ us hl => match us, hl with | [_, _, _], _ => rfl
  have F123 := fun_mk (st := s_InvalidWords___init__) h_l_InvalidWords___init__ h_c_InvalidWords___init__ h_k_InvalidWords___init__
  have b123 := F123.binds (ps := ["self", "index"]) fun _ _ _ _ _ _ us hl => match us, hl with | [_, _], _ => rfl
  have F124 := fun_mk (st := s_check_words) h_l_check_words h_c_check_words h_k_check_words
  have b124 := F124.binds (ps := ["value", "count"]) fun _ _ _ _ _ _ us hl => match us, hl with | [_, _], _ => rfl
  have F125 := fun_mk (st := s_Heap_words) h_l_Heap_words h_c_Heap_words h_k_Heap_words
  have b125 := F125.binds (ps := ["worths", "words", "most"]) fun _ _ _ _ _ _ us hl => match us, hl with | [_, _, _], _ => rfl
  have F126 := fun_mk (st := s__law_scoop) h_l__law_scoop h_c__law_scoop h_k__law_scoop
  have b126 := F126.binds (ps := ["_law_well_here", "_law_many"]) fun _ _ _ _ _ _ us hl => match us, hl with | [_, _], _ => rfl
  have F127 := fun_mk (st := s__law_any_of) h_l__law_any_of h_c__law_any_of h_k__law_any_of
  have b127 := F127.binds (ps := ["_law_well_here", "_law_some"]) fun _ _ _ _ _ _ us hl => match us, hl with | [_, _], _ => rfl
  have F128 := fun_mk (st := s__law_pairs_of) h_l__law_pairs_of h_c__law_pairs_of h_k__law_pairs_of
  have b128 := F128.binds (ps := ["_law_many", "_law_test"]) fun _ _ _ _ _ _ us hl => match us, hl with | [_, _], _ => rfl
  have F129 := fun_mk (st := s__law_unlike) h_l__law_unlike h_c__law_unlike h_k__law_unlike
  have b129 := F129.binds (ps := ["_law_one", "_law_two"]) fun _ _ _ _ _ _ us hl => match us, hl with | [_, _], _ => rfl
  have F130 := fun_mk (st := s__law_values) h_l__law_values h_c__law_values h_k__law_values
  have b130 := F130.binds (ps := ["_law_well_here", "_law_many"]) fun _ _ _ _ _ _ us hl => match us, hl with | [_, _], _ => rfl
  have F131 := fun_mk (st := s__law_right) h_l__law_right h_c__law_right h_k__law_right
  have b131 := F131.binds (ps := ["_law_well_here"]) fun _ _ _ _ _ _ us hl => match us, hl with | [_], _ => rfl
  have F132 := fun_mk (st := s__law_well) h_l__law_well h_c__law_well h_k__law_well
  have b132 := F132.binds (ps := ["_law_script", "_law_k"]) fun _ _ _ _ _ _ us hl => match us, hl with | [_, _], _ => rfl
  have F133 := fun_mk (st := s_law) h_l_law h_c_law h_k_law
  have b133 := F133.binds (ps := ["_law_script"]) fun _ _ _ _ _ _ us hl => match us, hl with | [_], _ => rfl
  have T : ∀ base : Heap, (∀ p ∈ ([(C121, P121), (C125, P125), (C131, P131)] : List (Addr × Addr)), LamX.TabB base mg p.1 p.2) → Txt K mg base (fun n => cond (Nat.beq n 0) A0 (cond (Nat.beq n 20) A20 (cond (Nat.beq n 24) A24 (cond (Nat.beq n 25) A25 (cond (Nat.beq n 26) A26 (cond (Nat.beq n 27) A27 (cond (Nat.beq n 108) A108 (cond (Nat.beq n 109) A109 (cond (Nat.beq n 110) A110 (cond (Nat.beq n 111) A111 (cond (Nat.beq n 112) A112 (cond (Nat.beq n 113) A113 (cond (Nat.beq n 114) A114 (cond (Nat.beq n 115) A115 (cond (Nat.beq n 116) A116 (cond (Nat.beq n 117) A117 (cond (Nat.beq n 118) A118 (cond (Nat.beq n 119) A119 (cond (Nat.beq n 120) A120 (cond (Nat.beq n 121) A121 (cond (Nat.beq n 122) A122 (cond (Nat.beq n 123) A123 (cond (Nat.beq n 124) A124 (cond (Nat.beq n 125) A125 (cond (Nat.beq n 126) A126 (cond (Nat.beq n 127) A127 (cond (Nat.beq n 128) A128 (cond (Nat.beq n 129) A129 (cond (Nat.beq n 130) A130 (cond (Nat.beq n 131) A131 (cond (Nat.beq n 132) A132 (cond (Nat.beq n 133) fa (0))))))))))))))))))))))))))))))))) (fun n => cond (Nat.beq n 108) (PySem.W.fnOf "__init__" "InvalidPairs.__init__" (defArgs s_InvalidPairs___init__) (defBody s_InvalidPairs___init__) (defScope s_InvalidPairs___init__) .none kV108 dc108 pm108 an108 cd108 ct108) (cond (Nat.beq n 109) (PySem.W.fnOf "is_integer" "is_integer" (defArgs s_is_integer) (defBody s_is_integer) (defScope s_is_integer) .none kV109 dc109 pm109 an109 cd109 ct109) (cond (Nat.beq n 110) (PySem.W.fnOf "is_pair" "is_pair" (defArgs s_is_pair) (defBody s_is_pair) (defScope s_is_pair) .none kV110 dc110 pm110 an110 cd110 ct110) (cond (Nat.beq n 111) (PySem.W.fnOf "check_pairs" "check_pairs" (defArgs s_check_pairs) (defBody s_check_pairs) (defScope s_check_pairs) .none kV111 dc111 pm111 an111 cd111 ct111) (cond (Nat.beq n 112) (PySem.W.fnOf "__init__" "InvalidWorths.__init__" (defArgs s_InvalidWorths___init__) (defBody s_InvalidWorths___init__) (defScope s_InvalidWorths___init__) .none kV112 dc112 pm112 an112 cd112 ct112) (cond (Nat.beq n 113) (PySem.W.fnOf "check_worths" "check_worths" (defArgs s_check_worths) (defBody s_check_worths) (defScope s_check_worths) .none kV113 dc113 pm113 an113 cd113 ct113) (cond (Nat.beq n 114) (PySem.W.fnOf "lot_of" "lot_of" (defArgs s_lot_of) (defBody s_lot_of) (defScope s_lot_of) .none kV114 dc114 pm114 an114 cd114 ct114) (cond (Nat.beq n 115) (PySem.W.fnOf "__init__" "Heap.__init__" (defArgs s_Heap___init__) (defBody s_Heap___init__) (defScope s_Heap___init__) .none kV115 dc115 pm115 an115 cd115 ct115) (cond (Nat.beq n 116) (PySem.W.fnOf "__init__" "InvalidPlaces.__init__" (defArgs s_InvalidPlaces___init__) (defBody s_InvalidPlaces___init__) (defScope s_InvalidPlaces___init__) .none kV116 dc116 pm116 an116 cd116 ct116) (cond (Nat.beq n 117) (PySem.W.fnOf "check_places" "check_places" (defArgs s_check_places) (defBody s_check_places) (defScope s_check_places) .none kV117 dc117 pm117 an117 cd117 ct117) (cond (Nat.beq n 118) (PySem.W.fnOf "__init__" "InvalidReach.__init__" (defArgs s_InvalidReach___init__) (defBody s_InvalidReach___init__) (defScope s_InvalidReach___init__) .none kV118 dc118 pm118 an118 cd118 ct118) (cond (Nat.beq n 119) (PySem.W.fnOf "check_reach" "check_reach" (defArgs s_check_reach) (defBody s_check_reach) (defScope s_check_reach) .none kV119 dc119 pm119 an119 cd119 ct119) (cond (Nat.beq n 120) (PySem.W.fnOf "pairs_with" "pairs_with" (defArgs s_pairs_with) (defBody s_pairs_with) (defScope s_pairs_with) .none kV120 dc120 pm120 an120 cd120 ct120) (cond (Nat.beq n 121) (PySem.W.fnOf "line" "Heap.line" (defArgs s_Heap_line) (defBody s_Heap_line) (defScope s_Heap_line) .none kV121 dc121 pm121 an121 (.ref C121) ct121) (cond (Nat.beq n 122) (PySem.W.fnOf "are_close" "are_close" (defArgs s_are_close) (defBody s_are_close) (defScope s_are_close) .none kV122 dc122 pm122 an122 cd122 ct122) (cond (Nat.beq n 123) (PySem.W.fnOf "__init__" "InvalidWords.__init__" (defArgs s_InvalidWords___init__) (defBody s_InvalidWords___init__) (defScope s_InvalidWords___init__) .none kV123 dc123 pm123 an123 cd123 ct123) (cond (Nat.beq n 124) (PySem.W.fnOf "check_words" "check_words" (defArgs s_check_words) (defBody s_check_words) (defScope s_check_words) .none kV124 dc124 pm124 an124 cd124 ct124) (cond (Nat.beq n 125) (PySem.W.fnOf "words" "Heap.words" (defArgs s_Heap_words) (defBody s_Heap_words) (defScope s_Heap_words) .none kV125 dc125 pm125 an125 (.ref C125) ct125) (cond (Nat.beq n 126) (PySem.W.fnOf "_law_scoop" "_law_scoop" (defArgs s__law_scoop) (defBody s__law_scoop) (defScope s__law_scoop) .none kV126 dc126 pm126 an126 cd126 ct126) (cond (Nat.beq n 127) (PySem.W.fnOf "_law_any_of" "_law_any_of" (defArgs s__law_any_of) (defBody s__law_any_of) (defScope s__law_any_of) .none kV127 dc127 pm127 an127 cd127 ct127) (cond (Nat.beq n 128) (PySem.W.fnOf "_law_pairs_of" "_law_pairs_of" (defArgs s__law_pairs_of) (defBody s__law_pairs_of) (defScope s__law_pairs_of) .none kV128 dc128 pm128 an128 cd128 ct128) (cond (Nat.beq n 129) (PySem.W.fnOf "_law_unlike" "_law_unlike" (defArgs s__law_unlike) (defBody s__law_unlike) (defScope s__law_unlike) .none kV129 dc129 pm129 an129 cd129 ct129) (cond (Nat.beq n 130) (PySem.W.fnOf "_law_values" "_law_values" (defArgs s__law_values) (defBody s__law_values) (defScope s__law_values) .none kV130 dc130 pm130 an130 cd130 ct130) (cond (Nat.beq n 131) (PySem.W.fnOf "_law_right" "_law_right" (defArgs s__law_right) (defBody s__law_right) (defScope s__law_right) .none kV131 dc131 pm131 an131 (.ref C131) ct131) (cond (Nat.beq n 132) (PySem.W.fnOf "_law_well" "_law_well" (defArgs s__law_well) (defBody s__law_well) (defScope s__law_well) .none kV132 dc132 pm132 an132 cd132 ct132) (cond (Nat.beq n 133) (PySem.W.fnOf "law" "law" (defArgs s_law) (defBody s_law) (defScope s_law) .none kV133 dc133 pm133 an133 cd133 ct133) ((PySem.W.fnOf "law" "law" (defArgs s_law) (defBody s_law) (defScope s_law) .none kV133 dc133 pm133 an133 cd133 ct133)))))))))))))))))))))))))))) [(P121, "Heap.line.<locals>.<lambda>"), (P125, "Heap.words.<locals>.<lambda>"), (P131, "_law_right.<locals>.<lambda>")] := fun base hB => {
    d_InvalidPairs___init__ := F108,
    b_InvalidPairs___init__ := b108,
    d_is_integer := F109,
    b_is_integer := b109,
    m_is_integer := PySem.W.mg_of X G h_a_is_integer,
    k_is_integer := h_k_is_integer,
    d_is_pair := F110,
    b_is_pair := b110,
    m_is_pair := PySem.W.mg_of X G h_a_is_pair,
    k_is_pair := h_k_is_pair,
    d_check_pairs := F111,
    b_check_pairs := b111,
    m_check_pairs := PySem.W.mg_of X G h_a_check_pairs,
    k_check_pairs := h_k_check_pairs,
    d_InvalidWorths___init__ := F112,
    b_InvalidWorths___init__ := b112,
    d_check_worths := F113,
    b_check_worths := b113,
    m_check_worths := PySem.W.mg_of X G h_a_check_worths,
    k_check_worths := h_k_check_worths,
    d_lot_of := F114,
    b_lot_of := b114,
    m_lot_of := PySem.W.mg_of X G h_a_lot_of,
    k_lot_of := h_k_lot_of,
    d_Heap___init__ := F115,
    b_Heap___init__ := b115,
    d_InvalidPlaces___init__ := F116,
    b_InvalidPlaces___init__ := b116,
    d_check_places := F117,
    b_check_places := b117,
    m_check_places := PySem.W.mg_of X G h_a_check_places,
    k_check_places := h_k_check_places,
    d_InvalidReach___init__ := F118,
    b_InvalidReach___init__ := b118,
    d_check_reach := F119,
    b_check_reach := b119,
    m_check_reach := PySem.W.mg_of X G h_a_check_reach,
    k_check_reach := h_k_check_reach,
    d_pairs_with := F120,
    b_pairs_with := b120,
    m_pairs_with := PySem.W.mg_of X G h_a_pairs_with,
    k_pairs_with := h_k_pairs_with,
    d_Heap_line := F121,
    b_Heap_line := b121,
    tb_Heap_line := ⟨C121, P121, hB (C121, P121) (by simp), rfl, by simp, fun p hp e => by
        simp only [List.mem_cons, List.not_mem_nil, or_false] at hp
        rcases hp with rfl | rfl | rfl
        · rfl
        · exact absurd e.symm h_np_121_125
        · exact absurd e.symm h_np_121_131⟩,
    d_are_close := F122,
    b_are_close := b122,
    m_are_close := PySem.W.mg_of X G h_a_are_close,
    k_are_close := h_k_are_close,
    d_InvalidWords___init__ := F123,
    b_InvalidWords___init__ := b123,
    d_check_words := F124,
    b_check_words := b124,
    m_check_words := PySem.W.mg_of X G h_a_check_words,
    k_check_words := h_k_check_words,
    d_Heap_words := F125,
    b_Heap_words := b125,
    tb_Heap_words := ⟨C125, P125, hB (C125, P125) (by simp), rfl, by simp, fun p hp e => by
        simp only [List.mem_cons, List.not_mem_nil, or_false] at hp
        rcases hp with rfl | rfl | rfl
        · exact absurd e h_np_121_125
        · rfl
        · exact absurd e.symm h_np_125_131⟩,
    d__law_scoop := F126,
    b__law_scoop := b126,
    m__law_scoop := PySem.W.mg_of X G h_a__law_scoop,
    k__law_scoop := h_k__law_scoop,
    d__law_any_of := F127,
    b__law_any_of := b127,
    m__law_any_of := PySem.W.mg_of X G h_a__law_any_of,
    k__law_any_of := h_k__law_any_of,
    d__law_pairs_of := F128,
    b__law_pairs_of := b128,
    m__law_pairs_of := PySem.W.mg_of X G h_a__law_pairs_of,
    k__law_pairs_of := h_k__law_pairs_of,
    d__law_unlike := F129,
    b__law_unlike := b129,
    m__law_unlike := PySem.W.mg_of X G h_a__law_unlike,
    k__law_unlike := h_k__law_unlike,
    d__law_values := F130,
    b__law_values := b130,
    m__law_values := PySem.W.mg_of X G h_a__law_values,
    k__law_values := h_k__law_values,
    d__law_right := F131,
    b__law_right := b131,
    tb__law_right := ⟨C131, P131, hB (C131, P131) (by simp), rfl, by simp, fun p hp e => by
        simp only [List.mem_cons, List.not_mem_nil, or_false] at hp
        rcases hp with rfl | rfl | rfl
        · exact absurd e h_np_121_131
        · exact absurd e h_np_125_131
        · rfl⟩,
    m__law_right := PySem.W.mg_of X G h_a__law_right,
    k__law_right := h_k__law_right,
    d__law_well := F132,
    b__law_well := b132,
    m__law_well := PySem.W.mg_of X G h_a__law_well,
    k__law_well := h_k__law_well,
    d_law := F133,
    b_law := b133,
    m_law := PySem.W.mg_of X G h_a_law,
    k_law := h_k_law,
    mk_Heap := ⟨h_mki_Heap, h_a_Heap___init__, h_fi_Heap, h_k_Heap⟩,
    m_Heap := PySem.W.mg_of X G h_a_Heap,
    k_Heap := h_k_Heap,
    cl_Heap := ⟨h_pg_Heap, h_hd_Heap, h_po_Heap, h_sa_Heap⟩,
    no_Heap_worths := h_no_Heap_worths,
    no_Heap_pairs := h_no_Heap_pairs,
    no_Heap_by_thing := h_no_Heap_by_thing,
    no_Heap_lots := h_no_Heap_lots,
    no_Heap_passes_on := h_no_Heap_passes_on,
    cI_Heap := ⟨⟨h_pg_Heap, h_hd_Heap, h_po_Heap, h_sa_Heap⟩, h_ha_Heap, h_hgs, h_htks, h_hm_Heap⟩,
    kT_Heap_bool := kit_t (by decide +kernel) h_kT_Heap_bool,
    kT_Heap_int := kit_t (by decide +kernel) h_kT_Heap_int,
    kT_Heap_str := kit_t (by decide +kernel) h_kT_Heap_str,
    kT_Heap_tuple := kit_t (by decide +kernel) h_kT_Heap_tuple,
    sg_Heap_line := h_sg_Heap_line,
    sy_Heap_line := h_sy_Heap_line,
    sr_Heap_line := h_sr_Heap_line,
    sf_Heap_line := ⟨_, _, h_sf1_Heap_line, h_sf2_Heap_line⟩,
    sk_Heap_line := h_k_Heap_line,
    sg_Heap_words := h_sg_Heap_words,
    sy_Heap_words := h_sy_Heap_words,
    sr_Heap_words := h_sr_Heap_words,
    sf_Heap_words := ⟨_, _, h_sf1_Heap_words, h_sf2_Heap_words⟩,
    sk_Heap_words := h_k_Heap_words,
    x_InvalidReach := ⟨⟨_, _, _, _, _, _, _, _, _, _, _, _, _, _, _, h_xl_InvalidReach, h_xr_InvalidReach⟩, h_xs_InvalidReach, h_xe_InvalidReach, h_xt_InvalidReach, h_xk_InvalidReach⟩,
    ii_InvalidReach := h_a_InvalidReach___init__,
    ti_InvalidReach := h_ti_InvalidReach,
    xn_InvalidReach := h_xn_InvalidReach,
    m_InvalidReach := PySem.W.mg_of X G h_a_InvalidReach,
    x_InvalidWorths := ⟨⟨_, _, _, _, _, _, _, _, _, _, _, _, _, _, _, h_xl_InvalidWorths, h_xr_InvalidWorths⟩, h_xs_InvalidWorths, h_xe_InvalidWorths, h_xt_InvalidWorths, h_xk_InvalidWorths⟩,
    ii_InvalidWorths := h_a_InvalidWorths___init__,
    ti_InvalidWorths := h_ti_InvalidWorths,
    xn_InvalidWorths := h_xn_InvalidWorths,
    m_InvalidWorths := PySem.W.mg_of X G h_a_InvalidWorths,
    x_InvalidPairs := ⟨⟨_, _, _, _, _, _, _, _, _, _, _, _, _, _, _, h_xl_InvalidPairs, h_xr_InvalidPairs⟩, h_xs_InvalidPairs, h_xe_InvalidPairs, h_xt_InvalidPairs, h_xk_InvalidPairs⟩,
    ii_InvalidPairs := h_a_InvalidPairs___init__,
    ti_InvalidPairs := h_ti_InvalidPairs,
    xn_InvalidPairs := h_xn_InvalidPairs,
    m_InvalidPairs := PySem.W.mg_of X G h_a_InvalidPairs,
    x_InvalidPlaces := ⟨⟨_, _, _, _, _, _, _, _, _, _, _, _, _, _, _, h_xl_InvalidPlaces, h_xr_InvalidPlaces⟩, h_xs_InvalidPlaces, h_xe_InvalidPlaces, h_xt_InvalidPlaces, h_xk_InvalidPlaces⟩,
    ii_InvalidPlaces := h_a_InvalidPlaces___init__,
    ti_InvalidPlaces := h_ti_InvalidPlaces,
    xn_InvalidPlaces := h_xn_InvalidPlaces,
    m_InvalidPlaces := PySem.W.mg_of X G h_a_InvalidPlaces,
    x_InvalidWords := ⟨⟨_, _, _, _, _, _, _, _, _, _, _, _, _, _, _, h_xl_InvalidWords, h_xr_InvalidWords⟩, h_xs_InvalidWords, h_xe_InvalidWords, h_xt_InvalidWords, h_xk_InvalidWords⟩,
    ii_InvalidWords := h_a_InvalidWords___init__,
    ti_InvalidWords := h_ti_InvalidWords,
    xn_InvalidWords := h_xn_InvalidWords,
    m_InvalidWords := PySem.W.mg_of X G h_a_InvalidWords,
    i_MOST_LETTERS := ⟨_, PySem.W.mg_of X G h_i_MOST_LETTERS⟩,
    i_MOST_THINGS := ⟨_, PySem.W.mg_of X G h_i_MOST_THINGS⟩,
    n_abs := mg_no X G h_n_abs,
    n_all := mg_no X G h_n_all,
    n_bool := mg_no X G h_n_bool,
    n_divmod := mg_no X G h_n_divmod,
    n_enumerate := mg_no X G h_n_enumerate,
    n_int := mg_no X G h_n_int,
    n_isinstance := mg_no X G h_n_isinstance,
    n_len := mg_no X G h_n_len,
    n_list := mg_no X G h_n_list,
    n_max := mg_no X G h_n_max,
    n_min := mg_no X G h_n_min,
    n_range := mg_no X G h_n_range,
    n_sorted := mg_no X G h_n_sorted,
    n_str := mg_no X G h_n_str,
    n_sum := mg_no X G h_n_sum,
    n_tuple := mg_no X G h_n_tuple,
    n_zip := mg_no X G h_n_zip }
  refine ⟨_, [(C121, P121), (C125, P125), (C131, P131)], spF (gp w K _ [(P121, "Heap.line.<locals>.<lambda>"), (P125, "Heap.words.<locals>.<lambda>"), (P131, "_law_right.<locals>.<lambda>")]) f_law, fun p hp => by
      simp only [List.mem_cons, List.not_mem_nil, or_false] at hp
      rcases hp with rfl | rfl | rfl
      · exact h_tg_Heap_line
      · exact h_tg_Heap_words
      · exact h_tg__law_right, fun p hp => by
      simp only [List.mem_cons, List.not_mem_nil, or_false] at hp
      rcases hp with rfl | rfl | rfl
      · exact h_tn_Heap_line
      · exact h_tn_Heap_words
      · exact h_tn__law_right, fun p hp => by
      simp only [List.mem_cons, List.not_mem_nil, or_false] at hp
      rcases hp with rfl | rfl | rfl
      · exact PySem.W.codeHd_of_K X h_tc_Heap_line
      · exact PySem.W.codeHd_of_K X h_tc_Heap_words
      · exact PySem.W.codeHd_of_K X h_tc__law_right, fun s v => .of_eq rfl, fun base _ _ hB => FnG.of (ok_law (T base hB)), fun H a ns hn hT hS => sp_law law_pure H a ns hn (fun p hp => ?_) hS⟩
  have hp : p ∈ ([(P121, "Heap.line.<locals>.<lambda>"), (P125, "Heap.words.<locals>.<lambda>"), (P131, "_law_right.<locals>.<lambda>")] : List (Addr × Str)) := hp
  simp only [List.mem_cons, List.not_mem_nil, or_false] at hp
  rcases hp with rfl | rfl | rfl
  · exact hT (C121, P121) (by simp)
  · exact hT (C125, P125) (by simp)
  · exact hT (C131, P131) (by simp)
end KG
open PySem PySem.W PyProof.Rows
set_option maxRecDepth 100000 in
set_option maxHeartbeats 0 in
theorem PySem.Challenge.cw_keptlikes_k03_whole_lines_and_words_holds : PySem.Challenge.rw_keptlikes_k03_whole_lines_and_words.Holds := by
  w_on; o_law; k_head; (case hw => w_witness2)
  k_fill
  refine KL.walk_g (l := PySem.Challenge.rw_keptlikes_k03_whole_lines_and_words) (n := 63) (k := 8) (x := "_law_script") (sp := fun _ => fun _ _ _ _ => True) rfl (by decide) rfl ⟨rfl, by decide, by decide⟩ (fun w h Y => by first | exact PySem.W.kIn_of Y | exact PySem.W.km_in_of Y) ?F
  case F =>
    intro w mg fa h Y KX G hmg
    refine' KG.all_mk KX G hmg ?h_a_Heap ?h_a_InvalidReach ?h_a_InvalidWorths ?h_a_InvalidPairs ?h_a_InvalidPlaces ?h_a_InvalidWords ?h_a_InvalidPairs___init__ ?h_l_InvalidPairs___init__ ?h_c_InvalidPairs___init__ ?h_k_InvalidPairs___init__ ?h_a_is_integer ?h_l_is_integer ?h_c_is_integer ?h_k_is_integer ?h_a_is_pair ?h_l_is_pair ?h_c_is_pair ?h_k_is_pair ?h_a_check_pairs ?h_l_check_pairs ?h_c_check_pairs ?h_k_check_pairs ?h_a_InvalidWorths___init__ ?h_l_InvalidWorths___init__ ?h_c_InvalidWorths___init__ ?h_k_InvalidWorths___init__ ?h_a_check_worths ?h_l_check_worths ?h_c_check_worths ?h_k_check_worths ?h_a_lot_of ?h_l_lot_of ?h_c_lot_of ?h_k_lot_of ?h_a_Heap___init__ ?h_l_Heap___init__ ?h_c_Heap___init__ ?h_k_Heap___init__ ?h_a_InvalidPlaces___init__ ?h_l_InvalidPlaces___init__ ?h_c_InvalidPlaces___init__ ?h_k_InvalidPlaces___init__ ?h_a_check_places ?h_l_check_places ?h_c_check_places ?h_k_check_places ?h_a_InvalidReach___init__ ?h_l_InvalidReach___init__ ?h_c_InvalidReach___init__ ?h_k_InvalidReach___init__ ?h_a_check_reach ?h_l_check_reach ?h_c_check_reach ?h_k_check_reach ?h_a_pairs_with ?h_l_pairs_with ?h_c_pairs_with ?h_k_pairs_with ?h_sf1_Heap_line ?h_sf2_Heap_line ?h_l_Heap_line ?h_c_Heap_line ?h_k_Heap_line ?h_a_are_close ?h_l_are_close ?h_c_are_close ?h_k_are_close ?h_a_InvalidWords___init__ ?h_l_InvalidWords___init__ ?h_c_InvalidWords___init__ ?h_k_InvalidWords___init__ ?h_a_check_words ?h_l_check_words ?h_c_check_words ?h_k_check_words ?h_sf1_Heap_words ?h_sf2_Heap_words ?h_l_Heap_words ?h_c_Heap_words ?h_k_Heap_words ?h_a__law_scoop ?h_l__law_scoop ?h_c__law_scoop ?h_k__law_scoop ?h_a__law_any_of ?h_l__law_any_of ?h_c__law_any_of ?h_k__law_any_of ?h_a__law_pairs_of ?h_l__law_pairs_of ?h_c__law_pairs_of ?h_k__law_pairs_of ?h_a__law_unlike ?h_l__law_unlike ?h_c__law_unlike ?h_k__law_unlike ?h_a__law_values ?h_l__law_values ?h_c__law_values ?h_k__law_values ?h_a__law_right ?h_l__law_right ?h_c__law_right ?h_k__law_right ?h_a__law_well ?h_l__law_well ?h_c__law_well ?h_k__law_well ?h_a_law ?h_l_law ?h_c_law ?h_k_law ?h_e_Heap_line ?h_t_Heap_line ?h_tc_Heap_line ?h_tn_Heap_line ?h_tg_Heap_line ?h_e_Heap_words ?h_t_Heap_words ?h_tc_Heap_words ?h_tn_Heap_words ?h_tg_Heap_words ?h_e__law_right ?h_t__law_right ?h_tc__law_right ?h_tn__law_right ?h_tg__law_right ?h_np_121_125 ?h_np_121_131 ?h_np_125_131 ?h_mki_Heap ?h_fi_Heap ?h_k_Heap ?h_pg_Heap ?h_hd_Heap ?h_po_Heap ?h_sa_Heap ?h_no_Heap_worths ?h_no_Heap_pairs ?h_no_Heap_by_thing ?h_no_Heap_lots ?h_no_Heap_passes_on ?h_hgs ?h_htks ?h_ha_Heap ?h_hm_Heap ?h_kT_Heap_bool ?h_kT_Heap_int ?h_kT_Heap_str ?h_kT_Heap_tuple ?h_sg_Heap_line ?h_sy_Heap_line ?h_sr_Heap_line ?h_sg_Heap_words ?h_sy_Heap_words ?h_sr_Heap_words ?h_xl_InvalidReach ?h_xr_InvalidReach ?h_xs_InvalidReach ?h_xe_InvalidReach ?h_xt_InvalidReach ?h_xk_InvalidReach ?h_ti_InvalidReach ?h_xn_InvalidReach ?h_xl_InvalidWorths ?h_xr_InvalidWorths ?h_xs_InvalidWorths ?h_xe_InvalidWorths ?h_xt_InvalidWorths ?h_xk_InvalidWorths ?h_ti_InvalidWorths ?h_xn_InvalidWorths ?h_xl_InvalidPairs ?h_xr_InvalidPairs ?h_xs_InvalidPairs ?h_xe_InvalidPairs ?h_xt_InvalidPairs ?h_xk_InvalidPairs ?h_ti_InvalidPairs ?h_xn_InvalidPairs ?h_xl_InvalidPlaces ?h_xr_InvalidPlaces ?h_xs_InvalidPlaces ?h_xe_InvalidPlaces ?h_xt_InvalidPlaces ?h_xk_InvalidPlaces ?h_ti_InvalidPlaces ?h_xn_InvalidPlaces ?h_xl_InvalidWords ?h_xr_InvalidWords ?h_xs_InvalidWords ?h_xe_InvalidWords ?h_xt_InvalidWords ?h_xk_InvalidWords ?h_ti_InvalidWords ?h_xn_InvalidWords ?h_i_MOST_LETTERS ?h_i_MOST_THINGS ?h_n_abs ?h_n_all ?h_n_bool ?h_n_divmod ?h_n_enumerate ?h_n_int ?h_n_isinstance ?h_n_len ?h_n_list ?h_n_max ?h_n_min ?h_n_range ?h_n_sorted ?h_n_str ?h_n_sum ?h_n_tuple ?h_n_zip
    (case h_a_Heap => k_is)
    (case h_a_InvalidReach => k_is)
    (case h_a_InvalidWorths => k_is)
    (case h_a_InvalidPairs => k_is)
    (case h_a_InvalidPlaces => k_is)
    (case h_a_InvalidWords => k_is)
    (case h_a_InvalidPairs___init__ => k_is)
    (case h_l_InvalidPairs___init__ => k_is)
    (case h_c_InvalidPairs___init__ => k_is)
    (case h_k_InvalidPairs___init__ => k_is)
    (case h_a_is_integer => k_is)
    (case h_l_is_integer => k_is)
    (case h_c_is_integer => k_is)
    (case h_k_is_integer => k_is)
    (case h_a_is_pair => k_is)
    (case h_l_is_pair => k_is)
    (case h_c_is_pair => k_is)
    (case h_k_is_pair => k_is)
    (case h_a_check_pairs => k_is)
    (case h_l_check_pairs => k_is)
    (case h_c_check_pairs => k_is)
    (case h_k_check_pairs => k_is)
    (case h_a_InvalidWorths___init__ => k_is)
    (case h_l_InvalidWorths___init__ => k_is)
    (case h_c_InvalidWorths___init__ => k_is)
    (case h_k_InvalidWorths___init__ => k_is)
    (case h_a_check_worths => k_is)
    (case h_l_check_worths => k_is)
    (case h_c_check_worths => k_is)
    (case h_k_check_worths => k_is)
    (case h_a_lot_of => k_is)
    (case h_l_lot_of => k_is)
    (case h_c_lot_of => k_is)
    (case h_k_lot_of => k_is)
    (case h_a_Heap___init__ => k_is)
    (case h_l_Heap___init__ => k_is)
    (case h_c_Heap___init__ => k_is)
    (case h_k_Heap___init__ => k_is)
    (case h_a_InvalidPlaces___init__ => k_is)
    (case h_l_InvalidPlaces___init__ => k_is)
    (case h_c_InvalidPlaces___init__ => k_is)
    (case h_k_InvalidPlaces___init__ => k_is)
    (case h_a_check_places => k_is)
    (case h_l_check_places => k_is)
    (case h_c_check_places => k_is)
    (case h_k_check_places => k_is)
    (case h_a_InvalidReach___init__ => k_is)
    (case h_l_InvalidReach___init__ => k_is)
    (case h_c_InvalidReach___init__ => k_is)
    (case h_k_InvalidReach___init__ => k_is)
    (case h_a_check_reach => k_is)
    (case h_l_check_reach => k_is)
    (case h_c_check_reach => k_is)
    (case h_k_check_reach => k_is)
    (case h_a_pairs_with => k_is)
    (case h_l_pairs_with => k_is)
    (case h_c_pairs_with => k_is)
    (case h_k_pairs_with => k_is)
    (case h_sf1_Heap_line => k_is)
    (case h_sf2_Heap_line => k_is)
    (case h_l_Heap_line => k_is)
    (case h_c_Heap_line => k_is)
    (case h_k_Heap_line => k_is)
    (case h_a_are_close => k_is)
    (case h_l_are_close => k_is)
    (case h_c_are_close => k_is)
    (case h_k_are_close => k_is)
    (case h_a_InvalidWords___init__ => k_is)
    (case h_l_InvalidWords___init__ => k_is)
    (case h_c_InvalidWords___init__ => k_is)
    (case h_k_InvalidWords___init__ => k_is)
    (case h_a_check_words => k_is)
    (case h_l_check_words => k_is)
    (case h_c_check_words => k_is)
    (case h_k_check_words => k_is)
    (case h_sf1_Heap_words => k_is)
    (case h_sf2_Heap_words => k_is)
    (case h_l_Heap_words => k_is)
    (case h_c_Heap_words => k_is)
    (case h_k_Heap_words => k_is)
    (case h_a__law_scoop => k_is)
    (case h_l__law_scoop => k_is)
    (case h_c__law_scoop => k_is)
    (case h_k__law_scoop => k_is)
    (case h_a__law_any_of => k_is)
    (case h_l__law_any_of => k_is)
    (case h_c__law_any_of => k_is)
    (case h_k__law_any_of => k_is)
    (case h_a__law_pairs_of => k_is)
    (case h_l__law_pairs_of => k_is)
    (case h_c__law_pairs_of => k_is)
    (case h_k__law_pairs_of => k_is)
    (case h_a__law_unlike => k_is)
    (case h_l__law_unlike => k_is)
    (case h_c__law_unlike => k_is)
    (case h_k__law_unlike => k_is)
    (case h_a__law_values => k_is)
    (case h_l__law_values => k_is)
    (case h_c__law_values => k_is)
    (case h_k__law_values => k_is)
    (case h_a__law_right => k_is)
    (case h_l__law_right => k_is)
    (case h_c__law_right => k_is)
    (case h_k__law_right => k_is)
    (case h_a__law_well => k_is)
    (case h_l__law_well => k_is)
    (case h_c__law_well => k_is)
    (case h_k__law_well => k_is)
    (case h_a_law => k_is)
    (case h_l_law => k_is)
    (case h_c_law => k_is)
    (case h_k_law => k_is)
    (case h_e_Heap_line => exact rfl)
    (case h_t_Heap_line => exact rfl)
    (case h_tc_Heap_line => kernel_rfl)
    (case h_tn_Heap_line => kernel_rfl)
    (case h_tg_Heap_line => exact PySem.W.km_tabs_of Y _ (by first | decide | simp))
    (case h_e_Heap_words => exact rfl)
    (case h_t_Heap_words => exact rfl)
    (case h_tc_Heap_words => kernel_rfl)
    (case h_tn_Heap_words => kernel_rfl)
    (case h_tg_Heap_words => exact PySem.W.km_tabs_of Y _ (by first | decide | simp))
    (case h_e__law_right => exact rfl)
    (case h_t__law_right => exact rfl)
    (case h_tc__law_right => kernel_rfl)
    (case h_tn__law_right => kernel_rfl)
    (case h_tg__law_right => exact PySem.W.km_tabs_of Y _ (by first | decide | simp))
    (case h_np_121_125 => decide)
    (case h_np_121_131 => decide)
    (case h_np_125_131 => decide)
    (case h_mki_Heap => k_is)
    (case h_fi_Heap => k_is)
    (case h_k_Heap => k_is)
    (case h_pg_Heap => k_is)
    (case h_hd_Heap => k_is)
    (case h_po_Heap => k_is)
    (case h_sa_Heap => k_is)
    (case h_no_Heap_worths => k_is)
    (case h_no_Heap_pairs => k_is)
    (case h_no_Heap_by_thing => k_is)
    (case h_no_Heap_lots => k_is)
    (case h_no_Heap_passes_on => k_is)
    (case h_hgs => k_is)
    (case h_htks => k_is)
    (case h_ha_Heap => k_is)
    (case h_hm_Heap => k_is)
    (case h_kT_Heap_bool => k_is)
    (case h_kT_Heap_int => k_is)
    (case h_kT_Heap_str => k_is)
    (case h_kT_Heap_tuple => k_is)
    (case h_sg_Heap_line => k_is)
    (case h_sy_Heap_line => k_is)
    (case h_sr_Heap_line => k_is)
    (case h_sg_Heap_words => k_is)
    (case h_sy_Heap_words => k_is)
    (case h_sr_Heap_words => k_is)
    (case h_xl_InvalidReach => k_is)
    (case h_xr_InvalidReach => decide +kernel)
    (case h_xs_InvalidReach => k_is)
    (case h_xe_InvalidReach => k_is)
    (case h_xt_InvalidReach => k_is)
    (case h_xk_InvalidReach => k_is)
    (case h_ti_InvalidReach => k_is)
    (case h_xn_InvalidReach => k_is)
    (case h_xl_InvalidWorths => k_is)
    (case h_xr_InvalidWorths => decide +kernel)
    (case h_xs_InvalidWorths => k_is)
    (case h_xe_InvalidWorths => k_is)
    (case h_xt_InvalidWorths => k_is)
    (case h_xk_InvalidWorths => k_is)
    (case h_ti_InvalidWorths => k_is)
    (case h_xn_InvalidWorths => k_is)
    (case h_xl_InvalidPairs => k_is)
    (case h_xr_InvalidPairs => decide +kernel)
    (case h_xs_InvalidPairs => k_is)
    (case h_xe_InvalidPairs => k_is)
    (case h_xt_InvalidPairs => k_is)
    (case h_xk_InvalidPairs => k_is)
    (case h_ti_InvalidPairs => k_is)
    (case h_xn_InvalidPairs => k_is)
    (case h_xl_InvalidPlaces => k_is)
    (case h_xr_InvalidPlaces => decide +kernel)
    (case h_xs_InvalidPlaces => k_is)
    (case h_xe_InvalidPlaces => k_is)
    (case h_xt_InvalidPlaces => k_is)
    (case h_xk_InvalidPlaces => k_is)
    (case h_ti_InvalidPlaces => k_is)
    (case h_xn_InvalidPlaces => k_is)
    (case h_xl_InvalidWords => k_is)
    (case h_xr_InvalidWords => decide +kernel)
    (case h_xs_InvalidWords => k_is)
    (case h_xe_InvalidWords => k_is)
    (case h_xt_InvalidWords => k_is)
    (case h_xk_InvalidWords => k_is)
    (case h_ti_InvalidWords => k_is)
    (case h_xn_InvalidWords => k_is)
    (case h_i_MOST_LETTERS => k_is)
    (case h_i_MOST_THINGS => k_is)
    (case h_n_abs => k_is)
    (case h_n_all => k_is)
    (case h_n_bool => k_is)
    (case h_n_divmod => k_is)
    (case h_n_enumerate => k_is)
    (case h_n_int => k_is)
    (case h_n_isinstance => k_is)
    (case h_n_len => k_is)
    (case h_n_list => k_is)
    (case h_n_max => k_is)
    (case h_n_min => k_is)
    (case h_n_range => k_is)
    (case h_n_sorted => k_is)
    (case h_n_str => k_is)
    (case h_n_sum => k_is)
    (case h_n_tuple => k_is)
    (case h_n_zip => k_is)
