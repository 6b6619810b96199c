import PyProof.Rows.All
import Wide.All
import OpenK.AllK
import Wide.FinOn
import HandS.ForMost
import HandS.Wide
import HandS.Style
import HandS.TupLe
import HandS.Zip
import HandS.IsInst
import HandS.TupMul
import HandS.TupAny
import HandS.Deep
import HandS.Flow
import HandS.Walk
import HandS.Exc
import HandS.Words
import HandS.Ends
import KE.GoesEnum
import KE.SortData
import KE.DataMinMax
import KE.KDictWalk
import KE.KDictCopyH
import KE.KDictSum
import HandS.Small
import HandS.Conv
import HandS.WordsExc
import HandS.ExcInit
import HandS.ExcOwn
import HandS.Star
import HandS.SetFor
import HandS.ExcValue
import KE.KExcIs
import HandS.More
import HandS.Dict
import HandS.TupLen
import KE.KDictKeyed
import KE.KeyNested
import PyProof.Rows.StrMul
import PySem.Challenge.RW_lotplans_k58_whole_mixing_rows
set_option maxHeartbeats 8000000
set_option Elab.async false
set_option linter.all false
set_option maxRecDepth 100000
set_option autoImplicit false
/-! Ip0: a small core language on plain trees, and its evaluator. -/
namespace Ip
open PySem

/-- a tree: a value by itself. lst: a list that is read; own: a list that has one holder and may be changed; frz: the script; ref: an object of the store -/
inductive T where
  | non | bl (b : Bool) | int (i : Int) | str (s : Str)
  | tup (xs : List T) | lst (xs : List T) | own (xs : List T)
  | frz (xs : List Int) | ref (k : Nat) | fn (x : Str) (f : Nat) | ctup (xs : List T) | exv (c : Nat) (as : List T)
  | dct (ks : List (List L2.Key)) (xs : List T) (m : Option Bool := some false) | odct (ks : List (List L2.Key)) (xs : List T) (m : Option Bool := some false)
  deriving Inhabited

def T.view : T → T
  | .own xs => .lst xs
  | .odct ks xs m => .dct ks xs m
  | t => t
def T.isOwn : T → Bool
  | .own _ => true
  | .odct _ _ _ => true
  | _ => false

mutual
/-- plain data -/
def T.toD : T → Option PyData
  | .non => some .none
  | .bl b => some (.bool b)
  | .int i => some (.int i)
  | .str s => some (.str s)
  | .tup xs => (T.toDs xs).map .tuple
  | .ctup xs => (T.toDs xs).map .tuple
  | .lst xs => (T.toDs xs).map .list
  | .own xs => (T.toDs xs).map .list
  | _ => none
def T.toDs : List T → Option (List PyData)
  | [] => some []
  | x :: xs => match T.toD x, T.toDs xs with
    | some d, some ds => some (d :: ds)
    | _, _ => none
end

/-- results: a value, an exception of the program (its class, its fields), or nothing known -/
inductive Res (α : Type) where
  | ok (a : α)
  | exc (c : Nat) (as : List T) (S : List T)
  | bad
def Res.bind {α β : Type} : Res α → (α → Res β) → Res β
  | .ok a, f => f a
  | .exc c as S, _ => .exc c as S
  | .bad, _ => .bad
instance : Monad Res where
  pure := Res.ok
  bind := Res.bind
@[simp] theorem Res.ok_bind {α β : Type} (a : α) (f : α → Res β) : (Res.ok a >>= f) = f a := rfl
@[simp] theorem Res.bad_bind {α β : Type} (f : α → Res β) : ((Res.bad : Res α) >>= f) = .bad := rfl
@[simp] theorem Res.exc_bind {α β : Type} (c : Nat) (as S : List T) (f : α → Res β) : ((Res.exc c as S : Res α) >>= f) = .exc c as S := rfl
@[simp] theorem Res.pure_eq {α : Type} (a : α) : (pure a : Res α) = .ok a := rfl
def Res.of {α : Type} : Option α → Res α
  | some a => .ok a
  | none => .bad
@[simp] theorem Res.of_some {α : Type} (a : α) : Res.of (some a) = .ok a := rfl
@[simp] theorem Res.of_none {α : Type} : Res.of (none : Option α) = .bad := rfl
theorem Res.bind_ok {α β : Type} {x : Res α} {f : α → Res β} {b : β} (h : (x >>= f) = .ok b) : ∃ a, x = .ok a ∧ f a = .ok b := by
  cases x with
  | ok a => exact ⟨a, rfl, h⟩
  | exc c as S => cases h
  | bad => cases h
theorem Res.of_ok {α : Type} {o : Option α} {a : α} (h : Res.of o = .ok a) : o = some a := by
  cases o with
  | some b => cases h; rfl
  | none => cases h

abbrev En := List (Option T)
abbrev Store := List T
def En.get : En → Nat → Option T
  | [], _ => none
  | x :: _, 0 => x
  | _ :: r, n + 1 => En.get r n
def En.del : En → Nat → En
  | [], _ => []
  | _ :: r, 0 => none :: r
  | x :: r, n + 1 => x :: En.del r n
def En.put : En → Nat → T → En
  | [], _, _ => []
  | _ :: r, 0, t => some t :: r
  | x :: r, n + 1, t => x :: En.put r n t

/-- the most items that a list is let have here -/
def szOk (n : Nat) : Bool := decide (n ≤ 1000000)
/-- a factor, a divisor that is let be here -/
def numOk (i : Int) : Bool := decide (i.natAbs < 2 ^ 8000)

/-! ### the core -/
inductive BO where | add | sub | mul | fdiv | mod | pow | shl | shr | band | bor
  deriving DecidableEq
inductive CO where | lt | le | gt | ge | eq | ne
  deriving DecidableEq
inductive Ty where | int | bool | str | tuple | list | dict | nonT
  deriving DecidableEq
inductive PR where
  | len | sum | min | max | all | any | tuple | list | sorted | abs | int | str | min2 | max2
  deriving DecidableEq

/-- a target -/
inductive Tg where
  | name (i : Nat)
  | tup (ts : List Tg)

mutual
inductive CE where
  | slot (i : Nat)
  | view (i : Nat)
  | cst (t : T)
  | bin (o : BO) (a b : CE)
  | neg (a : CE) | not (a : CE)
  | and (a b : CE) | or (a b : CE)
  | ite (c a b : CE)
  | cmp (o : CO) (a b : CE)
  | isN (neg : Bool) (a : CE)
  | isB (neg : Bool) (a b : CE)
  | isin (neg : Bool) (a b : CE)
  | chain (o o' : CO) (a b c : CE)
  | call (f : Nat) (es : List CE)
  | prim (p : PR) (es : List CE)
  | isinst (a : CE) (ts : List Ty)
  | tup (es : List CE)
  | lst (es : List CE)
  | sub (a i : CE)
  | slice (a : CE) (lo hi : Option CE)
  | comp (elt : CE) (tg : Tg) (it : It) (cond : Option CE)
  | dnew (m : Option Bool := some false)
  | rgL1 (k : Bool) (a : CE)
  | rgL2 (k : Bool) (a b : CE)
  | fld (a : CE) (f : Str) (cs : List Nat)
  | isexc (a : CE) (k : Option Nat) (cs : List Nat)
  | lidx (a b : CE) | lcnt (a b : CE)
  | disp (k : Bool) (bs : List Bool) (es : List CE) | inv (a : CE) | rev (a : CE)
  | bad
/-- what is walked -/
inductive It where
  | seq (e : CE)
  | rng1 (a : CE) | rng2 (a b : CE) | rng3 (a b c : CE)
  | enum (a : CE) | zip (a b : CE)
end

/-- what is called, what is done with the answer -/
inductive CL where
  | f (n : Nat)
  | e (c : CE) (L : List (Str × Nat))
inductive KO where
  | drop
  | set (tg : Tg)
  | ret
mutual
inductive CS where
  | setP (tg : Tg) (e : CE)
  | setO (i : Nat) (e : CE)
  | setR (i : Nat) (e : CE)
  | dput (i : Nat) (k e : CE)
  | par (ts : List (Nat × Bool)) (es : List CE)
  | augP (i : Nat) (o : BO) (e : CE)
  | setI (i : Nat) (ix : CE) (e : CE)
  | augI (i : Nat) (o : BO) (ix : CE) (e : CE)
  | app (i : Nat) (e : CE)
  | pop (tg : Tg) (i : Nat) | popE (i : Nat)
  | setT (ts : List (Nat × Option CE)) (c : CE)
  | ins (i : Nat) (ix e : CE) | ext (i : Nat) (e : CE)
  | expr (e : CE)
  | ifs (c : CE) (a b : List CS)
  | for (tg : Tg) (it : It) (b : List CS)
  | while (c : CE) (b : List CS)
  | ret (e : CE)
  | retO (i : Nat)
  | retN
  | pass | brk | cont
  | frz (i : Nat)
  | tryX (b : List CS) (hs : List CH)
  | xcall (k : KO) (l : CL) (es : List CE)
  | raise (c : Nat) (es : List CE)
  | bad
/-- except c as slot o: b -/
inductive CH where
  | hd (c : Nat) (cs : List Nat) (o : Option Nat) (b : List CS)
end
/-- the error classes: their fields; class 0 is the base of all -/
def xcls : List (String × List String) := [("LotError", []), ("BadProblem", ["part", "index"]), ("BadPeriod", []), ("BadPlan", ["index"]), ("BadStarts", []), ("NotText", []), ("InvalidText", ["line", "word"]), ("TooMany", ["most"]), ("BadParts", ["index"]), ("NotPositive", ["index"]),
  ("BadPoint", ["index"]), ("BadRow", []), ("NotSteady", ["index"]), ("BadGroup", []), ("BadLine", ["index"]), ("BadLinePlan", []), ("BadLates", []), ("BadAmount", []), ("BadItems", ["index"]), ("BadArcs", []), ("BadExponents", []), ("BadStore", ["index"]), ("BadLevels", []), ("BadValues", []),
  ("BadRooms", []), ("BadAmounts", []), ("BadBounds", []), ("BadMix", []), ("BadRule", []), ("BadEdit", []), ("NothingToUndo", []), ("BadJoint", ["index"]), ("NotFavored", [])]
def clsN (c : Nat) : Str := match xcls[c]? with
  | some p => Str.ofString p.1
  | none => ""
def clsF (c : Nat) : List Str := match xcls[c]? with
  | some p => p.2.map Str.ofString
  | none => []
/-- an exception of the class c is one of the class d -/
def mch (c d : Nat) : Bool := decide (d = 0) || decide (c = d)
/-- what an exception's fields may hold -/
def sim : T → Bool
  | .non => true
  | .bl _ => true
  | .int _ => true
  | .str _ => true
  | _ => false
def fldT : List Str → List T → Str → Option T
  | g :: gs, t :: ts, f => if g = f then some t else fldT gs ts f
  | _, _, _ => none

/-! ### values' operations -/
def seqOf : T → Option (List T)
  | .tup xs => some xs
  | .ctup xs => some xs
  | .lst xs => some xs
  | .own xs => some xs
  | .frz ns => some (ns.map .int)
  | _ => none
/-- through the store -/
def deref (S : Store) : T → T
  | .ref k => match S[k]? with
    | some t => t
    | none => .ref k
  | t => t
def intsT : List T → Option (List Int)
  | [] => some []
  | .int i :: r => (intsT r).map (i :: ·)
  | _ :: _ => none
def bools : List T → Option (List Bool)
  | [] => some []
  | .bl b :: r => (bools r).map (b :: ·)
  | _ :: _ => none
/-- the truths of bools and ints -/
def truthsT : List T → Option (List Bool)
  | [] => some []
  | .bl b :: r => (truthsT r).map (b :: ·)
  | .int i :: r => (truthsT r).map ((i != 0) :: ·)
  | _ :: _ => none
def truth : T → Option Bool
  | .non => some false
  | .bl b => some b
  | .int i => some (i != 0)
  | .tup xs => some (!xs.isEmpty)
  | .lst xs => some (!xs.isEmpty)
  | .own xs => some (!xs.isEmpty)
  | _ => none

def isNon : T → Bool
  | .non => true
  | _ => false
def bopI (o : BO) (i j : Int) : Option Int :=
  match o with
  | .add => some (i + j)
  | .sub => some (i - j)
  | .mul => if numOk i && numOk j then some (i * j) else none
  | .fdiv => if decide (0 < j) && numOk j then some (i / j) else none
  | .mod => if decide (0 < j) then some (i % j) else none
  | .pow => if decide (0 ≤ j) && decide (j ≤ 1000) && decide (i.natAbs < 2 ^ 64) then some (i ^ j.toNat) else none
  | .shl => if decide (0 ≤ j) && decide (j ≤ 1000) && decide (i.natAbs < 2 ^ 64) then some (i * 2 ^ j.toNat) else none
  | .shr => if decide (0 ≤ j) then some (i / 2 ^ j.toNat) else none
  | .band => some (Builtin.bitAnd i j)
  | .bor => some (Builtin.bitOr i j)
def rep (xs : List T) (k : Int) : List T := (List.replicate k.toNat xs).flatten
def repOk (xs : List T) (k : Int) : Bool := decide (-1000000 ≤ k) && decide (k ≤ 1000000) && szOk (xs.length * k.toNat)
def bop (o : BO) : T → T → Option T
  | .int i, .int j => (bopI o i j).map .int
  | .tup xs, .tup ys => match o with
    | .add => if szOk (xs.length + ys.length) then some (.tup (xs ++ ys)) else none
    | _ => none
  | .lst xs, .lst ys => match o with
    | .add => if szOk (xs.length + ys.length) then some (.own (xs ++ ys)) else none
    | _ => none
  | .lst xs, .own ys => match o with
    | .add => if szOk (xs.length + ys.length) then some (.own (xs ++ ys)) else none
    | _ => none
  | .own xs, .lst ys => match o with
    | .add => if szOk (xs.length + ys.length) then some (.own (xs ++ ys)) else none
    | _ => none
  | .own xs, .own ys => match o with
    | .add => if szOk (xs.length + ys.length) then some (.own (xs ++ ys)) else none
    | _ => none
  | .tup xs, .int k => match o with
    | .mul => if repOk xs k && decide (k ≤ 1000) && decide (xs.length ≤ 1000) then some (.tup (rep xs k)) else none
    | _ => none
  | .lst xs, .int k => match o with
    | .mul => if repOk xs k then some (.own (rep xs k)) else none
    | _ => none
  | .own xs, .int k => match o with
    | .mul => if repOk xs k then some (.own (rep xs k)) else none
    | _ => none
  | .str x, .int k => match o with
    | .mul => if decide (x.length ≤ 16) && decide (-1000 ≤ k) && decide (k ≤ 1000) then some (.str (Txt.mul x k)) else none
    | _ => none
  | _, _ => none

def ltI (o : CO) (i j : Int) : Bool :=
  match o with
  | .lt => decide (i < j)
  | .le => decide (i ≤ j)
  | .gt => decide (j < i)
  | .ge => decide (j ≤ i)
  | .eq => decide (i = j)
  | .ne => !decide (i = j)
def eqT (x y : T) : Option Bool :=
  match x.toD, y.toD with
  | some d, some e => if SeqAt.shaped d && SeqAt.shaped e then some (PyData.eqv d e) else none
  | _, _ => none
def ltT (x y : T) : Option Bool :=
  match x, y with
  | .tup xs, .tup ys => match T.toDs xs, T.toDs ys with
    | some ds, some es => if W.alikeAll ds es && decide ((PyData.tuple ds).depth ≤ 60) && decide ((PyData.tuple es).depth ≤ 60) then some (W.dataLt (.tuple ds) (.tuple es)) else none
    | _, _ => none
  | _, _ => none
def cop (o : CO) (x y : T) : Option Bool :=
  match x, y with
  | .int i, .int j => some (ltI o i j)
  | x, y => match o with
    | .eq => eqT x y
    | .ne => (eqT x y).map (!·)
    | .lt => ltT x y
    | .gt => none
    | _ => none
/-! dicts: their keys are tuples of ints and texts, or ints and texts -/
def hdK : List L2.Key → L2.Key
  | [k] => k
  | _ => .inl 0
def keyT : L2.Key → T
  | .inl i => .int i
  | .inr s => .str s
def keysT : List T → Option (List L2.Key)
  | [] => some []
  | .int i :: r => (keysT r).map (.inl i :: ·)
  | .str s :: r => (keysT r).map (.inr s :: ·)
  | _ :: _ => none
mutual
/-- a key that holds tuples: ints, True, False, None and tuples of such -/
def nkT : T → Option NestedKey
  | .non => some .none
  | .bl b => some (.num (if b then 1 else 0))
  | .int i => some (.num i)
  | .tup xs => (nksT xs).map .tup
  | _ => none
def nksT : List T → Option (List NestedKey)
  | [] => some []
  | x :: xs => match nkT x, nksT xs with
    | some k, some ks => some (k :: ks)
    | _, _ => none
end
mutual
/-- .. told flat -/
def encK : NestedKey → List L2.Key
  | .none => [.inr ("" : Str)]
  | .num i => [.inl i]
  | .text _ => [.inr ("" : Str)]
  | .tup ks => .inr ("(" : Str) :: (encKs ks ++ [.inr (")" : Str)])
def encKs : List NestedKey → List L2.Key
  | [] => []
  | k :: ks => encK k ++ encKs ks
end
/-- a key: a tuple (m is false), an int or a text (true), a tuple that holds tuples (none: such a dict's values are True) -/
def keyO : Option Bool → T → Option (List L2.Key)
  | some false, .tup kt => keysT kt
  | some true, .int i => some [.inl i]
  | some true, .str s => some [.inr s]
  | none, .tup kt => match nksT kt with
    | some ks => if decide ((NestedKey.tup ks).depth ≤ 8) then some (encK (.tup ks)) else none
    | none => none
  | _, _ => none
/-- in a dict -/
def inD (x : T) : T → Option Bool
  | .dct ks _ m => (keyO m x).map fun k => ks.any fun k' => decide (k' = k)
  | _ => none
def inT (x y : T) : Option Bool :=
  match x.toD, y.toD with
  | some d, some (.list ds) => if SeqAt.shaped d && SeqAt.shaped (.list ds) then some (ds.any fun z => PyData.eqv z d) else none
  | some d, some (.tuple ds) => if SeqAt.shaped d && SeqAt.shaped (.tuple ds) then some (ds.any fun z => PyData.eqv z d) else none
  | _, _ => inD x y
def dval : List (List L2.Key) → List T → List L2.Key → Option T
  | k' :: ks, x :: xs, k => if k' = k then some x else dval ks xs k
  | _, _, _ => none
/-- d[k] = v: the keys, the values -/
def dputK (ks : List (List L2.Key)) (k : List L2.Key) : List (List L2.Key) := if ks.any (fun k' => decide (k' = k)) then ks else ks ++ [k]
def dputV (ks : List (List L2.Key)) (xs : List T) (k : List L2.Key) (v : T) : List T := if ks.any (fun k' => decide (k' = k)) then List.zipWith (fun k' x => if k' = k then v else x) ks xs else xs ++ [v]
def getI (xs : List T) (i : Int) : Option T := L2.atI xs i
def sub (x i : T) : Option T :=
  match x, i with
  | .tup xs, .int i => getI xs i
  | .lst xs, .int i => getI xs i
  | .own xs, .int i => getI xs i
  | .frz ns, .int i => (L2.atI ns i).map .int
  | .dct ks xs (some m), t => match keyO (some m) t with | some k => dval ks xs k | none => none
  | _, _ => none
def cut (xs : List T) (lo hi : Option Int) : List T := (xs.drop (HT.sIx xs.length 0 lo)).take (HT.sIx xs.length xs.length hi - HT.sIx xs.length 0 lo)
def slice (x : T) (lo hi : Option Int) : Option T :=
  match x with
  | .tup xs => some (.tup (cut xs lo hi))
  | .lst xs => some (.own (cut xs lo hi))
  | .own xs => some (.own (cut xs lo hi))
  | _ => none
def minL : List Int → Int → Int
  | [], m => m
  | x :: xs, m => minL xs (if x < m then x else m)
def maxL : List Int → Int → Int
  | [], m => m
  | x :: xs, m => maxL xs (if x > m then x else m)
mutual
/-- a tree without lists: its data tell it -/
def T.plain : T → Bool
  | .non => true
  | .bl _ => true
  | .int _ => true
  | .str _ => true
  | .tup xs => T.plains xs
  | _ => false
def T.plains : List T → Bool
  | [] => true
  | x :: xs => T.plain x && T.plains xs
end
def T.D (t : T) : PyData := (t.toD).getD .none
/-- whether all are alike, as data that can be ordered -/
def alikeTs (xs : List T) : Bool := T.plains xs && (xs.all fun x => xs.all fun y => W.alike x.D y.D) && (xs.all fun x => !isNon x) && (xs.all fun x => decide (x.D.depth ≤ 50))
def minT : List T → Option T
  | [] => none
  | x :: xs => if alikeTs (x :: xs) then some (xs.foldl (fun a y => if W.dataLt y.D a.D then y else a) x) else none
def isTupC : T → Bool
  | .tup (_ :: _) => true
  | _ => false
def isTup : T → Bool
  | .tup _ => true
  | _ => false
def sortT (xs : List T) : Option (List T) := if alikeTs xs && ((xs.all isTupC) || (xs.all fun x => !isTup x)) && decide (xs.length ≤ 1000000) then some (xs.mergeSort (W.dataLe false T.D)) else none
def prim (p : PR) : List T → Option T
  | [x] => match p with
    | .len => match x with
      | .tup xs => some (.int xs.length)
      | .lst xs => some (.int xs.length)
      | .own xs => some (.int xs.length)
      | .frz ns => some (.int ns.length)
      | .dct ks _ (some true) => some (.int ks.length)
      | .dct ks _ (some false) => some (.int ks.length)
      | .dct ks _ none => some (.int ks.length)
      | _ => none
    | .sum => match x with
      | .tup xs => (intsT xs).map fun ns => .int ns.sum
      | .lst xs => (intsT xs).map fun ns => .int ns.sum
      | .own xs => (intsT xs).map fun ns => .int ns.sum
      | _ => none
    | .min => match x with
      | .tup xs => match intsT xs with | some (n :: ns) => some (.int (minL ns n)) | _ => minT xs
      | .lst xs => match intsT xs with | some (n :: ns) => some (.int (minL ns n)) | _ => minT xs
      | .own xs => match intsT xs with | some (n :: ns) => some (.int (minL ns n)) | _ => minT xs
      | _ => none
    | .max => match x with
      | .tup xs => match intsT xs with | some (n :: ns) => some (.int (maxL ns n)) | _ => none
      | .lst xs => match intsT xs with | some (n :: ns) => some (.int (maxL ns n)) | _ => none
      | .own xs => match intsT xs with | some (n :: ns) => some (.int (maxL ns n)) | _ => none
      | _ => none
    | .all => match x with
      | .own xs => (truthsT xs).map fun bs => .bl (bs.all id)
      | .lst xs => (truthsT xs).map fun bs => .bl (bs.all id)
      | _ => none
    | .any => match x with
      | .own xs => (truthsT xs).map fun bs => .bl (bs.any id)
      | .lst xs => (truthsT xs).map fun bs => .bl (bs.any id)
      | _ => none
    | .tuple => match x with
      | .tup xs => some (.tup xs)
      | .lst xs => some (.tup xs)
      | .own xs => some (.tup xs)
      | _ => none
    | .list => match x with
      | .tup xs => some (.own xs)
      | .lst xs => some (.own xs)
      | .own xs => some (.own xs)
      | _ => none
    | .abs => match x with
      | .int i => some (.int (if i < 0 then -i else i))
      | _ => none
    | .sorted => match x with
      | .lst xs => (sortT xs).map .own
      | .own xs => (sortT xs).map .own
      | .dct ks _ (some false) => (sortT (ks.map fun k => .tup (k.map keyT))).map .own
      | .dct _ xs none => (sortT xs).map .own
      | .dct ks _ (some true) => (sortT (ks.map fun k => keyT (hdK k))).map .own
      | _ => none
    | .int => match x with
      | .int i => some (.int i)
      | _ => none
    | _ => none
  | [x, y] => match p with
    | .min2 => match x, y with
      | .int i, .int j => some (.int (if j < i then j else i))
      | _, _ => none
    | .max2 => match x, y with
      | .int i, .int j => some (.int (if j > i then j else i))
      | _, _ => none
    | _ => none
  | _ => none
/-- the built-in class of a value -/
def tyOf : T → Option Ty
  | .bl _ => some .bool
  | .int _ => some .int
  | .str _ => some .str
  | .tup _ => some .tuple
  | .lst _ => some .list
  | .own _ => some .list
  | .non => some .nonT
  | .dct _ _ (some _) => some .dict
  | _ => none
def isA : Ty → Ty → Bool
  | .bool, .int => true
  | a, b => decide (a = b)
def rangeT (lo : Int) (n : Nat) : List T := (List.range n).map fun (i : Nat) => .int (lo + (i : Int))
/-- list(range(..)), tuple(range(..)) -/
def rgT (k : Bool) (i j : Int) : Option T := if (i ≤ 1000000 ∧ -1000000 ≤ i) ∧ (j ≤ 1000000 ∧ -1000000 ≤ j) then some (if k then .tup (rangeT i (j - i).toNat) else .own (rangeT i (j - i).toNat)) else none
def enumT : Nat → List T → List T
  | _, [] => []
  | n, x :: xs => .tup [.int n, x] :: enumT (n + 1) xs
def zipT : List T → List T → List T
  | x :: xs, y :: ys => .tup [x, y] :: zipT xs ys
  | _, _ => []

/-- xs.index(b), xs.count(b): bools -/
def lstOf : T → Option (List T)
  | .lst xs => some xs
  | .own xs => some xs
  | _ => none
def lidxT (x y : T) : Option T := match lstOf x, y with
  | some xs, .bl b => match bools xs with
    | some bs => if bs.contains b then some (.int (bs.idxOf b)) else none
    | none => none
  | _, _ => none
def lcntT (x y : T) : Option T := match lstOf x, y with
  | some xs, .bl b => match bools xs with
    | some bs => some (.int (bs.count b))
    | none => none
  | _, _ => none
mutual
def bindT : Tg → T → En → Option En
  | .name i, t, r => if t.isOwn then none else some (r.put i t)
  | .tup ts, t, r => match t with
    | .tup xs => bindTs ts xs r
    | _ => none
def bindTs : List Tg → List T → En → Option En
  | [], [], r => some r
  | g :: gs, x :: xs, r => match bindT g x r with
    | some r' => bindTs gs xs r'
    | none => none
  | _, _, _ => none
end

abbrev Fns := Nat → List T → Store → Res (T × Store)

def compL (step : T → Store → Res (Option T × Store)) : List T → Store → Res (List T × Store)
  | [], S => .ok ([], S)
  | x :: xs, S => do
    let (o, S) ← step x S
    let (ys, S) ← compL step xs S
    match o with
    | some y => .ok (y.view :: ys, S)
    | none => .ok (ys, S)

/-- starred displays: what is starred gives its items -/
def starOf : T → Option (List T)
  | .tup xs => some xs
  | .lst xs => some xs
  | _ => none
def combS : List Bool → List T → Option (List T)
  | [], [] => some []
  | true :: bs, t :: ts => match starOf t, combS bs ts with
    | some xs, some ys => some (xs ++ ys)
    | _, _ => none
  | false :: bs, t :: ts => (combS bs ts).map (t :: ·)
  | _, _ => none
mutual
def evalE (F : Fns) (ρ : En) : CE → Store → Res (T × Store)
  | .slot i, S => match ρ.get i with
    | some t => if t.isOwn then .bad else .ok (t, S)
    | none => .bad
  | .view i, S => match ρ.get i with
    | some t => .ok (t.view, S)
    | none => .bad
  | .cst t, S => .ok (t, S)
  | .bin o a b, S => do
    let (x, S) ← evalE F ρ a S
    let (y, S) ← evalE F ρ b S
    (Res.of (bop o x y)).bind fun t => .ok (t, S)
  | .neg a, S => do
    let (x, S) ← evalE F ρ a S
    match x with
    | .int i => .ok (.int (-i), S)
    | _ => .bad
  | .not a, S => do
    let (x, S) ← evalE F ρ a S
    (Res.of (truth x)).bind fun b => .ok (.bl (!b), S)
  | .and a b, S => do
    let (x, S) ← evalE F ρ a S
    match x with
    | .bl true => evalE F ρ b S
    | .bl false => .ok (.bl false, S)
    | .int i => if i = 0 then .ok (.int i, S) else evalE F ρ b S
    | _ => .bad
  | .or a b, S => do
    let (x, S) ← evalE F ρ a S
    match x with
    | .bl true => .ok (.bl true, S)
    | .bl false => evalE F ρ b S
    | .int i => if i = 0 then evalE F ρ b S else .ok (.int i, S)
    | _ => .bad
  | .ite c a b, S => do
    let (x, S) ← evalE F ρ c S
    (Res.of (truth x)).bind fun k => if k then evalE F ρ a S else evalE F ρ b S
  | .cmp o a b, S => do
    let (x, S) ← evalE F ρ a S
    let (y, S) ← evalE F ρ b S
    (Res.of (cop o x y)).bind fun t => .ok (.bl t, S)
  | .isN k a, S => do
    let (x, S) ← evalE F ρ a S
    .ok (.bl (if k then !isNon x else isNon x), S)
  | .isB k a b, S => do
    let (x, S) ← evalE F ρ a S
    let (y, S) ← evalE F ρ b S
    match x, y with
    | .bl p, .bl q => .ok (.bl (if k then !decide (p = q) else decide (p = q)), S)
    | _, _ => .bad
  | .isin k a b, S => do
    let (x, S) ← evalE F ρ a S
    let (y, S) ← evalE F ρ b S
    (Res.of (inT x y)).bind fun r => .ok (.bl (if k then !r else r), S)
  | .chain o o' a b c, S => do
    let (x, S) ← evalE F ρ a S
    let (y, S) ← evalE F ρ b S
    (Res.of (cop o x y)).bind fun r =>
      if r then do
        let (z, S) ← evalE F ρ c S
        (Res.of (cop o' y z)).bind fun r => .ok (.bl r, S)
      else .ok (.bl false, S)
  | .call f es, S => do
    let (ts, S) ← evalEs F ρ es S
    F f ts S
  | .prim p es, S => do
    let (ts, S) ← evalEs F ρ es S
    (Res.of (prim p (ts.map (deref S)))).bind fun t => .ok (t, S)
  | .isinst a ts, S => do
    let (x, S) ← evalE F ρ a S
    (Res.of (tyOf x)).bind fun y => .ok (.bl (ts.any (isA y)), S)
  | .tup es, S => do
    let (ts, S) ← evalEs F ρ es S
    .ok (.tup ts, S)
  | .lst es, S => do
    let (ts, S) ← evalEs F ρ es S
    .ok (.own ts, S)
  | .sub a i, S => do
    let (x, S) ← evalE F ρ a S
    let (y, S) ← evalE F ρ i S
    (Res.of (sub (deref S x) y)).bind fun t => .ok (t, S)
  | .slice a lo hi, S => do
    let (x, S) ← evalE F ρ a S
    let (l, S) ← evalO F ρ lo S
    let (h, S) ← evalO F ρ hi S
    (Res.of (slice x l h)).bind fun t => .ok (t, S)
  | .comp elt tg it cond, S => do
    let (xs, S) ← evalI F ρ it S
    if szOk xs.length then do
    let (ys, S) ← compL (fun x S => (Res.of (bindT tg x ρ)).bind fun ρ' => do
      let (k, S) ← evalC F ρ' cond S
      if k then do
        let (y, S) ← evalE F ρ' elt S
        .ok (some y, S)
      else .ok (none, S)) xs S
    .ok (.own ys, S)
    else .bad
  | .dnew m, S => .ok (.odct [] [] m, S)
  | .rgL1 k a, S => do
    let (x, S) ← evalE F ρ a S
    match x with
    | .int j => (Res.of (rgT k 0 j)).bind fun t => .ok (t, S)
    | _ => .bad
  | .rgL2 k a b, S => do
    let (x, S) ← evalE F ρ a S
    let (y, S) ← evalE F ρ b S
    match x, y with
    | .int i, .int j => (Res.of (rgT k i j)).bind fun t => .ok (t, S)
    | _, _ => .bad
  | .fld a f cs, S => do
    let (x, S) ← evalE F ρ a S
    match x with
    | .exv c as => if c ∈ cs then (Res.of (fldT (clsF c) as f)).bind fun t => .ok (t, S) else .bad
    | _ => .bad
  | .isexc a k cs, S => do
    let (x, S) ← evalE F ρ a S
    match x with
    | .exv c _ => if c ∈ cs then .ok (.bl (match k with | some d => mch c d | none => true), S) else .bad
    | _ => .bad
  | .lidx a b, S => do
    let (x, S) ← evalE F ρ a S
    let (y, S) ← evalE F ρ b S
    (Res.of (lidxT x y)).bind fun t => .ok (t, S)
  | .lcnt a b, S => do
    let (x, S) ← evalE F ρ a S
    let (y, S) ← evalE F ρ b S
    (Res.of (lcntT x y)).bind fun t => .ok (t, S)
  | .disp k bs es, S => do
    let (ts, S) ← evalEs F ρ es S
    (Res.of (combS bs ts)).bind fun xs => if szOk xs.length then .ok (if k then .tup xs else .own xs, S) else .bad
  | .inv a, S => do
    let (x, S) ← evalE F ρ a S
    match x with
    | .int i => .ok (.int (Builtin.bitNot i), S)
    | _ => .bad
  | .rev a, S => do
    let (x, S) ← evalE F ρ a S
    match x with
    | .tup xs => .ok (.tup xs.reverse, S)
    | _ => .bad
  | .bad, _ => .bad
/-- an argument list; new lists among them become plain ones -/
def evalEs (F : Fns) (ρ : En) : List CE → Store → Res (List T × Store)
  | [], S => .ok ([], S)
  | e :: es, S => do
    let (t, S) ← evalE F ρ e S
    let (ts, S) ← evalEs F ρ es S
    .ok (t.view :: ts, S)
def evalO (F : Fns) (ρ : En) : Option CE → Store → Res (Option Int × Store)
  | none, S => .ok (none, S)
  | some e, S => do
    let (t, S) ← evalE F ρ e S
    match t with
    | .int i => .ok (some i, S)
    | _ => .bad
def evalC (F : Fns) (ρ : En) : Option CE → Store → Res (Bool × Store)
  | none, S => .ok (true, S)
  | some e, S => do
    let (t, S) ← evalE F ρ e S
    (Res.of (truth t)).bind fun b => .ok (b, S)
/-- what is walked: its items -/
def evalI (F : Fns) (ρ : En) : It → Store → Res (List T × Store)
  | .seq e, S => do
    let (x, S) ← evalE F ρ e S
    (Res.of (seqOf x)).bind fun xs => .ok (xs, S)
  | .rng1 a, S => do
    let (x, S) ← evalE F ρ a S
    match x with
    | .int j => if j ≤ 1000000 ∧ -1000000 ≤ j then .ok (rangeT 0 j.toNat, S) else .bad
    | _ => .bad
  | .rng2 a b, S => do
    let (x, S) ← evalE F ρ a S
    let (y, S) ← evalE F ρ b S
    match x, y with
    | .int i, .int j => if (i ≤ 1000000 ∧ -1000000 ≤ i) ∧ (j ≤ 1000000 ∧ -1000000 ≤ j) then .ok (rangeT i (j - i).toNat, S) else .bad
    | _, _ => .bad
  | .rng3 a b c, S => do
    let (x, S) ← evalE F ρ a S
    let (y, S) ← evalE F ρ b S
    let (z, S) ← evalE F ρ c S
    match x, y, z with
    | .int i, .int j, .int (-1) => if (i ≤ 1000000 ∧ -1000000 ≤ i) ∧ (j ≤ 1000000 ∧ -1000000 ≤ j) then .ok ((List.range (i - j).toNat).map fun (k : Nat) => .int (i + (k : Int) * (-1)), S) else .bad
    | _, _, _ => .bad
  | .enum a, S => do
    let (x, S) ← evalE F ρ a S
    (Res.of (seqOf x)).bind fun xs => .ok (enumT 0 xs, S)
  | .zip a b, S => do
    let (x, S) ← evalE F ρ a S
    let (y, S) ← evalE F ρ b S
    (Res.of (seqOf x)).bind fun xs => (Res.of (seqOf y)).bind fun ys => .ok (zipT xs ys, S)
end

/-! ### statements -/
inductive Fl where
  | nx (ρ : En) (S : Store)
  | rt (t : T) (S : Store)
  | bk (ρ : En) (S : Store)
  | ct (ρ : En) (S : Store)
  | xc (c : Nat) (as : List T) (ρ : En) (S : Store)

mutual
/-- no list, no dict within (what lies in the store's objects) -/
def nl : T → Bool
  | .lst _ => false
  | .own _ => false
  | .dct _ _ _ => false
  | .odct _ _ _ => false
  | .ctup _ => false
  | .tup xs => nls xs
  | _ => true
def nls : List T → Bool
  | [] => true
  | x :: xs => nl x && nls xs
end
def wrOk (ρ : En) (i : Nat) (t : T) : Bool := match ρ.get i with
  | some (.ref _) => nl t
  | _ => true
/-- the object of a slot that may be changed -/
def ownOf (ρ : En) (S : Store) (i : Nat) : Option (List T) :=
  match ρ.get i with
  | some (.own xs) => some xs
  | some (.ref k) => match S[k]? with
    | some (.own xs) => some xs
    | _ => none
  | _ => none
def putOwn (ρ : En) (S : Store) (i : Nat) (xs : List T) : En × Store :=
  match ρ.get i with
  | some (.ref k) => (ρ, S.set k (.own xs))
  | _ => (ρ.put i (.own xs), S)
def setParts : List (Nat × Bool) → List T → En → Option En
  | [], [], r => some r
  | (i, o) :: is, t :: ts, r => if o then (match t with
      | .own xs => setParts is ts (r.put i (.own xs))
      | .odct ks xs m => setParts is ts (r.put i (.odct ks xs m))
      | _ => none) else setParts is ts (r.put i t.view)
  | _, _, _ => none
/-- several expressions, new lists among them kept as new -/
def evalPar (F : Fns) (ρ : En) : List CE → Store → Res (List T × Store)
  | [], S => .ok ([], S)
  | e :: es, S => do
    let (t, S) ← evalE F ρ e S
    let (ts, S) ← evalPar F ρ es S
    .ok (t :: ts, S)
def whileL (c : En → Store → Res (Bool × Store)) (b : En → Store → Res Fl) : Nat → En → Store → Res Fl
  | 0, _, _ => .bad
  | n + 1, ρ, S => do
    let (k, S) ← c ρ S
    if k then do
      let f ← b ρ S
      match f with
      | .nx ρ S => whileL c b n ρ S
      | .ct ρ S => whileL c b n ρ S
      | .bk ρ S => .ok (.nx ρ S)
      | .rt t S => .ok (.rt t S)
      | .xc c as ρ S => .ok (.xc c as ρ S)
    else .ok (.nx ρ S)
def forL (tg : Tg) (b : En → Store → Res Fl) : List T → En → Store → Res Fl
  | [], ρ, S => .ok (.nx ρ S)
  | x :: xs, ρ, S => (Res.of (bindT tg x ρ)).bind fun ρ => do
    let f ← b ρ S
    match f with
    | .nx ρ S => forL tg b xs ρ S
    | .ct ρ S => forL tg b xs ρ S
    | .bk ρ S => .ok (.nx ρ S)
    | .rt t S => .ok (.rt t S)
    | .xc c as ρ S => .ok (.xc c as ρ S)
/-- a call that may raise; its arguments do not -/
def callX (F : Fns) (ρ : En) (l : CL) (es : List CE) (S : Store) : Res (T × Store) :=
  match l with
  | .f n => match evalEs F ρ es S with
    | .ok (ts, S) => F n ts S
    | _ => .bad
  | .e c L => match evalE F ρ c S with
    | .ok (.fn x n, S) => if (x, n) ∈ L then (match evalEs F ρ es S with
      | .ok (ts, S) => F n ts S
      | _ => .bad) else .bad
    | _ => .bad
def koS (k : KO) (ρ : En) (t : T) (S : Store) : Res Fl :=
  match k with
  | .drop => .ok (.nx ρ S)
  | .set tg => (Res.of (bindT tg t.view ρ)).bind fun ρ => .ok (.nx ρ S)
  | .ret => .ok (.rt t S)
/-- behind a handler the name of the exception is gone -/
def Fl.gone (o : Option Nat) : Fl → Fl
  | .nx ρ S => .nx (match o with | some i => ρ.del i | none => ρ) S
  | .bk ρ S => .bk (match o with | some i => ρ.del i | none => ρ) S
  | .ct ρ S => .ct (match o with | some i => ρ.del i | none => ρ) S
  | f => f
/-- the most turns of a while loop that are followed -/
def wf : Nat := 2 ^ 60

/-- the parts of a tuple to names, to places of lists -/
def asgL (F : Fns) : List (Nat × Option CE) → List T → En → Store → Res (En × Store)
  | [], [], ρ, S => .ok (ρ, S)
  | (i, none) :: is, t :: ts, ρ, S => if t.isOwn then .bad else asgL F is ts (ρ.put i t) S
  | (i, some ix) :: is, t :: ts, ρ, S => do
    let (k, S) ← evalE F ρ ix S
    match ownOf ρ S i, k with
    | some xs, .int k => match L2.ixN xs.length k with
      | some j => if wrOk ρ i t && !t.isOwn then asgL F is ts (putOwn ρ S i (xs.set j t)).1 (putOwn ρ S i (xs.set j t)).2 else .bad
      | none => .bad
    | _, _ => .bad
  | _, _, _, _ => .bad
mutual
def evalS (F : Fns) : CS → En → Store → Res Fl
  | .setP tg e, ρ, S => do
    let (t, S) ← evalE F ρ e S
    (Res.of (bindT tg t.view ρ)).bind fun ρ => .ok (.nx ρ S)
  | .setO i e, ρ, S => do
    let (t, S) ← evalE F ρ e S
    match t with
    | .own xs => .ok (.nx (ρ.put i (.own xs)) S)
    | .odct ks xs m => .ok (.nx (ρ.put i (.odct ks xs m)) S)
    | _ => .bad
  | .dput i k e, ρ, S => do
    let (t, S) ← evalE F ρ e S
    let (kt, S) ← evalE F ρ k S
    match ρ.get i with
    | some (.odct ks xs (some m)) => match keyO (some m) kt with
      | some key => if szOk ks.length then .ok (.nx (ρ.put i (.odct (dputK ks key) (dputV ks xs key t.view) (some m))) S) else .bad
      | none => .bad
    | some (.odct ks xs none) => match keyO none kt, t with
      | some key, .bl true => if szOk ks.length then .ok (.nx (ρ.put i (.odct (dputK ks key) (if ks.any (fun k' => decide (k' = key)) then xs else xs ++ [kt]) none)) S) else .bad
      | _, _ => .bad
    | _ => .bad
  | .setR i e, ρ, S => do
    let (t, S) ← evalE F ρ e S
    match t with
    | .own xs => if nls xs then .ok (.nx (ρ.put i (.ref S.length)) (S ++ [.own xs])) else .bad
    | _ => .bad
  | .par is es, ρ, S => do
    let (ts, S) ← evalPar F ρ es S
    (Res.of (setParts is ts ρ)).bind fun ρ => .ok (.nx ρ S)
  | .augP i o e, ρ, S => match ρ.get i with
    | some x => do
      let (y, S) ← evalE F ρ e S
      match x, y with
      | .int a, .int b => (Res.of (bopI o a b)).bind fun c => .ok (.nx (ρ.put i (.int c)) S)
      | _, _ => .bad
    | none => .bad
  | .setI i ix e, ρ, S => do
    let (t, S) ← evalE F ρ e S
    let (k, S) ← evalE F ρ ix S
    match ownOf ρ S i, k with
    | some xs, .int k => match L2.ixN xs.length k with
      | some j => if wrOk ρ i t then .ok (.nx (putOwn ρ S i (xs.set j t.view)).1 (putOwn ρ S i (xs.set j t.view)).2) else .bad
      | none => .bad
    | _, _ => .bad
  | .augI i o ix e, ρ, S => do
    let (k, S) ← evalE F ρ ix S
    match ownOf ρ S i, k with
    | some xs, .int k => match L2.ixN xs.length k with
      | some j => match xs[j]? with
        | some (.int a) => do
          let (y, S) ← evalE F ρ e S
          match y with
          | .int b => (Res.of (bopI o a b)).bind fun c => match ownOf ρ S i with
            | some xs => match L2.ixN xs.length k with
              | some j => .ok (.nx (putOwn ρ S i (xs.set j (.int c))).1 (putOwn ρ S i (xs.set j (.int c))).2)
              | none => .bad
            | none => .bad
          | _ => .bad
        | _ => .bad
      | none => .bad
    | _, _ => .bad
  | .app i e, ρ, S => do
    let (t, S) ← evalE F ρ e S
    match ownOf ρ S i with
    | some xs => if szOk xs.length && wrOk ρ i t then .ok (.nx (putOwn ρ S i (xs ++ [t.view])).1 (putOwn ρ S i (xs ++ [t.view])).2) else .bad
    | none => .bad
  | .pop tg i, ρ, S => match ownOf ρ S i with
    | some xs => match xs.getLast? with
      | some x => (Res.of (bindT tg x (putOwn ρ S i xs.dropLast).1)).bind fun ρ' => .ok (.nx ρ' (putOwn ρ S i xs.dropLast).2)
      | none => .bad
    | none => .bad
  | .popE i, ρ, S => match ownOf ρ S i with
    | some xs => if xs.isEmpty then .bad else .ok (.nx (putOwn ρ S i xs.dropLast).1 (putOwn ρ S i xs.dropLast).2)
    | none => .bad
  | .setT is c, ρ, S => do
    let (t, S) ← evalE F ρ c S
    match t with
    | .tup ts => (asgL F is ts ρ S).bind fun r => .ok (.nx r.1 r.2)
    | _ => .bad
  | .ins i ix e, ρ, S => do
    let (k, S) ← evalE F ρ ix S
    let (t, S) ← evalE F ρ e S
    match ownOf ρ S i, k with
    | some xs, .int k => if szOk xs.length && wrOk ρ i t && decide (0 ≤ k) && decide (k ≤ 1000000) then .ok (.nx (putOwn ρ S i (xs.take k.toNat ++ [t.view] ++ xs.drop k.toNat)).1 (putOwn ρ S i (xs.take k.toNat ++ [t.view] ++ xs.drop k.toNat)).2) else .bad
    | _, _ => .bad
  | .ext i e, ρ, S => do
    let (t, S) ← evalE F ρ e S
    match ρ.get i, t.view with
    | some (.own xs), .lst ys => if szOk xs.length && szOk ys.length then .ok (.nx (ρ.put i (.own (xs ++ ys))) S) else .bad
    | _, _ => .bad
  | .expr e, ρ, S => do
    let (_, S) ← evalE F ρ e S
    .ok (.nx ρ S)
  | .ifs c a b, ρ, S => do
    let (t, S) ← evalE F ρ c S
    (Res.of (truth t)).bind fun k => if k then evalSs F a ρ S else evalSs F b ρ S
  | .for tg it b, ρ, S => do
    let (xs, S) ← evalI F ρ it S
    forL tg (evalSs F b) xs ρ S
  | .while c b, ρ, S => whileL (fun ρ S => do
      let (t, S) ← evalE F ρ c S
      (Res.of (truth t)).bind fun k => .ok (k, S)) (evalSs F b) wf ρ S
  | .ret e, ρ, S => do
    let (t, S) ← evalE F ρ e S
    .ok (.rt t S)
  | .retO i, ρ, S => match ρ.get i with
    | some (.own xs) => .ok (.rt (.own xs) S)
    | some (.odct ks xs m) => .ok (.rt (.odct ks xs m) S)
    | _ => .bad
  | .retN, _, S => .ok (.rt .non S)
  | .pass, ρ, S => .ok (.nx ρ S)
  | .brk, ρ, S => .ok (.bk ρ S)
  | .cont, ρ, S => .ok (.ct ρ S)
  | .frz i, ρ, S => match ρ.get i with
    | some (.own xs) => .ok (.nx (ρ.put i (.lst xs)) S)
    | some (.odct ks xs m) => .ok (.nx (ρ.put i (.dct ks xs m)) S)
    | _ => .ok (.nx ρ S)
  | .tryX b hs, ρ, S => match evalSs F b ρ S with
    | .ok (.xc c as ρ S) => evalHs F hs c as ρ S
    | .ok r => .ok r
    | _ => .bad
  | .xcall k l es, ρ, S => match callX F ρ l es S with
    | .ok (t, S) => koS k ρ t S
    | .exc c as S => .ok (.xc c as ρ S)
    | .bad => .bad
  | .raise c es, ρ, S => match evalEs F ρ es S with
    | .ok (ts, S) => if ts.all sim && decide (ts.length = (clsF c).length) then .ok (.xc c ts ρ S) else .bad
    | _ => .bad
  | .bad, _, _ => .bad
def evalSs (F : Fns) : List CS → En → Store → Res Fl
  | [], ρ, S => .ok (.nx ρ S)
  | c :: cs, ρ, S => do
    let f ← evalS F c ρ S
    match f with
    | .nx ρ S => evalSs F cs ρ S
    | f => .ok f
def evalHs (F : Fns) : List CH → Nat → List T → En → Store → Res Fl
  | [], c, as, ρ, S => .ok (.xc c as ρ S)
  | .hd d cs o b :: hs, c, as, ρ, S => if c ∈ cs then (if mch c d then (match evalSs F b (match o with | some i => ρ.put i (.exv c as) | none => ρ) S with
      | .ok (.xc ..) => .bad
      | .ok f => .ok (f.gone o)
      | _ => .bad) else evalHs F hs c as ρ S) else .bad
end

/-- a def: its number of slots, of parameters, its body -/
structure CFn where
  slots : Nat
  params : Nat
  body : List CS

mutual
def noRef : T → Bool
  | .ref _ => false
  | .ctup _ => false
  | .tup xs => noRefs xs
  | .lst xs => noRefs xs
  | .own xs => noRefs xs
  | .dct _ _ _ => false
  | .odct _ _ _ => false
  | _ => true
def noRefs : List T → Bool
  | [] => true
  | x :: xs => noRef x && noRefs xs
end
/-- what a def made in the store is let go at its end, where nothing tells of it -/
def close (n : Nat) (t : T) (S : Store) : Res (T × Store) :=
  if S.length = n then .ok (t, S) else if n ≤ S.length ∧ noRef t = true ∧ noRefs (S.take n) = true then .ok (t, S.take n) else .bad
/-- what a body says, where no exception came from within an expression -/
def pureR {α : Type} : Res α → Res α
  | .ok a => .ok a
  | _ => .bad
@[simp] theorem pureR_ok {α : Type} (a : α) : pureR (.ok a : Res α) = .ok a := rfl
def callF (Γ : Nat → Option CFn) : Nat → Fns
  | 0 => fun _ _ _ => .bad
  | n + 1 => fun f ts S => match Γ f with
    | some c => if ts.length = c.params then do
        let f ← pureR (evalSs (callF Γ n) c.body (ts.map some ++ List.replicate (c.slots - c.params) none) S)
        match f with
        | .nx _ S' => close S.length .non S'
        | .rt t S' => close S.length t S'
        | .xc k as _ S' => match close S.length .non S' with
          | .ok (_, S2) => .exc k as S2
          | _ => .bad
        | _ => .bad
      else .bad
    | none => .bad
end Ip

/-! IpN: dicts whose keys are tuples that hold tuples, and whose values are True. -/
namespace Ip
open PySem L2 PySem.Spec PyProof.Rows

mutual
/-- no text in the key -/
def nfree : NestedKey → Bool
  | .none => true
  | .num _ => true
  | .text _ => false
  | .tup ks => nfrees ks
def nfrees : List NestedKey → Bool
  | [] => true
  | k :: ks => nfree k && nfrees ks
end
mutual
theorem hash_free (w w' : World) : ∀ k : NestedKey, nfree k = true → NestedKey.hash w k = NestedKey.hash w' k
  | .none, _ => rfl
  | .num _, _ => rfl
  | .text _, h => by simp [nfree] at h
  | .tup ks, h => by
    simp only [nfree] at h
    simp only [NestedKey.hash, hashes_free w w' ks h]
theorem hashes_free (w w' : World) : ∀ ks : List NestedKey, nfrees ks = true → NestedKey.hashes w ks = NestedKey.hashes w' ks
  | [], _ => rfl
  | k :: ks, h => by
    simp only [nfrees, Bool.and_eq_true] at h
    simp only [NestedKey.hashes, hash_free w w' k h.1, hashes_free w w' ks h.2]
end
theorem str_ne1 : ("" : Str) ≠ ("(" : Str) := by decide +kernel
theorem str_ne2 : ("" : Str) ≠ (")" : Str) := by decide +kernel
theorem str_ne3 : ("(" : Str) ≠ (")" : Str) := by decide +kernel
theorem enc_head (k : NestedKey) (r s : List L2.Key) : encK k ++ r ≠ .inr (")" : Str) :: s := by
  cases k with
  | none => intro h; simp only [encK, List.cons_append, List.cons.injEq, Sum.inr.injEq] at h; exact str_ne2 h.1
  | num i => intro h; simp [encK] at h
  | text x => intro h; simp only [encK, List.cons_append, List.cons.injEq, Sum.inr.injEq] at h; exact str_ne2 h.1
  | tup ks => intro h; simp only [encK, List.cons_append, List.cons.injEq, Sum.inr.injEq] at h; exact str_ne3 h.1
mutual
theorem enc_inj : ∀ (a b : NestedKey) (r s : List L2.Key), nfree a = true → nfree b = true → encK a ++ r = encK b ++ s → a = b ∧ r = s
  | .none, b, r, s, _, hb, h => by
    cases b with
    | none => simp only [encK, List.cons_append, List.nil_append, List.cons.injEq, true_and] at h; exact ⟨rfl, h⟩
    | num i => simp [encK] at h
    | text x => simp [nfree] at hb
    | tup ks => simp only [encK, List.cons_append, List.cons.injEq, Sum.inr.injEq] at h; exact absurd h.1 str_ne1
  | .num i, b, r, s, _, hb, h => by
    cases b with
    | none => simp [encK] at h
    | num j => simp only [encK, List.cons_append, List.nil_append, List.cons.injEq, Sum.inl.injEq] at h; exact ⟨by rw [h.1], h.2⟩
    | text x => simp [nfree] at hb
    | tup ks => simp [encK] at h
  | .text _, b, r, s, ha, _, h => by simp [nfree] at ha
  | .tup as, b, r, s, ha, hb, h => by
    cases b with
    | none => simp only [encK, List.cons_append, List.cons.injEq, Sum.inr.injEq] at h; exact absurd h.1.symm str_ne1
    | num j => simp [encK] at h
    | text x => simp [nfree] at hb
    | tup bs =>
      simp only [encK, List.cons_append, List.append_assoc, List.cons.injEq, true_and, List.nil_append] at h
      obtain ⟨e1, e2⟩ := encs_inj as bs r s ha hb h
      exact ⟨by rw [e1], e2⟩
theorem encs_inj : ∀ (a b : List NestedKey) (r s : List L2.Key), nfrees a = true → nfrees b = true → encKs a ++ .inr (")" : Str) :: r = encKs b ++ .inr (")" : Str) :: s → a = b ∧ r = s
  | [], b, r, s, _, hb, h => by
    cases b with
    | nil => simp only [encKs, List.nil_append, List.cons.injEq, true_and] at h; exact ⟨rfl, h⟩
    | cons k ks =>
      simp only [encKs, List.nil_append, List.append_assoc] at h
      exact absurd h.symm (enc_head k _ _)
  | k :: ks, b, r, s, ha, hb, h => by
    cases b with
    | nil =>
      simp only [encKs, List.nil_append, List.append_assoc] at h
      exact absurd h (enc_head k _ _)
    | cons j js =>
      simp only [nfrees, Bool.and_eq_true] at ha hb
      simp only [encKs, List.append_assoc] at h
      obtain ⟨e1, e2⟩ := enc_inj k j _ _ ha.1 hb.1 h
      obtain ⟨e3, e4⟩ := encs_inj ks js r s ha.2 hb.2 e2
      exact ⟨by rw [e1, e3], e4⟩
end
theorem encK_inj {a b : NestedKey} (ha : nfree a = true) (hb : nfree b = true) (h : encK a = encK b) : a = b := (enc_inj a b [] [] ha hb (by rw [h])).1
mutual
theorem nkT_free : ∀ (t : T) (k : NestedKey), nkT t = some k → nfree k = true
  | .non, k, h => by simp only [nkT, Option.some.injEq] at h; subst h; rfl
  | .bl b, k, h => by simp only [nkT, Option.some.injEq] at h; subst h; rfl
  | .int i, k, h => by simp only [nkT, Option.some.injEq] at h; subst h; rfl
  | .tup xs, k, h => by
    simp only [nkT, Option.map_eq_some_iff] at h
    obtain ⟨ks, h, rfl⟩ := h
    simp only [nfree]
    exact nksT_free xs ks h
  | .str _, k, h => by simp [nkT] at h
  | .lst _, k, h => by simp [nkT] at h
  | .own _, k, h => by simp [nkT] at h
  | .frz _, k, h => by simp [nkT] at h
  | .ref _, k, h => by simp [nkT] at h
  | .fn _ _, k, h => by simp [nkT] at h
  | .ctup _, k, h => by simp [nkT] at h
  | .exv _ _, k, h => by simp [nkT] at h
  | .dct _ _ _, k, h => by simp [nkT] at h
  | .odct _ _ _, k, h => by simp [nkT] at h
theorem nksT_free : ∀ (ts : List T) (ks : List NestedKey), nksT ts = some ks → nfrees ks = true
  | [], ks, h => by simp only [nksT, Option.some.injEq] at h; subst h; rfl
  | t :: ts, ks, h => by
    simp only [nksT] at h
    split at h
    · rename_i k js e1 e2
      cases h
      simp only [nfrees, nkT_free t k e1, nksT_free ts js e2, Bool.and_self]
    · cases h
end
mutual
/-- v stands for the key -/
def NR (H : Hp) : NestedKey → V → Prop
  | .none, v => v = .non
  | .num i, v => v = .int i ∨ ∃ b : Bool, v = .bl b ∧ i = if b = true then 1 else 0
  | .text _, _ => False
  | .tup ks, v => ∃ a vs, v = .ref a ∧ H a = some (.tup vs) ∧ NRs H ks vs
def NRs (H : Hp) : List NestedKey → List V → Prop
  | [], vs => vs = []
  | k :: ks, vs => ∃ v r, vs = v :: r ∧ NR H k v ∧ NRs H ks r
end
section
variable {P : Program} {w : World} {H : Hp} {h : Heap}
mutual
theorem NR.is (ok : HOk P w H h) : ∀ (k : NestedKey) (v : V) (u : Value), NR H k v → RelV v u → NestedIs h k u
  | .none, v, u, n, r => by
    simp only [NR] at n
    subst n
    cases (show u = Value.none from r)
    exact .none
  | .num i, v, u, n, r => by
    simp only [NR] at n
    rcases n with rfl | ⟨b, rfl, e⟩
    · obtain ⟨t, rfl⟩ := (show ∃ t, u = Value.int i t from r)
      exact .int i t
    · cases (show u = Value.bool b from r)
      exact .bool e
  | .text _, v, u, n, r => by simp only [NR] at n
  | .tup ks, v, u, n, r => by
    simp only [NR] at n
    obtain ⟨a, vs, rfl, ha, q⟩ := n
    cases (show u = Value.ref a from r)
    obtain ⟨_, its, rv, o, ho, hc, m, hd⟩ := (show ObjOk P w H h a (.tup vs) from ok a _ ha)
    exact .tup ho hc hd (by simpa using NRs.is ok ks vs its q rv)
theorem NRs.is (ok : HOk P w H h) : ∀ (ks : List NestedKey) (vs : List V) (us : List Value), NRs H ks vs → Vals vs us → NestedAll h ks us
  | [], vs, us, n, r => by
    simp only [NRs] at n
    subst n
    cases r
    exact .nil
  | k :: ks, vs, us, n, r => by
    simp only [NRs] at n
    obtain ⟨v, vr, rfl, n1, n2⟩ := n
    cases r with
    | cons r1 r2 => exact .cons (NR.is ok k v _ n1 r1) (NRs.is ok ks vr _ n2 r2)
end
end
/-- such a dict's object: its keys, where they stand -/
def nEs (P : Program) (w : World) (kvs : List (NestedKey × Addr)) : List DictEntry := kvs.map fun x => entryOfKey (nestedKind P w) (x.1, x.2, Value.bool true)
def nPhi (a : Addr) (kvs : List (NestedKey × Addr)) (h : Heap) : Prop := (a == sysModules) = false ∧ kvs.length ≤ sizeLine ∧ (kvs.map (·.1)).Nodup ∧ ∃ o es ep, h.get? a = some o ∧ o.ExactDict ∧ o.data = .dict es ep ∧ ∀ (P : Program) (w : World), es.toList = nEs P w kvs
def nOb (a : Addr) (kvs : List (NestedKey × Addr)) : HO := .ext (nPhi a kvs)
theorem nPhi_stays {a : Addr} {kvs : List (NestedKey × Addr)} {h1 h2 : Heap} (h : nPhi a kvs h1) (k : ∀ o, h1.get? a = some o → h2.get? a = some o) : nPhi a kvs h2 := by
  obtain ⟨x1, x2, x3, o, es, ep, ho, r⟩ := h
  exact ⟨x1, x2, x3, o, es, ep, k o ho, r⟩
theorem nOb_ok {P : Program} {w : World} {H : Hp} {h : Heap} {a : Addr} {kvs : List (NestedKey × Addr)} (x : nPhi a kvs h) : ObjOk P w H h a (nOb a kvs) := by
  refine ⟨x, ?_, fun h1 h2 p k => nPhi_stays p k⟩
  obtain ⟨_, _, _, o, es, ep, ho, _⟩ := x
  exact ⟨o, ho⟩
theorem nEs_free {P P' : Program} {w w' : World} {kvs : List (NestedKey × Addr)} (h : ∀ x ∈ kvs, nfree x.1 = true) : nEs P w kvs = nEs P' w' kvs := by
  unfold nEs
  refine List.map_congr_left fun x hx => ?_
  unfold entryOfKey
  show (⟨NestedKey.hash w x.1, _, _⟩ : DictEntry) = ⟨NestedKey.hash w' x.1, _, _⟩
  rw [hash_free w w' x.1 (h x hx)]
/-- the keys stand -/
def NKs (H : Hp) (kvs : List (NestedKey × Addr)) : Prop := ∀ x ∈ kvs, NR H x.1 (.ref x.2) ∧ x.1.depth ≤ 8 ∧ nfree x.1 = true
section
variable {X : Cx} {pins : List (Addr × Obj)} {σ : L2.St} {H : Hp} {s : Shared} {a b : Addr} {k : NestedKey} {kvs : List (NestedKey × Addr)} {A : Around} {E : Value → Shared → Prop}
theorem n_raw (I : Inv X pins σ H s) (ha : H a = some (nOb a kvs)) : nPhi a kvs s.heap := (show ObjOk X.prog X.w H s.heap a (nOb a kvs) from I.hok a _ ha).1
theorem n_dict (I : Inv X pins σ H s) (ha : H a = some (nOb a kvs)) (hk : NKs H kvs) : (a == sysModules) = false ∧ kvs.length ≤ sizeLine ∧ s.heap.DictOfH (nestedKind X.prog X.w) a (kvs.map fun x => (x.1, x.2, Value.bool true)) := by
  obtain ⟨x1, x2, x3, o, es, ep, ho, hx, hd, he⟩ := n_raw I ha
  refine ⟨x1, x2, o, es, ep, ho, hx, hd, ?_, fun y hy => ?_, ?_⟩
  · rw [he X.prog X.w]
    unfold nEs
    rw [List.map_map]
    rfl
  · obtain ⟨x, hx2, rfl⟩ := List.mem_map.mp hy
    obtain ⟨n, d, _⟩ := hk x hx2
    exact ⟨NR.is I.hok x.1 (.ref x.2) (.ref x.2) n rfl, d⟩
  · rw [List.map_map]
    exact x3
theorem n_key (I : Inv X pins σ H s) (n : NR H k (.ref b)) (d : k.depth ≤ 8) : (nestedKind X.prog X.w).is s.heap k b := ⟨NR.is I.hok k (.ref b) (.ref b) n rfl, d⟩
theorem n_at : ∀ kvs : List (NestedKey × Addr), (atKey (kvs.map fun x => (x.1, x.2, Value.bool true)) k).isSome = kvs.any fun x => decide (x.1 = k)
  | [] => rfl
  | x :: kvs => by
    have ih := n_at kvs
    unfold atKey at ih ⊢
    rw [Option.isSome_map] at ih ⊢
    rw [List.map_cons, List.find?_cons, List.any_cons]
    by_cases c : x.1 = k
    · rw [decide_eq_true c]; rfl
    · rw [decide_eq_false c, Bool.false_or]
      exact ih
theorem n_in {Q : Value → Shared → Prop} (hu : A.units + 9 < cLine) (I : Inv X pins σ H s) (ha : H a = some (nOb a kvs)) (hk : NKs H kvs) (n : NR H k (.ref b)) (d : k.depth ≤ 8) (h : ∀ s', Inv X pins σ H s' → Q (.bool (kvs.any fun x => decide (x.1 = k))) s') :
    wpAny (model X.prog X.w) A (compareOp .In (.ref b) (.ref a)) Q E s := by
  obtain ⟨x1, x2, dd⟩ := n_dict I ha hk
  refine wpAny_in_heap (knd := nestedKind X.prog X.w) (by show A.units + 1 + 8 < cLine; omega) (n_key I n d) x1 dd ?_
  rw [n_at]
  exact h _ (I.tok _)
theorem n_notIn {Q : Value → Shared → Prop} (hu : A.units + 9 < cLine) (I : Inv X pins σ H s) (ha : H a = some (nOb a kvs)) (hk : NKs H kvs) (n : NR H k (.ref b)) (d : k.depth ≤ 8) (h : ∀ s', Inv X pins σ H s' → Q (.bool (!kvs.any fun x => decide (x.1 = k))) s') :
    wpAny (model X.prog X.w) A (compareOp .NotIn (.ref b) (.ref a)) Q E s := by
  obtain ⟨x1, x2, dd⟩ := n_dict I ha hk
  refine wpAny_notIn_heap (knd := nestedKind X.prog X.w) (by show A.units + 1 + 8 < cLine; omega) (n_key I n d) x1 dd ?_
  rw [n_at]
  exact h _ (I.tok _)
def nPut (kvs : List (NestedKey × Addr)) (k : NestedKey) (b : Addr) : List (NestedKey × Addr) := if kvs.any (fun x => decide (x.1 = k)) then kvs else kvs ++ [(k, b)]
theorem n_stored (kvs : List (NestedKey × Addr)) : storedH (kvs.map fun x => (x.1, x.2, Value.bool true)) k b (Value.bool true) = (nPut kvs k b).map fun x => (x.1, x.2, Value.bool true) := by
  unfold storedH nPut
  rw [n_at]
  by_cases c : (kvs.any fun x => decide (x.1 = k)) = true
  · rw [if_pos c, if_pos c, List.map_map]
    refine List.map_congr_left fun x _ => ?_
    show putAt k (Value.bool true) (x.1, x.2, Value.bool true) = _
    unfold putAt
    split <;> rfl
  · rw [if_neg c, if_neg c, List.map_append]
    rfl
theorem nPut_mem {x : NestedKey × Addr} (h : x ∈ nPut kvs k b) : x ∈ kvs ∨ x = (k, b) := by
  unfold nPut at h
  split at h
  · exact .inl h
  · rcases List.mem_append.mp h with h | h
    · exact .inl h
    · exact .inr (List.mem_singleton.mp h)
theorem n_setItem {Q : Unit → Shared → Prop} (hu : A.units + 9 < cLine) (I : Inv X pins σ H s) (ha : H a = some (nOb a kvs)) (hk : NKs H kvs) (n : NR H k (.ref b)) (d : k.depth ≤ 8) (fr : nfree k = true) (hl : kvs.length < sizeLine) (h : ∀ s', Inv X pins σ (upd H a (nOb a (nPut kvs k b))) s' → Q () s') :
    wpAny (model X.prog X.w) A (setItem (.ref a) (.ref b) (.bool true)) Q E s := by
  obtain ⟨x1, x2, dd⟩ := n_dict I ha hk
  refine wpAny_setItem_heap (knd := nestedKind X.prog X.w) (hsz := by rw [List.length_map]; exact x2) (by show A.units + 1 + 8 < cLine; omega) (n_key I n d) dd fun h' dd' hs => h _ ?_
  rw [n_stored] at dd'
  obtain ⟨q, es, ep, hq, h2, h3, h4, _, h5⟩ := dd'
  refine d_write I (by rw [ha]; exact True.intro) hs ⟨q, hq⟩ (nOb_ok ⟨x1, ?_, ?_, q, es, ep, hq, h2, h3, fun P w => ?_⟩)
  · unfold nPut
    split
    · exact x2
    · rw [List.length_append]; show kvs.length + 1 ≤ _; omega
  · rw [List.map_map] at h5
    exact h5
  · rw [h4, List.map_map]
    show nEs X.prog X.w (nPut kvs k b) = _
    refine nEs_free fun x hx => ?_
    rcases nPut_mem hx with z | z
    · exact (hk x z).2.2
    · rw [z]; exact fr
theorem n_empty {P : Program} {w : World} {H : Hp} (h : Heap) (hb : sysModules < h.objs.size) : ObjOk P w H (h.push { cls := .type "dict", data := .dict #[] }) h.objs.size (nOb h.objs.size []) :=
  nOb_ok ⟨beq_eq_false_iff_ne.mpr (Ne.symm (Nat.ne_of_lt hb)), Nat.zero_le _, List.nodup_nil, _, #[], 0, Heap.get?_push_size _ rfl, ⟨rfl, rfl, rfl⟩, rfl, fun _ _ => rfl⟩
def tDNewN : TE := fun _ H Q => ∀ p, H p = none → Q (.ref p) (upd H p (nOb p []))
theorem pe_dnewN {pos : Pos} : PE X (.Dict [] [] pos) tDNewN := ⟨fun pins s σ H Q I h =>
  wpAny_Dict_empty ⟨.ref s.heap.objs.size, _, I.laid (a := s.heap.objs.size) (o := nOb s.heap.objs.size []) (t' := s.toks) (fun _ _ q => Heap.get?_push_of_some _ q) (Nat.le_refl _) (n_empty s.heap I.big), rfl, h _ (I.hok.fresh (Nat.le_refl _))⟩⟩
end
/-- o[i] = True of such a dict -/
def rSetN : TSet := fun o i v H Q => ∃ a b kvs k, o = .ref a ∧ i = .ref b ∧ v = .bl true ∧ H a = some (nOb a kvs) ∧ NKs H kvs ∧ NR H k (.ref b) ∧ k.depth ≤ 8 ∧ nfree k = true ∧ kvs.length < sizeLine ∧ Q (upd H a (nOb a (nPut kvs k b)))
def rSetA : TSet := fun o i v H Q => rSetD o i v H Q ∨ rSetN o i v H Q
theorem set_any {X : Cx} (hu : X.A.units + 9 < cLine) : PSet X rSetA := by
  intro pins s σ H o i v ov iv u Q I ro ri rv h
  rcases h with h | ⟨a, b, kvs, k, rfl, rfl, rfl, ha, hk, n, d, fr, hl, q⟩
  · exact set_dict (by omega) pins s σ H o i v ov iv u Q I ro ri rv h
  · cases (show ov = Value.ref a from ro)
    cases (show iv = Value.ref b from ri)
    cases (show u = Value.bool true from rv)
    exact n_setItem hu I ha hk n d fr hl fun s' I' => ⟨_, I', q⟩
end Ip

/-! Ip1: trees in the abstract heap. -/
namespace Ip
open PySem L2

abbrev Excl := Addr → Prop
/-- a frozen list of ints: the script -/
def FrzL (K : W.Frag) (H : Hp) (a : Addr) (xs : List V) : Prop := (∃ o, H a = some (.frz o (.lst xs))) ∨ SqL K (fun _ => none) a xs

/-- a caught exception's object -/
def exh (a : Addr) (cls : Value) (d : Option Addr) : HO := .ext fun h => ∃ oe, h.get? a = some oe ∧ Zc cls d oe ∧ ∃ vs, oe.data = .fields vs
/-- the class at C has the number c -/
def ClsAt (K : W.Frag) (c : Nat) (C : Addr) : Prop := PySem.W.nsIn K mainGlobals (clsN c) = some (some (.ref C))
def SimR : T → V → Prop
  | .non, v => v = .non
  | .bl b, v => v = .bl b
  | .int i, v => v = .int i
  | .str s, v => v = .str s
  | _, _ => False
/-- an exception of class c with the fields as -/
def XR (K : W.Frag) (H : Hp) (c : Nat) (as : List T) (cls : Value) (d : Option Addr) : Prop :=
  ∃ C, cls = .ref C ∧ ClsAt K c C ∧ as.length = (clsF c).length ∧ ((clsF c = [] ∧ d = none) ∨ ∃ dd fs, d = some dd ∧ H dd = some (.xd fs) ∧ ∀ f t, fldT (clsF c) as f = some t → ∃ v, fs.lookup f = some v ∧ SimR t v)
/-- a told key -/
noncomputable def decK (l : List L2.Key) : NestedKey := by
  classical
  exact if h : ∃ k, nfree k = true ∧ encK k = l then h.choose else .none
theorem decK_enc {k : NestedKey} (h : nfree k = true) : decK (encK k) = k := by
  have e : ∃ j, nfree j = true ∧ encK j = encK k := ⟨k, h, rfl⟩
  unfold decK
  rw [dif_pos e]
  exact encK_inj e.choose_spec.1 h e.choose_spec.2
def refA : V → Addr
  | .ref a => a
  | _ => 0
/-- a dict's object: its keys are tuples, or ints and texts (true), or tuples that hold tuples (none) -/
noncomputable def dOb (a : Addr) (m : Option Bool) (ks : List (List L2.Key)) (vs : List V) : HO := match m with
  | some true => .dK ((ks.map hdK).zip vs)
  | some false => .dT (ks.zip vs)
  | none => nOb a ((ks.map decK).zip (vs.map refA))
/-- keys that hold tuples, and their trees -/
def DN : List (List L2.Key) → List T → Prop
  | [], _ => True
  | q :: ks, x :: xs => (∃ ts n, x = .tup ts ∧ nksT ts = some n ∧ (NestedKey.tup n).depth ≤ 8 ∧ q = encK (.tup n)) ∧ DN ks xs
  | _ :: _, [] => False
/-- as many values as keys; keys that are alone -/
def DL (m : Option Bool) (ks : List (List L2.Key)) (xs : List T) : Prop := ks.length = xs.length ∧ (m = some true → ∀ k ∈ ks, ∃ q, k = [q]) ∧ (m = none → DN ks xs)
theorem nOb_exh {a : Addr} {kvs : List (NestedKey × Addr)} {cls : Value} {d : Option Addr} (h : nOb a kvs = exh a cls d) : False := by
  have h : HO.ext (nPhi a kvs) = HO.ext (fun h => ∃ oe, h.get? a = some oe ∧ Zc cls d oe ∧ ∃ vs, oe.data = .fields vs) := h
  injection h with h
  let ob : Obj := { cls := cls, dict := d, data := .fields #[] }
  let h0 : Heap := { objs := (List.replicate (a + 1) ob).toArray }
  have g : h0.get? a = some ob := by
    show (match (List.replicate (a + 1) ob).toArray[a]? with | some ⟨_, _, .freed, _⟩ => none | o => o) = some ob
    have : (List.replicate (a + 1) ob).toArray[a]? = some ob := by simp
    rw [this]
  have e : nPhi a kvs h0 := by
    rw [h]
    exact ⟨ob, g, ⟨rfl, rfl⟩, #[], rfl⟩
  obtain ⟨_, _, _, o, es, ep, ho, _, hd, _⟩ := e
  rw [g] at ho
  cases ho
  cases hd
theorem dOb_lst {a : Addr} {m : Option Bool} {ks : List (List L2.Key)} {vs us : List V} (h : dOb a m ks vs = .lst us) : False := by
  rcases m with _ | (_ | _) <;> cases h
theorem dOb_tup {a : Addr} {m : Option Bool} {ks : List (List L2.Key)} {vs us : List V} (h : dOb a m ks vs = .tup us) : False := by
  rcases m with _ | (_ | _) <;> cases h
theorem dOb_frz {a : Addr} {m : Option Bool} {ks : List (List L2.Key)} {vs : List V} {o : Obj} {u : HO} (h : dOb a m ks vs = .frz o u) : False := by
  rcases m with _ | (_ | _) <;> cases h
theorem dOb_xd {a : Addr} {m : Option Bool} {ks : List (List L2.Key)} {vs : List V} {fs : List (Str × V)} (h : dOb a m ks vs = .xd fs) : False := by
  rcases m with _ | (_ | _) <;> cases h
theorem dOb_exh {a : Addr} {m : Option Bool} {ks : List (List L2.Key)} {vs : List V} {cls : Value} {d : Option Addr} (h : dOb a m ks vs = exh a cls d) : False := by
  rcases m with _ | (_ | _)
  · exact nOb_exh h
  · cases h
  · cases h
mutual
/-- v stands for the tree t; no list that is read stands at an address of E -/
def Rep (K : W.Frag) (H : Hp) (φ : List Addr) (E : Excl) : T → V → Prop
  | .non, v => v = .non
  | .bl b, v => v = .bl b
  | .int i, v => v = .int i
  | .str s, v => v = .str s
  | .tup xs, v => ∃ a vs, v = .ref a ∧ H a = some (.tup vs) ∧ Reps K H φ E xs vs
  | .ctup xs, v => ∃ a vs, v = .ref a ∧ SqT K H a vs ∧ Reps K H φ E xs vs
  | .lst xs, v => ∃ a vs, v = .ref a ∧ ¬ E a ∧ H a = some (.lst vs) ∧ Reps K H φ E xs vs
  | .frz ns, v => ∃ a, v = .ref a ∧ FrzL K H a (ns.map V.int)
  | .ref k, v => ∃ a, v = .ref a ∧ φ[k]? = some a
  | .own _, _ => False
  | .fn x _, v => ∃ a, v = .ref a ∧ PySem.W.nsIn K mainGlobals x = some (some (.ref a))
  | .exv c as, v => ∃ a cls d, v = .ref a ∧ H a = some (exh a cls d) ∧ XR K H c as cls d
  | .dct ks xs m, v => ∃ a vs, v = .ref a ∧ ¬ E a ∧ H a = some (dOb a m ks vs) ∧ DL m ks xs ∧ Reps K H φ E xs vs
  | .odct _ _ _, _ => False
def Reps (K : W.Frag) (H : Hp) (φ : List Addr) (E : Excl) : List T → List V → Prop
  | [], vs => vs = []
  | x :: xs, vs => ∃ v r, vs = v :: r ∧ Rep K H φ E x v ∧ Reps K H φ E xs r
end

structure Grow (H H' : Hp) (E E' : Excl) : Prop where
  tups : ∀ a xs, H a = some (.tup xs) → H' a = some (.tup xs)
  frzs : ∀ a o u, H a = some (.frz o u) → H' a = some (.frz o u)
  lsts : ∀ a xs, H a = some (.lst xs) → ¬ E a → H' a = some (.lst xs) ∧ ¬ E' a
  dcts : ∀ a (o : Option Bool × List (List L2.Key) × List V), H a = some (dOb a o.1 o.2.1 o.2.2) → ¬ E a → H' a = some (dOb a o.1 o.2.1 o.2.2) ∧ ¬ E' a
  exts : ∀ a (p : Value × Option Addr), H a = some (exh a p.1 p.2) → H' a = some (exh a p.1 p.2)
  xds : ∀ a fs, H a = some (.xd fs) → H' a = some (.xd fs)
theorem Grow.refl (H : Hp) (E : Excl) : Grow H H E E := ⟨fun _ _ h => h, fun _ _ _ h => h, fun _ _ h e => ⟨h, e⟩, fun _ _ h e => ⟨h, e⟩, fun _ _ h => h, fun _ _ h => h⟩
theorem Grow.trans {H H1 H2 : Hp} {E E1 E2 : Excl} (a : Grow H H1 E E1) (b : Grow H1 H2 E1 E2) : Grow H H2 E E2 :=
  ⟨fun x xs h => b.tups x xs (a.tups x xs h), fun x o u h => b.frzs x o u (a.frzs x o u h), fun x xs h e => by
    obtain ⟨h1, e1⟩ := a.lsts x xs h e
    exact b.lsts x xs h1 e1, fun x xs h e => by
    obtain ⟨h1, e1⟩ := a.dcts x xs h e
    exact b.dcts x xs h1 e1, fun x p h => b.exts x p (a.exts x p h), fun x p h => b.xds x p (a.xds x p h)⟩
/-- fewer exclusions -/
theorem Grow.less {H : Hp} {E E' : Excl} (h : ∀ a, E' a → E a) : Grow H H E E' := ⟨fun _ _ h => h, fun _ _ _ h => h, fun a _ x e => ⟨x, fun z => e (h a z)⟩, fun a _ x e => ⟨x, fun z => e (h a z)⟩, fun _ _ h => h, fun _ _ h => h⟩

theorem sqT_grow {K : W.Frag} {H H' : Hp} {E E' : Excl} {a : Addr} {xs : List V} (g : Grow H H' E E') (h : SqT K H a xs) : SqT K H' a xs := by
  rcases h with (h | ⟨o, h⟩) | h
  · exact .inl (.inl (g.tups _ _ h))
  · exact .inl (.inr ⟨o, g.frzs _ _ _ h⟩)
  · exact .inr h
theorem frzL_grow {K : W.Frag} {H H' : Hp} {E E' : Excl} {a : Addr} {xs : List V} (g : Grow H H' E E') (h : FrzL K H a xs) : FrzL K H' a xs := by
  rcases h with ⟨o, h⟩ | h
  · exact .inl ⟨o, g.frzs _ _ _ h⟩
  · exact .inr h
theorem frzL_sq {K : W.Frag} {H : Hp} {a : Addr} {xs : List V} (h : FrzL K H a xs) : SqL K H a xs := by
  rcases h with ⟨o, h⟩ | ((h | ⟨o, h⟩) | h)
  · exact .inl (.inr ⟨o, h⟩)
  · cases h
  · cases h
  · exact .inr h

section
variable {K : W.Frag} {H H' : Hp} {φ φ' : List Addr} {E E' : Excl}
theorem XR.grow {c : Nat} {as : List T} {cls : Value} {d : Option Addr} (hx : ∀ a fs, H a = some (.xd fs) → H' a = some (.xd fs)) (h : XR K H c as cls d) : XR K H' c as cls d := by
  obtain ⟨C, e, k, l, h | ⟨dd, fs, e1, e2, e3⟩⟩ := h
  · exact ⟨C, e, k, l, .inl h⟩
  · exact ⟨C, e, k, l, .inr ⟨dd, fs, e1, hx _ _ e2, e3⟩⟩
theorem get_pre {φ φ' : List Addr} (p : φ <+: φ') {k : Nat} {a : Addr} (h : φ[k]? = some a) : φ'[k]? = some a := by
  obtain ⟨r, rfl⟩ := p
  rw [List.getElem?_append_left (List.getElem?_eq_some_iff.mp h).1]
  exact h
mutual
theorem Rep.grow (g : Grow H H' E E') (p : φ <+: φ') : ∀ (t : T) (v : V), Rep K H φ E t v → Rep K H' φ' E' t v
  | .non, v, h => by simp only [Rep] at h ⊢; exact h
  | .bl b, v, h => by simp only [Rep] at h ⊢; exact h
  | .int i, v, h => by simp only [Rep] at h ⊢; exact h
  | .str s, v, h => by simp only [Rep] at h ⊢; exact h
  | .tup xs, v, h => by
    simp only [Rep] at h ⊢
    obtain ⟨a, vs, e, s, r⟩ := h
    exact ⟨a, vs, e, g.tups _ _ s, Reps.grow g p xs vs r⟩
  | .ctup xs, v, h => by
    simp only [Rep] at h ⊢
    obtain ⟨a, vs, e, s, r⟩ := h
    exact ⟨a, vs, e, sqT_grow g s, Reps.grow g p xs vs r⟩
  | .lst xs, v, h => by
    simp only [Rep] at h ⊢
    obtain ⟨a, vs, e, n, s, r⟩ := h
    obtain ⟨s', n'⟩ := g.lsts a vs s n
    exact ⟨a, vs, e, n', s', Reps.grow g p xs vs r⟩
  | .frz ns, v, h => by
    simp only [Rep] at h ⊢
    obtain ⟨a, e, s⟩ := h
    exact ⟨a, e, frzL_grow g s⟩
  | .ref k, v, h => by
    simp only [Rep] at h ⊢
    obtain ⟨a, e, s⟩ := h
    exact ⟨a, e, get_pre p s⟩
  | .own _, v, h => by simp only [Rep] at h
  | .fn _ _, v, h => by simp only [Rep] at h ⊢; exact h
  | .exv _ _, v, h => by
    simp only [Rep] at h ⊢
    obtain ⟨a, cls, d, e, ha, hx⟩ := h
    exact ⟨a, cls, d, e, g.exts a (cls, d) ha, hx.grow g.xds⟩
  | .dct ks xs m, v, h => by
    simp only [Rep] at h ⊢
    obtain ⟨a, vs, e, ne, ha, hl, r⟩ := h
    obtain ⟨h1, e1⟩ := g.dcts a (m, ks, vs) ha ne
    exact ⟨a, vs, e, e1, h1, hl, Reps.grow g p xs vs r⟩
  | .odct _ _ _, v, h => by simp only [Rep] at h
theorem Reps.grow (g : Grow H H' E E') (p : φ <+: φ') : ∀ (ts : List T) (vs : List V), Reps K H φ E ts vs → Reps K H' φ' E' ts vs
  | [], vs, h => by simp only [Reps] at h ⊢; exact h
  | x :: xs, vs, h => by
    simp only [Reps] at h ⊢
    obtain ⟨v, r, e, h1, h2⟩ := h
    exact ⟨v, r, e, Rep.grow g p x v h1, Reps.grow g p xs r h2⟩
end
theorem Reps.cons {x : T} {v : V} {xs : List T} {vs : List V} (h : Rep K H φ E x v) (hs : Reps K H φ E xs vs) : Reps K H φ E (x :: xs) (v :: vs) := by
  simp only [Reps]; exact ⟨v, vs, rfl, h, hs⟩
theorem Reps.nil : Reps K H φ E [] [] := by simp only [Reps]
theorem Reps.len : ∀ {ts : List T} {vs : List V}, Reps K H φ E ts vs → ts.length = vs.length
  | [], vs, h => by simp only [Reps] at h; subst h; rfl
  | x :: xs, vs, h => by
    simp only [Reps] at h
    obtain ⟨v, r, rfl, _, h⟩ := h
    simp [Reps.len h]
theorem Reps.get : ∀ {ts : List T} {vs : List V} {i : Nat} {t : T}, Reps K H φ E ts vs → ts[i]? = some t → ∃ v, vs[i]? = some v ∧ Rep K H φ E t v
  | [], vs, i, t, h, e => by simp at e
  | x :: xs, vs, 0, t, h, e => by
    simp only [Reps] at h
    obtain ⟨v, r, rfl, h1, h⟩ := h
    simp at e; subst e
    exact ⟨v, by simp, h1⟩
  | x :: xs, vs, i + 1, t, h, e => by
    simp only [Reps] at h
    obtain ⟨v, r, rfl, h1, h⟩ := h
    obtain ⟨u, h2, h3⟩ := Reps.get (i := i) h (by simpa using e)
    exact ⟨u, by simpa using h2, h3⟩
theorem Reps.append : ∀ {ts us : List T} {vs ws : List V}, Reps K H φ E ts vs → Reps K H φ E us ws → Reps K H φ E (ts ++ us) (vs ++ ws)
  | [], us, vs, ws, h, h' => by simp only [Reps] at h; subst h; exact h'
  | x :: xs, us, vs, ws, h, h' => by
    simp only [Reps] at h
    obtain ⟨v, r, rfl, h1, h⟩ := h
    exact .cons h1 (Reps.append h h')
theorem Reps.take : ∀ {ts : List T} {vs : List V} (n : Nat), Reps K H φ E ts vs → Reps K H φ E (ts.take n) (vs.take n)
  | [], vs, n, h => by simp only [Reps] at h; subst h; simpa using Reps.nil
  | x :: xs, vs, 0, h => by simpa using Reps.nil
  | x :: xs, vs, n + 1, h => by
    simp only [Reps] at h
    obtain ⟨v, r, rfl, h1, h⟩ := h
    simpa using Reps.cons h1 (Reps.take n h)
theorem Reps.drop : ∀ {ts : List T} {vs : List V} (n : Nat), Reps K H φ E ts vs → Reps K H φ E (ts.drop n) (vs.drop n)
  | [], vs, n, h => by simp only [Reps] at h; subst h; simpa using Reps.nil
  | x :: xs, vs, 0, h => by simpa using h
  | x :: xs, vs, n + 1, h => by
    simp only [Reps] at h
    obtain ⟨v, r, rfl, h1, h⟩ := h
    simpa using Reps.drop n h
theorem Reps.set {x : T} {v : V} (hx : Rep K H φ E x v) : ∀ {ts : List T} {vs : List V} (n : Nat), Reps K H φ E ts vs → Reps K H φ E (ts.set n x) (vs.set n v)
  | [], vs, n, h => by simp only [Reps] at h; subst h; simpa using Reps.nil
  | y :: xs, vs, 0, h => by
    simp only [Reps] at h
    obtain ⟨w, r, rfl, h1, h⟩ := h
    simpa using Reps.cons hx h
  | y :: xs, vs, n + 1, h => by
    simp only [Reps] at h
    obtain ⟨w, r, rfl, h1, h⟩ := h
    simpa using Reps.cons h1 (Reps.set hx n h)
theorem Reps.repl {ts : List T} {vs : List V} (h : Reps K H φ E ts vs) : ∀ n : Nat, Reps K H φ E (List.replicate n ts).flatten (List.replicate n vs).flatten
  | 0 => Reps.nil
  | n + 1 => by
    rw [List.replicate_succ, List.replicate_succ, List.flatten_cons, List.flatten_cons]
    exact h.append (Reps.repl h n)
theorem Reps.dropLast {ts : List T} {vs : List V} (h : Reps K H φ E ts vs) : Reps K H φ E ts.dropLast vs.dropLast := by
  rw [List.dropLast_eq_take, List.dropLast_eq_take, h.len]
  exact h.take _
theorem Reps.ints : ∀ {ns : List Int}, Reps K H φ E (ns.map T.int) (ns.map V.int)
  | [] => Reps.nil
  | n :: ns => by
    rw [List.map_cons, List.map_cons]
    exact Reps.cons (by simp only [Rep]) Reps.ints
theorem Reps.of_ints : ∀ {ts : List T} {vs : List V} {ns : List Int}, Reps K H φ E ts vs → intsT ts = some ns → vs = ns.map V.int
  | [], vs, ns, h, e => by simp only [Reps] at h; subst h; cases e; rfl
  | x :: xs, vs, ns, h, e => by
    simp only [Reps] at h
    obtain ⟨v, r, rfl, h1, h⟩ := h
    cases x with
    | int i =>
      simp only [Rep] at h1
      subst h1
      simp only [intsT, Option.map_eq_some_iff] at e
      obtain ⟨ms, e1, rfl⟩ := e
      rw [Reps.of_ints h e1]; rfl
    | _ => cases e
theorem Reps.of_bools : ∀ {ts : List T} {vs : List V} {ns : List Bool}, Reps K H φ E ts vs → bools ts = some ns → vs = ns.map V.bl
  | [], vs, ns, h, e => by simp only [Reps] at h; subst h; cases e; rfl
  | x :: xs, vs, ns, h, e => by
    simp only [Reps] at h
    obtain ⟨v, r, rfl, h1, h⟩ := h
    cases x with
    | bl i =>
      simp only [Rep] at h1
      subst h1
      simp only [bools, Option.map_eq_some_iff] at e
      obtain ⟨ms, e1, rfl⟩ := e
      rw [Reps.of_bools h e1]; rfl
    | _ => cases e
end

/-! ### the state -/
/-- what is fixed while a def's body runs -/
structure Fm where
  φ0 : List Addr
  E0 : Excl
  H0 : Hp
/-- what may change: the store's addresses, the exclusions from outside, the slots' own lists -/
structure Wd where
  φ : List Addr
  E : Excl
  μ : Nat → Option Addr
def Wd.tot (w : Wd) : Excl := fun a => w.E a ∨ ∃ i, w.μ i = some a
def plus1 (E : Excl) (a : Addr) : Excl := fun b => E b ∨ b = a

/-- a slot's value -/
def SlotR (K : W.Frag) (H : Hp) (w : Wd) (i : Nat) : T → V → Prop
  | .own xs, v => ∃ a vs, v = .ref a ∧ w.μ i = some a ∧ H a = some (.lst vs) ∧ Reps K H w.φ w.tot xs vs
  | .odct ks xs m, v => ∃ a vs, v = .ref a ∧ w.μ i = some a ∧ H a = some (dOb a m ks vs) ∧ DL m ks xs ∧ Reps K H w.φ w.tot xs vs
  | t, v => Rep K H w.φ w.tot t v
def ObjR (K : W.Frag) (H : Hp) (φ : List Addr) (E : Excl) (a : Addr) : T → Prop
  | .own xs => ∃ vs, H a = some (.lst vs) ∧ Reps K H φ E xs vs
  | _ => False
/-- the store stands -/
structure StR (K : W.Frag) (φ : List Addr) (E : Excl) (H : Hp) (S : Store) : Prop where
  len : φ.length = S.length
  nd : φ.Nodup
  pe : ∀ a ∈ φ, E a
  dom : ∀ a, E a → H a ≠ none
  obj : ∀ (k : Nat) (t : T), S[k]? = some t → ∃ a, φ[k]? = some a ∧ ObjR K H φ E a t
  nl : ∀ (k : Nat) (xs : List T), S[k]? = some (.own xs) → nls xs = true
/-- all but the store's objects is kept -/
structure Kp (φ : List Addr) (H H' : Hp) : Prop where
  keep : ∀ a o, H a = some o → a ∉ φ → H' a = some o
  dom : ∀ a, H a ≠ none → H' a ≠ none
theorem Kp.refl (φ : List Addr) (H : Hp) : Kp φ H H := ⟨fun _ _ h _ => h, fun _ h => h⟩
theorem Kp.trans {φ : List Addr} {H H1 H2 : Hp} (a : Kp φ H H1) (b : Kp φ H1 H2) : Kp φ H H2 :=
  ⟨fun x o h n => b.keep x o (a.keep x o h n) n, fun x h => b.dom x (a.dom x h)⟩
/-- something new -/
theorem Kp.new {φ : List Addr} {H : Hp} {p : Addr} {o : HO} (h : H p = none) : Kp φ H (upd H p o) :=
  ⟨fun a u e _ => by rw [upd_ne (ne_of_none e h)]; exact e, fun a e => by
    by_cases z : a = p
    · subst z; rw [upd_same]; simp
    · rw [upd_ne z]; exact e⟩

structure SR (K : W.Frag) (f : Fm) (w : Wd) (σ : St) (H : Hp) (ρ : En) (S : Store) : Prop where
  st : StR K w.φ w.tot H S
  pe : ∀ a ∈ w.φ, w.E a
  mnew : ∀ i a, w.μ i = some a → f.H0 a = none
  mE : ∀ i a, w.μ i = some a → ¬ w.E a
  minj : ∀ i j a, w.μ i = some a → w.μ j = some a → i = j
  eE : ∀ a, f.E0 a → w.E a
  pre : f.φ0 <+: w.φ
  nφ : ∀ a ∈ w.φ, a ∈ f.φ0 ∨ f.H0 a = none
  k0 : Kp f.φ0 f.H0 H
  slen : σ.length = ρ.length
  slots : ∀ (i : Nat) (t : T), ρ.get i = some t → ∃ v, σ[i]? = some (some v) ∧ SlotR K H w i t v

section
variable {K : W.Frag} {f : Fm} {w : Wd} {σ : St} {H H' : Hp} {ρ : En} {S S' : Store}
theorem StR.atφ {φ : List Addr} {E : Excl} (s : StR K φ E H S) {a : Addr} (h : a ∈ φ) : ∃ vs, H a = some (.lst vs) := by
  obtain ⟨k, hk⟩ := List.getElem?_of_mem h
  have hl : k < S.length := by rw [← s.len]; exact (List.getElem?_eq_some_iff.mp hk).1
  obtain ⟨b, h1, h2⟩ := s.obj k S[k] (by simp [hl])
  rw [hk] at h1; cases h1
  cases e : S[k] with
  | own xs => rw [e] at h2; simp only [ObjR] at h2; obtain ⟨vs, q, _⟩ := h2; exact ⟨vs, q⟩
  | _ => rw [e] at h2; simp only [ObjR] at h2
theorem StR.grow {φ : List Addr} {E : Excl} (s : StR K φ E H S) (k : Kp φ H H') : Grow H H' E E := by
  refine ⟨fun a xs h => k.keep a _ h fun z => ?_, fun a o u h => k.keep a _ h fun z => ?_, fun a xs h e => ⟨k.keep a _ h fun z => e (s.pe a z), e⟩, fun a xs h e => ⟨k.keep a _ h fun z => e (s.pe a z), e⟩, fun a p h => k.keep a _ h fun z => ?_, fun a p h => k.keep a _ h fun z => ?_⟩
  · obtain ⟨vs, q⟩ := s.atφ z; rw [h] at q; cases q
  · obtain ⟨vs, q⟩ := s.atφ z; rw [h] at q; cases q
  · obtain ⟨vs, q⟩ := s.atφ z; rw [h] at q; cases q
  · obtain ⟨vs, q⟩ := s.atφ z; rw [h] at q; cases q
theorem SR.grow (s : SR K f w σ H ρ S) (k : Kp w.φ H H') : Grow H H' w.tot w.tot := s.st.grow k
theorem SR.dom0 (s : SR K f w σ H ρ S) {a : Addr} (h : H a = none) : f.H0 a = none := by
  cases e : f.H0 a with
  | none => rfl
  | some o => exact absurd h (s.k0.dom a (by rw [e]; simp))
theorem SR.free (s : SR K f w σ H ρ S) {a : Addr} (h : H a = none) : ¬ w.tot a := fun z => s.st.dom a z h
theorem SlotR.grow {i : Nat} {t : T} {v : V} (g : Grow H H' w.tot w.tot) (ho : ∀ j a o, w.μ j = some a → H a = some o → H' a = some o) (h : SlotR K H w i t v) : SlotR K H' w i t v := by
  cases t with
  | own xs =>
    simp only [SlotR] at h ⊢
    obtain ⟨a, vs, e, m, q, r⟩ := h
    exact ⟨a, vs, e, m, ho i a _ m q, r.grow g (List.prefix_refl _) xs vs⟩
  | odct ks xs =>
    simp only [SlotR] at h ⊢
    obtain ⟨a, vs, e, m, q, hl, r⟩ := h
    exact ⟨a, vs, e, m, ho i a _ m q, hl, r.grow g (List.prefix_refl _) xs vs⟩
  | _ => simp only [SlotR] at h ⊢; exact Rep.grow g (List.prefix_refl _) _ _ h
theorem SR.muφ (s : SR K f w σ H ρ S) {i : Nat} {a : Addr} (h : w.μ i = some a) : a ∉ w.φ := fun z => s.mE i a h (s.pe a z)
/-- the state behind an expression that changed the store alone -/
theorem SR.after (s : SR K f w σ H ρ S) (k : Kp w.φ H H') (st : StR K w.φ w.tot H' S') : SR K f w σ H' ρ S' := by
  have g := s.grow k
  refine ⟨st, s.pe, s.mnew, s.mE, s.minj, s.eE, s.pre, s.nφ, ⟨fun a o h n => ?_, fun a h => k.dom a (s.k0.dom a h)⟩, s.slen, fun i t h => ?_⟩
  · refine k.keep a o (s.k0.keep a o h n) fun z => ?_
    rcases s.nφ a z with q | q
    · exact n q
    · rw [h] at q; cases q
  · obtain ⟨v, h1, h2⟩ := s.slots i t h
    exact ⟨v, h1, h2.grow g fun j a xs m q => k.keep a _ q (s.muφ m)⟩
/-- .. something new was made -/
theorem StR.new {φ : List Addr} {E : Excl} {p : Addr} {o : HO} (s : StR K φ E H S) (h : H p = none) : StR K φ E (upd H p o) S := by
  have k : Kp φ H (upd H p o) := Kp.new h
  have g := s.grow k
  refine ⟨s.len, s.nd, s.pe, fun a e => k.dom a (s.dom a e), fun i t e => ?_, s.nl⟩
  obtain ⟨a, h1, h2⟩ := s.obj i t e
  refine ⟨a, h1, ?_⟩
  cases t with
  | own xs =>
    simp only [ObjR] at h2 ⊢
    obtain ⟨vs, q, r⟩ := h2
    exact ⟨vs, by rw [upd_ne (ne_of_none q h)]; exact q, r.grow g (List.prefix_refl _) xs vs⟩
  | _ => simp only [ObjR] at h2
theorem SR.new {p : Addr} {o : HO} (s : SR K f w σ H ρ S) (h : H p = none) : SR K f w σ (upd H p o) ρ S := s.after (Kp.new h) (s.st.new h)
end

/-- what an expression hands back: a tree; a new list; a list that may be looked at alone -/
inductive ER (K : W.Frag) (φ : List Addr) (E : Excl) (st : Bool) (Hb H : Hp) : T → V → Prop
  | rep {t : T} {v : V} : Rep K H φ E t v → ER K φ E st Hb H t v
  | new {xs : List T} {a : Addr} {vs : List V} : ¬ E a → Hb a = none → H a = some (.lst vs) → Reps K H φ (plus1 E a) xs vs → ER K φ E st Hb H (.own xs) (.ref a)
  | look {xs : List T} {a : Addr} {vs : List V} : st = false → a ∉ φ → H a = some (.lst vs) → Reps K H φ E xs vs → ER K φ E st Hb H (.lst xs) (.ref a)
  | newd {m : Option Bool} {ks : List (List L2.Key)} {xs : List T} {a : Addr} {vs : List V} : ¬ E a → Hb a = none → H a = some (dOb a m ks vs) → DL m ks xs → Reps K H φ (plus1 E a) xs vs → ER K φ E st Hb H (.odct ks xs m) (.ref a)
  | lookd {m : Option Bool} {ks : List (List L2.Key)} {xs : List T} {a : Addr} {vs : List V} : st = false → a ∉ φ → H a = some (dOb a m ks vs) → DL m ks xs → Reps K H φ E xs vs → ER K φ E st Hb H (.dct ks xs m) (.ref a)
/-- what the exclusions are known by -/
structure Dom (φ : List Addr) (E : Excl) (H : Hp) : Prop where
  pe : ∀ a ∈ φ, E a
  dom : ∀ a, E a → H a ≠ none
  lst : ∀ a ∈ φ, ∃ vs, H a = some (.lst vs)
theorem StR.toDom {K : W.Frag} {φ : List Addr} {E : Excl} {H : Hp} {S : Store} (s : StR K φ E H S) : Dom φ E H := ⟨s.pe, s.dom, fun _ h => s.atφ h⟩
section
variable {K : W.Frag} {φ : List Addr} {E : Excl} {Hb H H' : Hp} {st : Bool} {t : T} {v : V}
theorem plus1_less {E : Excl} {a : Addr} {H : Hp} : Grow H H (plus1 E a) E := Grow.less fun _ h => .inl h
theorem Dom.grow (d : Dom φ E H) (k : Kp φ H H') : Grow H H' E E := by
  refine ⟨fun a xs h => k.keep a _ h fun z => ?_, fun a o u h => k.keep a _ h fun z => ?_, fun a xs h e => ⟨k.keep a _ h fun z => e (d.pe a z), e⟩, fun a xs h e => ⟨k.keep a _ h fun z => e (d.pe a z), e⟩, fun a p h => k.keep a _ h fun z => ?_, fun a p h => k.keep a _ h fun z => ?_⟩
  · obtain ⟨vs, q⟩ := d.lst a z; rw [h] at q; cases q
  · obtain ⟨vs, q⟩ := d.lst a z; rw [h] at q; cases q
  · obtain ⟨vs, q⟩ := d.lst a z; rw [h] at q; cases q
  · obtain ⟨vs, q⟩ := d.lst a z; rw [h] at q; cases q
theorem Dom.free (d : Dom φ E H) {a : Addr} (h : H a = none) : ¬ E a := fun z => d.dom a z h
theorem ER.after (d : Dom φ E H) (k : Kp φ H H') (e : ER K φ E st Hb H t v) : ER K φ E st Hb H' t v := by
  have g := d.grow k
  cases e with
  | rep r => exact .rep (Rep.grow g (List.prefix_refl _) _ _ r)
  | @new xs a vs n hb h r =>
    refine .new n hb (k.keep _ _ h fun z => n (d.pe _ z)) (Reps.grow ⟨g.tups, g.frzs, fun b ys q e => ?_, fun b ys q e => ?_, g.exts, g.xds⟩ (List.prefix_refl _) _ _ r)
    · exact ⟨(g.lsts b ys q fun z => e (.inl z)).1, e⟩
    · exact ⟨(g.dcts b ys q fun z => e (.inl z)).1, e⟩
  | look h1 h2 h r => exact .look h1 h2 (k.keep _ _ h h2) (Reps.grow g (List.prefix_refl _) _ _ r)
  | @newd m ks xs a vs n hb h hl r =>
    refine .newd n hb (k.keep _ _ h fun z => n (d.pe _ z)) hl (Reps.grow ⟨g.tups, g.frzs, fun b ys q e => ?_, fun b ys q e => ?_, g.exts, g.xds⟩ (List.prefix_refl _) _ _ r)
    · exact ⟨(g.lsts b ys q fun z => e (.inl z)).1, e⟩
    · exact ⟨(g.dcts b ys q fun z => e (.inl z)).1, e⟩
  | lookd h1 h2 h hl r => exact .lookd h1 h2 (k.keep _ _ h h2) hl (Reps.grow g (List.prefix_refl _) _ _ r)
theorem ER.early {Hc : Hp} (d : ∀ a, Hc a ≠ none → Hb a ≠ none) (e : ER K φ E st Hb H t v) : ER K φ E st Hc H t v := by
  cases e with
  | rep r => exact .rep r
  | @new xs a vs n hb h r =>
    refine .new n ?_ h r
    cases z : Hc a with
    | none => rfl
    | some o => exact absurd hb (d a (by rw [z]; simp))
  | look h1 h2 h r => exact .look h1 h2 h r
  | @newd m ks xs a vs n hb h hl r =>
    refine .newd n ?_ h hl r
    cases z : Hc a with
    | none => rfl
    | some o => exact absurd hb (d a (by rw [z]; simp))
  | lookd h1 h2 h hl r => exact .lookd h1 h2 h hl r
/-- a new list kept as a plain one -/
theorem ER.view (e : ER K φ E true Hb H t v) : Rep K H φ E t.view v := by
  cases e with
  | rep r =>
    cases t with
    | own xs => simp only [Rep] at r
    | odct xs => simp only [Rep] at r
    | _ => exact r
  | new n hb h r =>
    show Rep K H φ E (.lst _) _
    simp only [Rep]
    exact ⟨_, _, rfl, n, h, r.grow plus1_less (List.prefix_refl _) _ _⟩
  | look h1 => cases h1
  | newd n hb h hl r =>
    show Rep K H φ E (.dct _ _ _) _
    simp only [Rep]
    exact ⟨_, _, rfl, n, h, hl, r.grow plus1_less (List.prefix_refl _) _ _⟩
  | lookd h1 => cases h1
theorem ER.weak (e : ER K φ E true Hb H t v) : ER K φ E st Hb H t v := by
  cases e with
  | rep r => exact .rep r
  | new n hb h r => exact .new n hb h r
  | look h1 => cases h1
  | newd n hb h hl r => exact .newd n hb h hl r
  | lookd h1 => cases h1
theorem ER.weak' (e : ER K φ E st Hb H t v) : ER K φ E false Hb H t v := by
  cases e with
  | rep r => exact .rep r
  | new n hb h r => exact .new n hb h r
  | look h1 h2 h r => exact .look rfl h2 h r
  | newd n hb h hl r => exact .newd n hb h hl r
  | lookd h1 h2 h hl r => exact .lookd rfl h2 h hl r
/-- a value to be looked at -/
def LR (K : W.Frag) (φ : List Addr) (E : Excl) (H : Hp) (t : T) (v : V) : Prop := ∃ Hb, ER K φ E false Hb H t v
theorem ER.lr (e : ER K φ E st Hb H t v) : LR K φ E H t v := ⟨Hb, e.weak'⟩
theorem LR.after (d : Dom φ E H) (k : Kp φ H H') (e : LR K φ E H t v) : LR K φ E H' t v := let ⟨Hb, e⟩ := e; ⟨Hb, e.after d k⟩
theorem LR.int {i : Int} (e : LR K φ E H (.int i) v) : v = .int i := by
  obtain ⟨_, e⟩ := e
  cases e with
  | rep r => simp only [Rep] at r; exact r
theorem LR.bl {b : Bool} (e : LR K φ E H (.bl b) v) : v = .bl b := by
  obtain ⟨_, e⟩ := e
  cases e with
  | rep r => simp only [Rep] at r; exact r
theorem LR.str {s : Str} (e : LR K φ E H (.str s) v) : v = .str s := by
  obtain ⟨_, e⟩ := e
  cases e with
  | rep r => simp only [Rep] at r; exact r
theorem LR.non (e : LR K φ E H .non v) : v = .non := by
  obtain ⟨_, e⟩ := e
  cases e with
  | rep r => simp only [Rep] at r; exact r
theorem LR.tupS {xs : List T} (e : LR K φ E H (.tup xs) v) : ∃ a vs, v = .ref a ∧ H a = some (.tup vs) ∧ Reps K H φ E xs vs := by
  obtain ⟨_, e⟩ := e
  cases e with
  | rep r => simp only [Rep] at r; exact r
theorem LR.tup {xs : List T} (e : LR K φ E H (.tup xs) v) : ∃ a vs, v = .ref a ∧ SqT K H a vs ∧ Reps K H φ E xs vs := by
  obtain ⟨a, vs, h1, h2, h3⟩ := e.tupS
  exact ⟨a, vs, h1, SqT.of h2, h3⟩
theorem LR.ctup {xs : List T} (e : LR K φ E H (.ctup xs) v) : ∃ a vs, v = .ref a ∧ SqT K H a vs ∧ Reps K H φ E xs vs := by
  obtain ⟨_, e⟩ := e
  cases e with
  | rep r => simp only [Rep] at r; exact r
theorem LR.dct {m : Option Bool} {ks : List (List L2.Key)} {xs : List T} (d : Dom φ E H) (e : LR K φ E H (.dct ks xs m) v) : ∃ a vs, v = .ref a ∧ a ∉ φ ∧ H a = some (dOb a m ks vs) ∧ DL m ks xs ∧ Reps K H φ E xs vs := by
  obtain ⟨_, e⟩ := e
  cases e with
  | rep r =>
    simp only [Rep] at r
    obtain ⟨a, vs, e, n, q, hl, r⟩ := r
    exact ⟨a, vs, e, fun z => n (d.pe _ z), q, hl, r⟩
  | lookd h1 h2 q hl r => exact ⟨_, _, rfl, h2, q, hl, r⟩
theorem LR.lst {xs : List T} (d : Dom φ E H) (e : LR K φ E H (.lst xs) v) : ∃ a vs, v = .ref a ∧ a ∉ φ ∧ H a = some (.lst vs) ∧ Reps K H φ E xs vs := by
  obtain ⟨_, e⟩ := e
  cases e with
  | rep r =>
    simp only [Rep] at r
    obtain ⟨a, vs, e, n, q, r⟩ := r
    exact ⟨a, vs, e, fun z => n (d.pe _ z), q, r⟩
  | look h1 h2 q r => exact ⟨_, _, rfl, h2, q, r⟩
theorem LR.own {xs : List T} (d : Dom φ E H) (e : LR K φ E H (.own xs) v) : ∃ a vs, v = .ref a ∧ a ∉ φ ∧ H a = some (.lst vs) ∧ Reps K H φ E xs vs := by
  obtain ⟨_, e⟩ := e
  cases e with
  | rep r => simp only [Rep] at r
  | new n hb q r => exact ⟨_, _, rfl, fun z => n (d.pe _ z), q, r.grow plus1_less (List.prefix_refl _) _ _⟩
theorem LR.frz {ns : List Int} (e : LR K φ E H (.frz ns) v) : ∃ a, v = .ref a ∧ FrzL K H a (ns.map V.int) := by
  obtain ⟨_, e⟩ := e
  cases e with
  | rep r => simp only [Rep] at r; exact r
/-- a sequence to be read: a list that stands (no store's), a tuple, the script -/
theorem LR.seq {xs : List T} (d : Dom φ E H) (e : LR K φ E H t v) (h : seqOf t = some xs) :
    ∃ a vs, v = .ref a ∧ Reps K H φ E xs vs ∧ ((H a = some (.lst vs) ∧ a ∉ φ) ∨ SqT K H a vs ∨ FrzL K H a vs) := by
  cases t with
  | tup ys =>
    simp only [seqOf, Option.some.injEq] at h; subst h
    obtain ⟨a, vs, e, q, r⟩ := e.tup
    exact ⟨a, vs, e, r, .inr (.inl q)⟩
  | ctup ys =>
    simp only [seqOf, Option.some.injEq] at h; subst h
    obtain ⟨a, vs, e, q, r⟩ := e.ctup
    exact ⟨a, vs, e, r, .inr (.inl q)⟩
  | lst ys =>
    simp only [seqOf, Option.some.injEq] at h; subst h
    obtain ⟨a, vs, e, n, q, r⟩ := e.lst d
    exact ⟨a, vs, e, r, .inl ⟨q, n⟩⟩
  | own ys =>
    simp only [seqOf, Option.some.injEq] at h; subst h
    obtain ⟨a, vs, e, n, q, r⟩ := e.own d
    exact ⟨a, vs, e, r, .inl ⟨q, n⟩⟩
  | frz ns =>
    simp only [seqOf, Option.some.injEq] at h; subst h
    obtain ⟨a, e, q⟩ := e.frz
    exact ⟨a, _, e, Reps.ints, .inr (.inr q)⟩
  | _ => cases h
/-- nothing, or one new object -/
def Nw (H H' : Hp) : Prop := H' = H ∨ ∃ p o, H p = none ∧ H' = upd H p o
theorem Nw.kp {φ : List Addr} (n : Nw H H') : Kp φ H H' := by
  rcases n with rfl | ⟨p, o, h, rfl⟩
  · exact Kp.refl _ _
  · exact Kp.new h
theorem SR.nw {f : Fm} {w : Wd} {σ : St} {ρ : En} {S : Store} (s : SR K f w σ H ρ S) (n : Nw H H') : SR K f w σ H' ρ S := by
  rcases n with rfl | ⟨p, o, h, rfl⟩
  · exact s
  · exact s.new h
end
end Ip

set_option maxHeartbeats 2000000
/-! Ip2: operators by trees. -/
namespace Ip
open PySem PySem.Spec PyProof.Rows L2

/-! ### a tuple times an int, the ends of it -/
theorem tuple_mul_same (l : Addr) (items : Array Value) (n : Nat) (dd : Option Addr) (sl : Array (Option Value)) (x : Int) (u : Tok) (c0 : (decide (x < -(2 ^ 63)) || decide (x ≥ 2 ^ 63)) = false) (c1 : (items.isEmpty || x == 1) = true) :
    Meets (Builtin.«tuple.__mul__» ⟨[.ref l, .int x u], []⟩) (fun _ R s => s.heap.get? l = some { cls := .type "tuple", dict := dd, data := .seq items n, slots := sl } ∧
      R (.ok (.ret (Value.ref l))) s) :=
  .of_wp fun prog w A R s h => by
    obtain ⟨hp, g, d, tk, os⟩ := s
    obtain ⟨hl, h⟩ := h
    have f1 := AutoSeq1.idx_int
    wp_walk using wpAny_loadPart' hl
    repeat (first
      | (refine wpAny_ite_false (decide_eq_false (by rw [c0]; exact Bool.false_ne_true)) ?_; wp_walk using wpAny_loadPart' hl)
      | (refine wpAny_ite_true (decide_eq_true (by rw [c1])) ?_; wp_walk using wpAny_loadPart' hl))
    exact ⟨_, rfl, h⟩
theorem tuple_mul_none (l : Addr) (items : Array Value) (n : Nat) (dd : Option Addr) (sl : Array (Option Value)) (x : Int) (u : Tok) (c0 : (decide (x < -(2 ^ 63)) || decide (x ≥ 2 ^ 63)) = false) (c1 : (items.isEmpty || x == 1) = false) (c2 : (decide (x ≤ 0) || items.isEmpty) = true) :
    Meets (Builtin.«tuple.__mul__» ⟨[.ref l, .int x u], []⟩) (fun _ R s => s.heap.get? l = some { cls := .type "tuple", dict := dd, data := .seq items n, slots := sl } ∧
      R (.ok (.ret (Value.ref s.heap.objs.size))) { s with heap := s.heap.push { cls := Value.type "tuple", data := Data.seq #[] }, toks := s.toks }) :=
  .of_wp fun prog w A R s h => by
    obtain ⟨hp, g, d, tk, os⟩ := s
    obtain ⟨hl, h⟩ := h
    have f1 := AutoSeq1.idx_int
    have hsz : ((#[] : Array Value).size) ≤ sizeLine := Nat.zero_le _
    wp_walk using wpAny_loadPart' hl
    repeat (first
      | (refine wpAny_ite_false (decide_eq_false (by rw [c0]; exact Bool.false_ne_true)) ?_; wp_walk using wpAny_loadPart' hl)
      | (refine wpAny_ite_false (decide_eq_false (by rw [c1]; exact Bool.false_ne_true)) ?_; wp_walk using wpAny_loadPart' hl)
      | (refine wpAny_ite_true (decide_eq_true (by rw [c2])) ?_; wp_walk using wpAny_loadPart' hl)
      | (refine wpAny_ite_false (decide_eq_false (Nat.not_lt.mpr hsz)) ?_; wp_walk using wpAny_loadPart' hl))
    exact ⟨_, rfl, h⟩
section
variable {X : Cx}
def rRepT1 (K : PySem.W.Frag) : R2 := fun x y H Q => ∃ l k xs, x = .ref l ∧ y = .int k ∧ SqT K H l xs ∧ (-(2 ^ 62) < k ∧ k < 2 ^ 62) ∧ (((xs = [] ∨ k = 1) ∧ Q (.ref l) H) ∨ (xs ≠ [] ∧ k ≤ 0 ∧ ∀ p, H p = none → Q (.ref p) (upd H p (.tup []))))
theorem op_repT1 : OpR X (binaryOp .Mult) (rRepT1 X.K) := by
  intro pins s σ H x y v u Q I rx ry h
  obtain ⟨l, k, xs, rfl, rfl, hT, ⟨h1, h2⟩, hq⟩ := h
  cases rx
  obtain ⟨t, rfl⟩ := ry
  obtain ⟨its, r, ⟨⟨cls, dd, data, sl⟩, ho, hc, n, hd⟩, hs⟩ := I.tuple hT
  simp only at hc hd
  subst hc hd
  have hle : its.length = xs.length := r.length.symm
  have c0 : (decide (k < -(2 ^ 63)) || decide (k ≥ 2 ^ 63)) = false := by
    rw [decide_eq_false (by omega), decide_eq_false (by omega)] <;> rfl
  have emp : its.toArray.isEmpty = decide (xs = []) := by
    cases its with
    | nil => cases xs with
      | nil => rfl
      | cons a b => simp at hle
    | cons c d => cases xs with
      | nil => simp at hle
      | cons a b => simp
  rcases hq with ⟨hz, q⟩ | ⟨hn, h0, q⟩
  · have c1 : (its.toArray.isEmpty || k == 1) = true := by
      rw [emp]
      rcases hz with z | z
      · simp [z]
      · simp [z]
    exact wpAny_binaryOp_repeat_ref (T := "tuple") (U := "int") (by decide) ⟨_, ho, rfl⟩ (fun s' => typeIs_int s' k t) noFill_tuple_mul F.fills_int_mul F.slot_int_rmul repeat_tuple F.slot_int_index.lookup
      (call_meets F.slot_int_rmul (typeIs_int s k t) F.entry_int_rmul (F.args_int_rmul_2 _ _) (int_rmul_tuple k t l its.toArray n dd sl)
        ⟨ho, rfl, ⟨_, ho, rfl⟩, call_meets F.slot_tuple_mul ⟨_, ho, rfl⟩ F.entry_tuple_mul (F.args_tuple_mul_2 _ _) (tuple_mul_same l its.toArray n dd sl k t c0 c1) ⟨ho, ⟨.ref l, H, I, rfl, q⟩⟩⟩)
  · have c1 : (its.toArray.isEmpty || k == 1) = false := by
      rw [emp, decide_eq_false hn, Bool.false_or]
      exact beq_eq_false_iff_ne.mpr (by omega)
    have c2 : (decide (k ≤ 0) || its.toArray.isEmpty) = true := by
      rw [decide_eq_true h0]; rfl
    refine wpAny_binaryOp_repeat_ref (T := "tuple") (U := "int") (by decide) ⟨_, ho, rfl⟩ (fun s' => typeIs_int s' k t) noFill_tuple_mul F.fills_int_mul F.slot_int_rmul repeat_tuple F.slot_int_index.lookup
      (call_meets F.slot_int_rmul (typeIs_int s k t) F.entry_int_rmul (F.args_int_rmul_2 _ _) (int_rmul_tuple k t l its.toArray n dd sl)
        ⟨ho, rfl, ⟨_, ho, rfl⟩, call_meets F.slot_tuple_mul ⟨_, ho, rfl⟩ F.entry_tuple_mul (F.args_tuple_mul_2 _ _) (tuple_mul_none l its.toArray n dd sl k t c0 c1 c2) ⟨ho, ?_⟩⟩)
    refine ⟨.ref s.heap.objs.size, _, I.laid (t' := s.toks) (o := .tup []) (fun b ob q => Heap.get?_push_of_some _ q) (Nat.le_refl _) ?_, rfl, q _ (I.hok.fresh (Nat.le_refl _))⟩
    exact ⟨Nat.zero_le _, [], .nil, IsTup.new _ _⟩
end

/-! ### operators on trees -/
/-- by a function of two trees -/
def rT2 (K : PySem.W.Frag) (g : T → T → Option T) : R2 := fun x y H Q => ∃ φ E tx ty r, Dom φ E H ∧ LR K φ E H tx x ∧ LR K φ E H ty y ∧ g tx ty = some r ∧ ∀ v H', Nw H H' → ER K φ E true H H' r v → Q v H'
section
variable {K : W.Frag} {φ : List Addr} {E : Excl} {H : Hp} {Q : VK}
theorem fin0 {r : T} {v : V} (q : ∀ v H', Nw H H' → ER K φ E true H H' r v → Q v H') (h : Rep K H φ E r v) : Q v H := q _ _ (.inl rfl) (.rep h)
theorem fin_int {i : Int} (q : ∀ v H', Nw H H' → ER K φ E true H H' (.int i) v → Q v H') : Q (.int i) H := fin0 q (by simp only [Rep])
theorem fin_bl {b : Bool} (q : ∀ v H', Nw H H' → ER K φ E true H H' (.bl b) v → Q v H') : Q (.bl b) H := fin0 q (by simp only [Rep])
theorem fin_tup {ts : List T} {vs : List V} {p : Addr} (d : Dom φ E H) (q : ∀ v H', Nw H H' → ER K φ E true H H' (.tup ts) v → Q v H') (hp : H p = none) (r : Reps K H φ E ts vs) : Q (.ref p) (upd H p (.tup vs)) := by
  have k : Kp φ H (upd H p (.tup vs)) := Kp.new hp
  refine q _ _ (.inr ⟨p, _, hp, rfl⟩) (.rep ?_)
  simp only [Rep]
  exact ⟨p, vs, rfl, upd_same, r.grow (d.grow k) (List.prefix_refl _) _ _⟩
theorem fin_own {ts : List T} {vs : List V} {p : Addr} (d : Dom φ E H) (q : ∀ v H', Nw H H' → ER K φ E true H H' (.own ts) v → Q v H') (hp : H p = none) (r : Reps K H φ E ts vs) : Q (.ref p) (upd H p (.lst vs)) := by
  have k : Kp φ H (upd H p (.lst vs)) := Kp.new hp
  have g := d.grow k
  refine q _ _ (.inr ⟨p, _, hp, rfl⟩) (.new (d.free hp) hp upd_same (r.grow ⟨g.tups, g.frzs, fun a xs h e => ?_, fun a xs h e => ?_, g.exts, g.xds⟩ (List.prefix_refl _) _ _))
  · exact ⟨(g.lsts a xs h e).1, fun z => z.elim e fun z => ne_of_none h hp z⟩
  · exact ⟨(g.dcts a xs h e).1, fun z => z.elim e fun z => ne_of_none h hp z⟩
end
def boOf : BO → Operator
  | .add => .Add
  | .sub => .Sub
  | .mul => .Mult
  | .fdiv => .FloorDiv
  | .mod => .Mod
  | .pow => .Pow
  | .shl => .LShift
  | .shr => .RShift
  | .band => .BitAnd
  | .bor => .BitOr
theorem numOk_log {i : Int} (h : numOk i = true) : i.natAbs.log2 < 8001 := by
  have h : i.natAbs < 2 ^ 8000 := of_decide_eq_true h
  exact Nat.lt_of_le_of_lt (by
    by_cases z : i.natAbs = 0
    · rw [z]; exact Nat.zero_le 8000
    · exact Nat.le_of_lt ((Nat.log2_lt z).mpr h)) (Nat.lt_succ_self 8000)
section
variable {X : Cx}
theorem op_bopI (o : BO) : OpR X (binaryOp (boOf o)) (fun x y H Q => ∃ i j k, x = .int i ∧ y = .int j ∧ bopI o i j = some k ∧ Q (.int k) H) := by
  intro pins s σ H x y v u Q I rx ry h
  obtain ⟨i, j, k, ex, ey, e, q⟩ := h
  cases o with
  | add => cases e; exact op_add pins s σ H x y v u Q I rx ry ⟨i, j, ex, ey, q⟩
  | sub => cases e; exact op_sub pins s σ H x y v u Q I rx ry ⟨i, j, ex, ey, q⟩
  | mul =>
    simp only [bopI] at e
    split at e
    · rename_i c
      cases e
      simp only [Bool.and_eq_true] at c
      exact op_mulW pins s σ H x y v u Q I rx ry ⟨i, j, ex, ey, by have a := numOk_log c.1; have b := numOk_log c.2; show _ + _ < _; omega, q⟩
    · cases e
  | fdiv =>
    simp only [bopI] at e
    split at e
    · rename_i c
      cases e
      simp only [Bool.and_eq_true, decide_eq_true_eq] at c
      exact op_fdivW pins s σ H x y v u Q I rx ry ⟨i, j, ex, ey, ⟨c.1, by have b := numOk_log c.2; omega⟩, q⟩
    · cases e
  | mod =>
    simp only [bopI] at e
    split at e
    · rename_i c
      cases e
      simp only [decide_eq_true_eq] at c
      exact op_mod pins s σ H x y v u Q I rx ry ⟨i, j, ex, ey, c, q⟩
    · cases e
  | pow =>
    simp only [bopI] at e
    split at e
    · rename_i c
      cases e
      simp only [Bool.and_eq_true, decide_eq_true_eq] at c
      exact op_pow pins s σ H x y v u Q I rx ry ⟨i, j, ex, ey, ⟨c.1.1, by omega, c.2⟩, q⟩
    · cases e
  | shl =>
    simp only [bopI] at e
    split at e
    · rename_i c
      cases e
      simp only [Bool.and_eq_true, decide_eq_true_eq] at c
      exact op_shl pins s σ H x y v u Q I rx ry ⟨i, j, ex, ey, ⟨c.1.1, by omega, c.2⟩, q⟩
    · cases e
  | shr =>
    simp only [bopI] at e
    split at e
    · rename_i c
      cases e
      simp only [decide_eq_true_eq] at c
      exact op_shr pins s σ H x y v u Q I rx ry ⟨i, j, ex, ey, c, q⟩
    · cases e
  | band => cases e; exact op_and pins s σ H x y v u Q I rx ry ⟨i, j, ex, ey, q⟩
  | bor => cases e; exact op_or pins s σ H x y v u Q I rx ry ⟨i, j, ex, ey, q⟩
theorem szOk_line {n : Nat} (h : szOk n = true) : n ≤ sizeLine := by
  have h : n ≤ 1000000 := of_decide_eq_true h
  rw [sizeLine_eq]; omega
theorem cat_ll {φ : List Addr} {E : Excl} {pins : List (Addr × Obj)} {s : Shared} {σ : L2.St} {H : Hp} {x y : V} {v u : Value} {Q : VK} {xs ys : List T} (I : Inv X pins σ H s) (rx : RelV x v) (ry : RelV y u) (d : Dom φ E H)
    (hx : ∃ a vs, x = .ref a ∧ a ∉ φ ∧ H a = some (.lst vs) ∧ Reps X.K H φ E xs vs) (hy : ∃ a vs, y = .ref a ∧ a ∉ φ ∧ H a = some (.lst vs) ∧ Reps X.K H φ E ys vs)
    (c : szOk (xs.length + ys.length) = true) (q : ∀ v H', Nw H H' → ER X.K φ E true H H' (.own (xs ++ ys)) v → Q v H') : wpAny (model X.prog X.w) X.A (binaryOp .Add v u) (EP X pins σ Q) X.xe s := by
  obtain ⟨a, vs, ex, _, ha, ra⟩ := hx
  obtain ⟨b, ws, ey, _, hb, rb⟩ := hy
  exact op_cat pins s σ H x y v u Q I rx ry ⟨a, b, vs, ws, ex, ey, ha, hb, by rw [← ra.len, ← rb.len]; exact szOk_line c, fun p hp => fin_own d q hp (ra.append rb)⟩
theorem rep_l {φ : List Addr} {E : Excl} {pins : List (Addr × Obj)} {s : Shared} {σ : L2.St} {H : Hp} {x : V} {k : Int} {v u : Value} {Q : VK} {xs : List T} (I : Inv X pins σ H s) (rx : RelV x v) (ry : RelV (.int k) u) (d : Dom φ E H)
    (hx : ∃ a vs, x = .ref a ∧ a ∉ φ ∧ H a = some (.lst vs) ∧ Reps X.K H φ E xs vs)
    (c : repOk xs k = true) (q : ∀ v H', Nw H H' → ER X.K φ E true H H' (.own (rep xs k)) v → Q v H') : wpAny (model X.prog X.w) X.A (binaryOp .Mult v u) (EP X pins σ Q) X.xe s := by
  obtain ⟨a, vs, ex, _, ha, ra⟩ := hx
  simp only [repOk, Bool.and_eq_true, decide_eq_true_eq] at c
  exact op_rep pins s σ H x _ v u Q I rx ry ⟨a, k, vs, ex, rfl, ha, by omega, by omega, by rw [← ra.len]; exact szOk_line c.2, fun p hp => fin_own d q hp (ra.repl _)⟩
theorem rep_one (xs : List T) : rep xs 1 = xs := by simp [rep]
theorem rep_le {xs : List T} {k : Int} (h : k ≤ 0) : rep xs k = [] := by
  have : k.toNat = 0 := by omega
  simp [rep, this]
theorem rep_nil (k : Int) : rep [] k = [] := by simp [rep]
theorem op_bop (o : BO) : OpR X (binaryOp (boOf o)) (rT2 X.K (bop o)) := by
  intro pins s σ H x y v u Q I rx ry h
  obtain ⟨φ, E, tx, ty, r, d, lx, ly, e, q⟩ := h
  cases tx with
  | int i =>
    cases ty with
    | int j =>
      simp only [bop, Option.map_eq_some_iff] at e
      obtain ⟨k, e, rfl⟩ := e
      exact op_bopI o pins s σ H x y v u Q I rx ry ⟨i, j, k, lx.int, ly.int, e, fin_int q⟩
    | _ => cases e
  | tup xs =>
    cases ty with
    | tup ys =>
      cases o <;> first | (cases e; done) | skip
      simp only [bop] at e
      split at e
      · rename_i c
        cases e
        obtain ⟨a, vs, rfl, ha, ra⟩ := lx.tupS
        obtain ⟨b, ws, rfl, hb, rb⟩ := ly.tupS
        refine op_catA pins s σ H _ _ v u Q I rx ry ⟨a, b, vs, ws, rfl, rfl, SqT.of ha, SqT.of hb, by rw [← ra.len, ← rb.len]; exact szOk_line c, fun z => ?_, fun z z' => ?_, fun z z' p hp => fin_tup d q hp (ra.append rb)⟩
        · have : xs = [] := List.eq_nil_of_length_eq_zero (by rw [ra.len, z]; rfl)
          subst this
          exact fin0 q (by simp only [Rep]; exact ⟨b, ws, rfl, hb, rb⟩)
        · have : ys = [] := List.eq_nil_of_length_eq_zero (by rw [rb.len, z']; rfl)
          subst this
          rw [List.append_nil] at q
          exact fin0 q (by simp only [Rep]; exact ⟨a, vs, rfl, ha, ra⟩)
      · cases e
    | int k =>
      cases o <;> first | (cases e; done) | skip
      simp only [bop] at e
      split at e
      · rename_i c
        cases e
        obtain ⟨a, vs, rfl, ha, ra⟩ := lx.tupS
        obtain rfl := ly.int
        simp only [repOk, Bool.and_eq_true, decide_eq_true_eq] at c
        by_cases hz : vs = [] ∨ k = 1
        · refine op_repT1 pins s σ H _ _ v u Q I rx ry ⟨a, k, vs, rfl, rfl, SqT.of ha, ⟨by omega, by omega⟩, .inl ⟨hz, ?_⟩⟩
          have : rep xs k = xs := by
            rcases hz with z | z
            · have : xs = [] := List.eq_nil_of_length_eq_zero (by rw [ra.len, z]; rfl)
              subst this
              exact rep_nil k
            · subst z; exact rep_one xs
          rw [this] at q
          exact fin0 q (by simp only [Rep]; exact ⟨a, vs, rfl, ha, ra⟩)
        · have hz1 : vs ≠ [] := fun z => hz (.inl z)
          have hz2 : k ≠ 1 := fun z => hz (.inr z)
          by_cases h0 : k ≤ 0
          · refine op_repT1 pins s σ H _ _ v u Q I rx ry ⟨a, k, vs, rfl, rfl, SqT.of ha, ⟨by omega, by omega⟩, .inr ⟨hz1, h0, fun p hp => ?_⟩⟩
            rw [rep_le h0] at q
            exact fin_tup d q hp Reps.nil
          · exact op_repT pins s σ H _ _ v u Q I rx ry ⟨a, k, vs, rfl, rfl, SqT.of ha, hz1, by omega, c.1.2, by rw [← ra.len]; exact c.2, fun p hp => fin_tup d q hp (ra.repl _)⟩
      · cases e
    | _ => cases o <;> cases e
  | lst xs =>
    cases ty with
    | lst ys =>
      cases o <;> first | (cases e; done) | skip
      simp only [bop] at e
      split at e
      · rename_i c
        cases e
        exact cat_ll I rx ry d (lx.lst d) (ly.lst d) c q
      · cases e
    | own ys =>
      cases o <;> first | (cases e; done) | skip
      simp only [bop] at e
      split at e
      · rename_i c
        cases e
        exact cat_ll I rx ry d (lx.lst d) (ly.own d) c q
      · cases e
    | int k =>
      cases o <;> first | (cases e; done) | skip
      simp only [bop] at e
      split at e
      · rename_i c
        cases e
        obtain rfl := ly.int
        exact rep_l I rx ry d (lx.lst d) c q
      · cases e
    | _ => cases o <;> cases e
  | own xs =>
    cases ty with
    | lst ys =>
      cases o <;> first | (cases e; done) | skip
      simp only [bop] at e
      split at e
      · rename_i c
        cases e
        exact cat_ll I rx ry d (lx.own d) (ly.lst d) c q
      · cases e
    | own ys =>
      cases o <;> first | (cases e; done) | skip
      simp only [bop] at e
      split at e
      · rename_i c
        cases e
        exact cat_ll I rx ry d (lx.own d) (ly.own d) c q
      · cases e
    | int k =>
      cases o <;> first | (cases e; done) | skip
      simp only [bop] at e
      split at e
      · rename_i c
        cases e
        obtain rfl := ly.int
        exact rep_l I rx ry d (lx.own d) c q
      · cases e
    | _ => cases o <;> cases e
  | str w =>
    cases ty with
    | int k =>
      cases o <;> first | (cases e; done) | skip
      simp only [bop] at e
      split at e
      · rename_i c
        cases e
        simp only [Bool.and_eq_true, decide_eq_true_eq] at c
        obtain rfl := ly.int
        obtain rfl := lx.str
        obtain ⟨t, rfl⟩ := rx
        obtain ⟨t', rfl⟩ := ry
        exact SB.mul (PyProof.Rows.mulOk_of 16 1000 c.1.1 (by omega) (by omega) (by decide) (by decide)) fun t' k' => ⟨.str (Txt.mul w k), H, I.tok _, ⟨_, rfl⟩, fin0 q (by simp only [Rep])⟩
      · cases e
    | _ => cases o <;> cases e
  | _ => cases e
end
end Ip

set_option maxHeartbeats 2000000
/-! Ip3: comparisons, items, slices, built-ins by trees. -/
namespace Ip
open PySem PySem.Spec PyProof.Rows L2

section
variable {K : W.Frag} {φ : List Addr} {E : Excl} {H : Hp}
mutual
theorem Rep.dp : ∀ (t : T) (v : V) (d : PyData), Rep K H φ E t v → t.toD = some d → Dp K H v d
  | .non, v, d, h, e => by simp only [Rep] at h; simp only [T.toD, Option.some.injEq] at e; subst h e; exact .non
  | .bl b, v, d, h, e => by simp only [Rep] at h; simp only [T.toD, Option.some.injEq] at e; subst h e; exact .bl _
  | .int i, v, d, h, e => by simp only [Rep] at h; simp only [T.toD, Option.some.injEq] at e; subst h e; exact .int _
  | .str s, v, d, h, e => by simp only [Rep] at h; simp only [T.toD, Option.some.injEq] at e; subst h e; exact .str _
  | .tup xs, v, d, h, e => by
    simp only [Rep] at h
    simp only [T.toD, Option.map_eq_some_iff] at e
    obtain ⟨a, vs, rfl, s, r⟩ := h
    obtain ⟨ds, e, rfl⟩ := e
    exact .tup (SqT.of s) (Reps.dp xs vs ds r e)
  | .ctup xs, v, d, h, e => by
    simp only [Rep] at h
    simp only [T.toD, Option.map_eq_some_iff] at e
    obtain ⟨a, vs, rfl, s, r⟩ := h
    obtain ⟨ds, e, rfl⟩ := e
    exact .tup s (Reps.dp xs vs ds r e)
  | .lst xs, v, d, h, e => by
    simp only [Rep] at h
    simp only [T.toD, Option.map_eq_some_iff] at e
    obtain ⟨a, vs, rfl, _, s, r⟩ := h
    obtain ⟨ds, e, rfl⟩ := e
    exact .lst (SqL.of s) (Reps.dp xs vs ds r e)
  | .own xs, v, d, h, e => by simp only [Rep] at h
  | .frz _, v, d, h, e => by simp only [T.toD, reduceCtorEq] at e
  | .ref _, v, d, h, e => by simp only [T.toD, reduceCtorEq] at e
  | .fn _ _, v, d, h, e => by simp only [T.toD, reduceCtorEq] at e
  | .exv _ _, v, d, h, e => by simp only [T.toD, reduceCtorEq] at e
  | .dct _ _ _, v, d, h, e => by simp only [T.toD, reduceCtorEq] at e
  | .odct _ _ _, v, d, h, e => by simp only [T.toD, reduceCtorEq] at e
theorem Reps.dp : ∀ (ts : List T) (vs : List V) (ds : List PyData), Reps K H φ E ts vs → T.toDs ts = some ds → DpAll K H vs ds
  | [], vs, ds, h, e => by simp only [Reps] at h; simp only [T.toDs, Option.some.injEq] at e; subst h e; exact .nil
  | x :: xs, vs, ds, h, e => by
    simp only [Reps] at h
    obtain ⟨v, r, rfl, h1, h2⟩ := h
    simp only [T.toDs] at e
    split at e
    · rename_i d ds' e1 e2
      simp only [Option.some.injEq] at e
      subst e
      exact .cons (Rep.dp x v d h1 e1) (Reps.dp xs r ds' h2 e2)
    · cases e
end
theorem LR.dp {t : T} {v : V} {d : PyData} (D : Dom φ E H) (l : LR K φ E H t v) (e : t.toD = some d) : Dp K H v d := by
  obtain ⟨Hb, l'⟩ := id l
  cases l' with
  | rep r => exact Rep.dp _ _ _ r e
  | new n hb q r =>
    simp only [T.toD, Option.map_eq_some_iff] at e
    obtain ⟨ds, e, rfl⟩ := e
    exact .lst (SqL.of q) (Reps.dp _ _ _ (r.grow plus1_less (List.prefix_refl _) _ _) e)
  | look h1 h2 q r =>
    simp only [T.toD, Option.map_eq_some_iff] at e
    obtain ⟨ds, e, rfl⟩ := e
    exact .lst (SqL.of q) (Reps.dp _ _ _ r e)
  | newd => simp only [T.toD, reduceCtorEq] at e
  | lookd => simp only [T.toD, reduceCtorEq] at e
end

def coOf : CO → CmpOp
  | .lt => .Lt
  | .le => .LtE
  | .gt => .Gt
  | .ge => .GtE
  | .eq => .Eq
  | .ne => .NotEq
def bT (g : T → T → Option Bool) : T → T → Option T := fun x y => (g x y).map .bl
section
variable {X : Cx}
theorem op_eqT (hu : X.A.units + 64 < cLine) : OpR X (compareOp .Eq) (rT2 X.K (bT eqT)) := by
  intro pins s σ H x y v u Q I rx ry h
  obtain ⟨φ, E, tx, ty, r, d, lx, ly, e, q⟩ := h
  simp only [bT, Option.map_eq_some_iff] at e
  obtain ⟨b, e, rfl⟩ := e
  simp only [eqT] at e
  split at e
  · rename_i d1 d2 e1 e2
    split at e
    · rename_i c
      cases e
      simp only [Bool.and_eq_true] at c
      exact op_eqD hu pins s σ H x y v u Q I rx ry ⟨d1, d2, lx.dp d e1, ly.dp d e2, c.1, c.2, fin_bl q⟩
    · cases e
  · cases e
theorem op_neT (hu : X.A.units + 64 < cLine) : OpR X (compareOp .NotEq) (rT2 X.K (bT fun x y => (eqT x y).map (!·))) := by
  intro pins s σ H x y v u Q I rx ry h
  obtain ⟨φ, E, tx, ty, r, d, lx, ly, e, q⟩ := h
  simp only [bT, Option.map_eq_some_iff] at e
  obtain ⟨b, ⟨c, e, rfl⟩, rfl⟩ := e
  simp only [eqT] at e
  split at e
  · rename_i d1 d2 e1 e2
    split at e
    · rename_i c
      cases e
      simp only [Bool.and_eq_true] at c
      exact op_neD hu pins s σ H x y v u Q I rx ry ⟨d1, d2, lx.dp d e1, ly.dp d e2, c.1, c.2, fin_bl q⟩
    · cases e
  · cases e
theorem op_ltT' (hu : X.A.units + 64 < cLine) : OpR X (compareOp .Lt) (rT2 X.K (bT ltT)) := by
  intro pins s σ H x y v u Q I rx ry h
  obtain ⟨φ, E, tx, ty, r, d, lx, ly, e, q⟩ := h
  simp only [bT, Option.map_eq_some_iff] at e
  obtain ⟨b, e, rfl⟩ := e
  unfold ltT at e
  split at e
  · rename_i xs ys
    split at e
    · rename_i ds es e1 e2
      split at e
      · rename_i c
        cases e
        simp only [Bool.and_eq_true, decide_eq_true_eq] at c
        have t1 : (T.tup xs).toD = some (.tuple ds) := by simp only [T.toD, e1, Option.map_some]
        have t2 : (T.tup ys).toD = some (.tuple es) := by simp only [T.toD, e2, Option.map_some]
        obtain ⟨as, r1⟩ := Dp.reads I _ x v (lx.dp d t1) rx
        obtain ⟨bs, r2⟩ := Dp.reads I _ y u (ly.dp d t2) ry
        have R := W.rcLt_alike (.tuple ds) (.tuple es) X.A s v u as bs r1 r2 (by simp only [W.alike]; exact c.1.1) (by simp) (by have := Nat.min_le_left (PyData.tuple ds).depth (PyData.tuple es).depth; omega)
        exact R X.prog X.w X.xe (EP X pins σ Q) ⟨.bl _, H, I, rfl, fin_bl q⟩
      · cases e
    · cases e
  · cases e
theorem op_cop (hu : X.A.units + 64 < cLine) (o : CO) : OpR X (compareOp (coOf o)) (rT2 X.K (bT (cop o))) := by
  intro pins s σ H x y v u Q I rx ry h
  obtain ⟨φ, E, tx, ty, r, d, lx, ly, e, q⟩ := id h
  have other : (∀ i j, ¬ (tx = .int i ∧ ty = .int j)) → wpAny (model X.prog X.w) X.A (compareOp (coOf o) v u) (EP X pins σ Q) X.xe s := fun hn => by
    have e2 : bT (cop o) tx ty = (match o with | .eq => bT eqT tx ty | .ne => bT (fun x y => (eqT x y).map (!·)) tx ty | .lt => bT ltT tx ty | _ => none) := by
      unfold bT cop
      cases tx <;> cases ty <;> first | rfl | (exact absurd ⟨rfl, rfl⟩ (hn _ _)) | (cases o <;> rfl)
    rw [e2] at e
    cases o with
    | eq => exact op_eqT hu pins s σ H x y v u Q I rx ry ⟨φ, E, tx, ty, r, d, lx, ly, e, q⟩
    | ne => exact op_neT hu pins s σ H x y v u Q I rx ry ⟨φ, E, tx, ty, r, d, lx, ly, e, q⟩
    | lt => exact op_ltT' hu pins s σ H x y v u Q I rx ry ⟨φ, E, tx, ty, r, d, lx, ly, e, q⟩
    | _ => cases e
  cases tx with
  | int i =>
    cases ty with
    | int j =>
      simp only [bT, cop, Option.map_some, Option.some.injEq] at e
      subst e
      have ex := lx.int
      have ey := ly.int
      cases o with
      | lt => exact op_lt pins s σ H x y v u Q I rx ry ⟨i, j, ex, ey, fin_bl q⟩
      | le => exact op_le pins s σ H x y v u Q I rx ry ⟨i, j, ex, ey, fin_bl q⟩
      | gt => exact op_gt pins s σ H x y v u Q I rx ry ⟨i, j, ex, ey, fin_bl q⟩
      | ge => exact op_ge pins s σ H x y v u Q I rx ry ⟨i, j, ex, ey, fin_bl q⟩
      | eq =>
        subst ex ey
        refine op_eq pins s σ H _ _ v u Q I rx ry ⟨rfl, ?_⟩
        have : decide (V.int i = V.int j) = ltI .eq i j := by simp [ltI]
        rw [this]; exact fin_bl q
      | ne =>
        subst ex ey
        refine op_ne pins s σ H _ _ v u Q I rx ry ⟨rfl, ?_⟩
        have : (!decide (V.int i = V.int j)) = ltI .ne i j := by simp [ltI]
        rw [this]; exact fin_bl q
    | _ => exact other fun _ _ z => by cases z.2
  | _ => exact other fun _ _ z => by cases z.1
theorem reps_keys {K : W.Frag} {φ : List Addr} {E : Excl} {H : Hp} : ∀ {ts : List T} {vs : List V} {k : List L2.Key}, Reps K H φ E ts vs → keysT ts = some k → vs = k.map kV ∧ ts = k.map keyT
  | [], vs, k, r, e => by
    simp only [Reps] at r
    simp only [keysT, Option.some.injEq] at e
    subst r e
    exact ⟨rfl, rfl⟩
  | t :: ts, vs, k, r, e => by
    simp only [Reps] at r
    obtain ⟨v, ws, rfl, h1, h2⟩ := r
    cases t with
    | int i =>
      simp only [keysT, Option.map_eq_some_iff] at e
      obtain ⟨k', e, rfl⟩ := e
      obtain ⟨h3, h4⟩ := reps_keys h2 e
      simp only [Rep] at h1
      subst h1 h3 h4
      exact ⟨rfl, rfl⟩
    | str i =>
      simp only [keysT, Option.map_eq_some_iff] at e
      obtain ⟨k', e, rfl⟩ := e
      obtain ⟨h3, h4⟩ := reps_keys h2 e
      simp only [Rep] at h1
      subst h1 h3 h4
      exact ⟨rfl, rfl⟩
    | _ => simp only [keysT, reduceCtorEq] at e
theorem dval_reps {K : W.Frag} {φ : List Addr} {E : Excl} {H : Hp} {k : List L2.Key} {r : T} : ∀ {ks : List (List L2.Key)} {xs : List T} {vs : List V}, Reps K H φ E xs vs → dval ks xs k = some r → ∃ v, valV (ks.zip vs) k = some v ∧ Rep K H φ E r v
  | [], xs, vs, _, e => by simp only [dval, reduceCtorEq] at e
  | k' :: ks, [], vs, _, e => by simp only [dval, reduceCtorEq] at e
  | k' :: ks, x :: xs, vs, hr, e => by
    simp only [Reps] at hr
    obtain ⟨v, ws, rfl, h1, h2⟩ := hr
    simp only [dval] at e
    rw [List.zip_cons_cons]
    by_cases c : k' = k
    · rw [if_pos c, Option.some.injEq] at e
      subst e
      exact ⟨v, valV_pos (p := (k', v)) c, h1⟩
    · rw [if_neg c] at e
      obtain ⟨w, h3, h4⟩ := dval_reps h2 e
      exact ⟨w, by rw [valV_neg (p := (k', v)) c]; exact h3, h4⟩
theorem valK_eq {q : L2.Key} : ∀ {ks : List (List L2.Key)} {vs : List V}, (∀ k ∈ ks, ∃ q, k = [q]) → valV ((ks.map hdK).zip vs) q = valV (ks.zip vs) [q]
  | [], _, _ => rfl
  | _ :: _, [], _ => rfl
  | k :: ks, v :: vs, h => by
    obtain ⟨p, rfl⟩ := h k List.mem_cons_self
    have ih := valK_eq (q := q) (ks := ks) (vs := vs) fun z hz => h z (List.mem_cons_of_mem _ hz)
    rw [List.map_cons, List.zip_cons_cons, List.zip_cons_cons]
    by_cases c : p = q
    · rw [valV_pos (p := (hdK [p], v)) c, valV_pos (p := ([p], v)) (by show [p] = [q]; rw [c])]
    · rw [valV_neg (p := (hdK [p], v)) c, valV_neg (p := ([p], v)) (fun z => c (by injection z)), ih]
theorem any_zip {κ : Type} [DecidableEq κ] (k : κ) : ∀ {ks : List κ} {vs : List V}, ks.length = vs.length → (ks.any fun k' => decide (k' = k)) = (valV (ks.zip vs) k).isSome := fun {ks vs} h => by
  rw [← valV_any]
  induction ks generalizing vs with
  | nil => rfl
  | cons k' ks ih =>
    cases vs with
    | nil => cases h
    | cons v vs =>
      rw [List.zip_cons_cons, List.any_cons, List.any_cons, ih (by simpa using h)]
/-- a key, and what a dict holds there -/
theorem dget_of {K : W.Frag} {φ : List Addr} {E : Excl} {H : Hp} {a : Addr} {m : Bool} {ks : List (List L2.Key)} {xs : List T} {vs : List V} {t : T} {y : V} {key : List L2.Key} (ha : H a = some (dOb a (some m) ks vs)) (hl : DL (some m) ks xs) (ly : LR K φ E H t y) (hk : keyO (some m) t = some key) : DGet H a y (valV (ks.zip vs) key) := by
  cases m with
  | false =>
    cases t with
    | tup kt =>
      obtain ⟨b, ws, rfl, hb, rb⟩ := ly.tupS
      obtain ⟨hw, _⟩ := reps_keys rb hk
      subst hw
      exact DGet.t (k := key) ha hb
    | _ => cases hk
  | true =>
    have hs := hl.2.1 rfl
    cases t with
    | int i =>
      cases hk
      have g := DGet.k (k := .inl i) ha
      rw [valK_eq hs] at g
      rw [ly.int]
      exact g
    | str i =>
      cases hk
      have g := DGet.k (k := .inr i) ha
      rw [valK_eq hs] at g
      rw [ly.str]
      exact g
    | _ => cases hk
mutual
theorem nr_rep {K : W.Frag} {φ : List Addr} {E : Excl} {H : Hp} : ∀ (t : T) (k : NestedKey) (v : V), nkT t = some k → Rep K H φ E t v → NR H k v
  | .non, k, v, h, r => by
    simp only [nkT, Option.some.injEq] at h
    subst h
    simp only [Rep] at r
    simp only [NR]
    exact r
  | .bl b, k, v, h, r => by
    simp only [nkT, Option.some.injEq] at h
    subst h
    simp only [Rep] at r
    simp only [NR]
    exact .inr ⟨b, r, rfl⟩
  | .int i, k, v, h, r => by
    simp only [nkT, Option.some.injEq] at h
    subst h
    simp only [Rep] at r
    simp only [NR]
    exact .inl r
  | .tup xs, k, v, h, r => by
    simp only [nkT, Option.map_eq_some_iff] at h
    obtain ⟨ks, h, rfl⟩ := h
    simp only [Rep] at r
    obtain ⟨a, vs, rfl, ha, rr⟩ := r
    simp only [NR]
    exact ⟨a, vs, rfl, ha, nrs_rep xs ks vs h rr⟩
  | .str _, k, v, h, _ => by simp [nkT] at h
  | .lst _, k, v, h, _ => by simp [nkT] at h
  | .own _, k, v, h, _ => by simp [nkT] at h
  | .frz _, k, v, h, _ => by simp [nkT] at h
  | .ref _, k, v, h, _ => by simp [nkT] at h
  | .fn _ _, k, v, h, _ => by simp [nkT] at h
  | .ctup _, k, v, h, _ => by simp [nkT] at h
  | .exv _ _, k, v, h, _ => by simp [nkT] at h
  | .dct _ _ _, k, v, h, _ => by simp [nkT] at h
  | .odct _ _ _, k, v, h, _ => by simp [nkT] at h
theorem nrs_rep {K : W.Frag} {φ : List Addr} {E : Excl} {H : Hp} : ∀ (ts : List T) (ks : List NestedKey) (vs : List V), nksT ts = some ks → Reps K H φ E ts vs → NRs H ks vs
  | [], ks, vs, h, r => by
    simp only [nksT, Option.some.injEq] at h
    subst h
    simp only [Reps] at r
    simp only [NRs]
    exact r
  | t :: ts, ks, vs, h, r => by
    simp only [nksT] at h
    split at h
    · rename_i k js e1 e2
      cases h
      simp only [Reps] at r
      obtain ⟨v, ws, rfl, r1, r2⟩ := r
      simp only [NRs]
      exact ⟨v, ws, rfl, nr_rep t k v e1 r1, nrs_rep ts js ws e2 r2⟩
    · cases h
end
/-- the keys of a dict whose keys hold tuples -/
theorem nkeys {K : W.Frag} {φ : List Addr} {E : Excl} {H : Hp} : ∀ {ks : List (List L2.Key)} {xs : List T} {vs : List V}, ks.length = xs.length → DN ks xs → Reps K H φ E xs vs →
    NKs H ((ks.map decK).zip (vs.map refA)) ∧ (∀ k, nfree k = true → (((ks.map decK).zip (vs.map refA)).any fun x => decide (x.1 = k)) = ks.any fun k' => decide (k' = encK k)) ∧ ((ks.map decK).zip (vs.map refA)).length = ks.length ∧ vs = (vs.map refA).map V.ref
  | [], xs, vs, hl, _, r => by
    cases xs with
    | nil =>
      simp only [Reps] at r
      subst r
      exact ⟨fun x hx => (by cases hx), fun k _ => rfl, rfl, rfl⟩
    | cons x xs => cases hl
  | q :: ks, xs, vs, hl, hd, r => by
    cases xs with
    | nil => cases hl
    | cons x xs =>
      obtain ⟨⟨ts, n, rfl, hn, hdp, rfl⟩, hd⟩ := hd
      simp only [Reps] at r
      obtain ⟨v, ws, rfl, r1, r2⟩ := r
      obtain ⟨i1, i2, i3, i4⟩ := nkeys (by simpa using hl) hd r2
      have fr : nfree (.tup n) = true := by simp only [nfree]; exact nksT_free ts n hn
      have nr := nr_rep (.tup ts) (.tup n) v (by simp only [nkT, hn, Option.map_some]) r1
      have hv : ∃ b, v = .ref b := by
        simp only [NR] at nr
        obtain ⟨b, _, e, _⟩ := nr
        exact ⟨b, e⟩
      obtain ⟨b, rfl⟩ := hv
      have dk := decK_enc fr
      refine ⟨fun y hy => ?_, fun k hk => ?_, ?_, ?_⟩
      · rw [List.map_cons, List.map_cons, List.zip_cons_cons, dk] at hy
        rcases List.mem_cons.mp hy with rfl | hy
        · exact ⟨nr, hdp, fr⟩
        · exact i1 y hy
      · rw [List.map_cons, List.map_cons, List.zip_cons_cons, dk, List.any_cons, List.any_cons, i2 k hk]
        refine congrArg (· || _) (decide_eq_decide.mpr ?_)
        constructor
        · intro z
          have z : NestedKey.tup n = k := z
          rw [z]
        · intro z; exact encK_inj fr hk z
      · rw [List.map_cons, List.map_cons, List.zip_cons_cons, List.length_cons, i3, List.length_cons]
      · rw [List.map_cons, List.map_cons, ← i4]
        rfl
theorem nkey_of {K : W.Frag} {φ : List Addr} {E : Excl} {H : Hp} {kt : T} {y : V} {key : List L2.Key} (hk : keyO none kt = some key) (ly : LR K φ E H kt y) :
    ∃ ts n b, kt = .tup ts ∧ nksT ts = some n ∧ y = .ref b ∧ NR H (.tup n) (.ref b) ∧ (NestedKey.tup n).depth ≤ 8 ∧ nfree (.tup n) = true ∧ key = encK (.tup n) ∧ Rep K H φ E kt y := by
  cases kt with
  | tup ts =>
    simp only [keyO] at hk
    split at hk
    · rename_i n hn
      split at hk
      · rename_i hd
        cases hk
        obtain ⟨b, ws, rfl, hb, rb⟩ := ly.tupS
        have r : Rep K H φ E (.tup ts) (.ref b) := by
          simp only [Rep]
          exact ⟨b, ws, rfl, hb, rb⟩
        exact ⟨ts, n, b, rfl, hn, rfl, nr_rep (.tup ts) (.tup n) _ (by simp only [nkT, hn, Option.map_some]) r, of_decide_eq_true hd, by simp only [nfree]; exact nksT_free ts n hn, rfl, r⟩
      · cases hk
    · cases hk
  | _ => cases hk
theorem op_inT (hu : X.A.units + 65 < cLine) : OpR X (compareOp .In) (rT2 X.K (bT inT)) := by
  intro pins s σ H x y v u Q I rx ry h
  obtain ⟨φ, E, tx, ty, r, d, lx, ly, e, q⟩ := h
  simp only [bT, Option.map_eq_some_iff] at e
  obtain ⟨b, e, rfl⟩ := e
  unfold inT at e
  split at e
  · rename_i d1 ds e1 e2
    split at e
    · rename_i c
      cases e
      simp only [Bool.and_eq_true] at c
      exact op_inD hu pins s σ H x y v u Q I rx ry ⟨d1, ds, lx.dp d e1, ly.dp d e2, c.1, c.2, fin_bl q⟩
    · cases e
  · rename_i d1 ds e1 e2
    split at e
    · rename_i c
      cases e
      simp only [Bool.and_eq_true] at c
      obtain ⟨as, r1⟩ := Dp.reads I d1 x v (lx.dp d e1) rx
      obtain ⟨bs, r2⟩ := Dp.reads I (.tuple ds) y u (ly.dp d e2) ry
      exact SeqAt.in_tuple_reads r2 r1 (SeqAt.canLay_of_shaped c.2) (SeqAt.canLay_of_shaped c.1) (room_in_shaped c.1 hu) ⟨.bl _, H, I, rfl, fin_bl q⟩
    · cases e
  · unfold inD at e
    split at e
    · rename_i ks xs m _ _
      simp only [Option.map_eq_some_iff] at e
      obtain ⟨key, hk, rfl⟩ := e
      obtain ⟨a, vs, rfl, _, ha, hl, ra⟩ := ly.dct d
      obtain rfl : u = Value.ref a := ry
      cases m with
      | some m =>
        have g := dget_of ha hl lx hk
        rw [any_zip key (by rw [hl.1, ra.len])] at q
        exact d_in (by show X.A.units + 1 < cLine; omega) I g rx fun s' I' => ⟨.bl _, H, I', rfl, fin_bl q⟩
      | none =>
        obtain ⟨ts, n, b, rfl, hn, rfl, n1, n2, n3, rfl, _⟩ := nkey_of hk lx
        obtain ⟨k1, k2, _, _⟩ := nkeys hl.1 (hl.2.2 rfl) ra
        rw [← k2 _ n3] at q
        cases (show v = Value.ref b from rx)
        exact n_in (by omega) I ha k1 n1 n2 fun s' I' => ⟨.bl _, H, I', rfl, fin_bl q⟩
    · cases e
theorem op_ninT (hu : X.A.units + 65 < cLine) : OpR X (compareOp .NotIn) (rT2 X.K (bT fun x y => (inT x y).map (!·))) := by
  intro pins s σ H x y v u Q I rx ry h
  obtain ⟨φ, E, tx, ty, r, d, lx, ly, e, q⟩ := h
  simp only [bT, Option.map_eq_some_iff] at e
  obtain ⟨b, ⟨b', e, rfl⟩, rfl⟩ := e
  unfold inT at e
  split at e
  · rename_i d1 ds e1 e2
    split at e
    · rename_i c
      cases e
      simp only [Bool.and_eq_true] at c
      exact op_notInD hu pins s σ H x y v u Q I rx ry ⟨d1, ds, lx.dp d e1, ly.dp d e2, c.1, c.2, fin_bl q⟩
    · cases e
  · rename_i d1 ds e1 e2
    split at e
    · rename_i c
      cases e
      simp only [Bool.and_eq_true] at c
      obtain ⟨as, r1⟩ := Dp.reads I d1 x v (lx.dp d e1) rx
      obtain ⟨bs, r2⟩ := Dp.reads I (.tuple ds) y u (ly.dp d e2) ry
      exact SeqAt.notIn_tuple_reads r2 r1 (SeqAt.canLay_of_shaped c.2) (SeqAt.canLay_of_shaped c.1) (room_in_shaped c.1 hu) ⟨.bl _, H, I, rfl, fin_bl q⟩
    · cases e
  · unfold inD at e
    split at e
    · rename_i ks xs m _ _
      simp only [Option.map_eq_some_iff] at e
      obtain ⟨key, hk, rfl⟩ := e
      obtain ⟨a, vs, rfl, _, ha, hl, ra⟩ := ly.dct d
      obtain rfl : u = Value.ref a := ry
      cases m with
      | some m =>
        have g := dget_of ha hl lx hk
        rw [any_zip key (by rw [hl.1, ra.len])] at q
        exact d_notIn (by show X.A.units + 1 < cLine; omega) I g rx fun s' I' => ⟨.bl _, H, I', rfl, fin_bl q⟩
      | none =>
        obtain ⟨ts, n, b, rfl, hn, rfl, n1, n2, n3, rfl, _⟩ := nkey_of hk lx
        obtain ⟨k1, k2, _, _⟩ := nkeys hl.1 (hl.2.2 rfl) ra
        rw [← k2 _ n3] at q
        cases (show v = Value.ref b from rx)
        exact n_notIn (by omega) I ha k1 n1 n2 fun s' I' => ⟨.bl _, H, I', rfl, fin_bl q⟩
    · cases e

/-! ### items and slices -/
theorem LR.kp_ref {K : W.Frag} {φ : List Addr} {E : Excl} {H : Hp} {k : Nat} {v : V} (l : LR K φ E H (.ref k) v) : ∃ a, v = .ref a ∧ φ[k]? = some a := by
  obtain ⟨_, e⟩ := l
  cases e with
  | rep r => simp only [Rep] at r; exact r
theorem atI_reps {K : W.Frag} {φ : List Addr} {E : Excl} {H : Hp} {xs : List T} {vs : List V} {i : Int} {t : T} (r : Reps K H φ E xs vs) (e : L2.atI xs i = some t) : ∃ v, L2.atI vs i = some v ∧ Rep K H φ E t v := by
  unfold L2.atI at e ⊢
  rw [r.len] at e
  cases h : ixN vs.length i with
  | none => rw [h] at e; cases e
  | some j =>
    rw [h] at e
    obtain ⟨v, h1, h2⟩ := r.get (show xs[j]? = some t from e)
    exact ⟨v, h1, h2⟩
theorem atI_map {ns : List Int} {i n : Int} (e : L2.atI ns i = some n) : L2.atI (ns.map V.int) i = some (.int n) := by
  unfold L2.atI at e ⊢
  rw [List.length_map]
  cases h : ixN ns.length i with
  | none => rw [h] at e; cases e
  | some j =>
    rw [h] at e
    show (ns.map V.int)[j]? = _
    rw [List.getElem?_map, show ns[j]? = some n from e]
    rfl
/-- x[i], x through the store -/
def rSub (K : W.Frag) : R2 := fun x y H Q => ∃ φ E S tx ty r, StR K φ E H S ∧ LR K φ E H tx x ∧ LR K φ E H ty y ∧ sub (deref S tx) ty = some r ∧ ∀ v, Rep K H φ E r v → Q v H
theorem ix_T (hu : X.A.units + 64 < cLine) : IxR X (rSub X.K) := by
  intro value slice pins s σ H x y v u Q I rx ry h hs
  obtain ⟨φ, E, S, tx, ty, r, st, lx, ly, e, q⟩ := h
  have d := st.toDom
  have lstc : ∀ (xs : List T) (a : Addr) (vs : List V), x = .ref a → H a = some (.lst vs) → Reps X.K H φ E xs vs → sub (.lst xs) ty = some r → wpAny (model X.prog X.w) X.A (subscriptTail value slice v u) (EP X pins σ Q) X.xe s := fun xs a vs ex ha ra e => by
    cases ty with
    | int i =>
      obtain ⟨w, h1, h2⟩ := atI_reps ra (show L2.atI xs i = some r from e)
      exact ix_list value slice pins s σ H x y v u Q I rx ry ⟨a, vs, i, w, ex, ly.int, SqL.of ha, h1, q w h2⟩ hs
    | _ => cases e
  cases tx with
  | tup xs =>
    obtain ⟨a, vs, ex, ha, ra⟩ := lx.tup
    cases ty with
    | int i =>
      obtain ⟨w, h1, h2⟩ := atI_reps ra (show L2.atI xs i = some r from e)
      exact ix_tup value slice pins s σ H x y v u Q I rx ry ⟨a, vs, i, w, ex, ly.int, ha, h1, q w h2⟩ hs
    | _ => cases e
  | lst xs =>
    obtain ⟨a, vs, ex, _, ha, ra⟩ := lx.lst d
    exact lstc xs a vs ex ha ra e
  | own xs =>
    obtain ⟨a, vs, ex, _, ha, ra⟩ := lx.own d
    exact lstc xs a vs ex ha ra (by cases ty <;> exact e)
  | frz ns =>
    obtain ⟨a, ex, ha⟩ := lx.frz
    cases ty with
    | int i =>
      have e : (L2.atI ns i).map T.int = some r := e
      simp only [Option.map_eq_some_iff] at e
      obtain ⟨n, e1, rfl⟩ := e
      exact ix_list value slice pins s σ H x y v u Q I rx ry ⟨a, _, i, .int n, ex, ly.int, frzL_sq ha, atI_map e1, q _ (by simp only [Rep])⟩ hs
    | _ => cases e
  | ref k =>
    obtain ⟨a, ex, ha⟩ := lx.kp_ref
    simp only [deref] at e
    split at e
    · rename_i t ht
      obtain ⟨b, hb, ob⟩ := st.obj k t ht
      rw [ha] at hb; cases hb
      cases t with
      | own xs =>
        simp only [ObjR] at ob
        obtain ⟨vs, hq, rq⟩ := ob
        exact lstc xs a vs ex hq rq (by cases ty <;> exact e)
      | _ => simp only [ObjR] at ob
    · cases e
  | dct ks xs m =>
    cases m with
    | none => cases ty <;> cases e
    | some m =>
      obtain ⟨a, vs, rfl, _, ha, hl, ra⟩ := lx.dct d
      have e : (match keyO (some m) ty with | some k => dval ks xs k | none => none) = some r := e
      cases hk : keyO (some m) ty with
      | none => rw [hk] at e; cases e
      | some k =>
        rw [hk] at e
        obtain ⟨w, hv, hr⟩ := dval_reps ra e
        have g := dget_of ha hl ly hk
        rw [hv] at g
        obtain rfl : v = Value.ref a := rx
        exact tail_any (dict_typeIs I g) slot_dict_getitem.lookup (d_getItem (by show X.A.units + 1 < cLine; omega) I g ry fun w' s' I' rw' => ⟨w, H, I', rw', q w hr⟩) hs
  | _ => first | (cases e; done) | (cases ty <;> cases e)
theorem cut_reps {K : W.Frag} {φ : List Addr} {E : Excl} {H : Hp} {xs : List T} {vs : List V} {lo hi : Option Int} (r : Reps K H φ E xs vs) : Reps K H φ E (cut xs lo hi) (cutV vs lo hi) := by
  unfold cut cutV
  rw [r.len]
  exact (r.drop _).take _
theorem cut_whole {xs : List T} {lo hi : Option Int} (h : HT.sIx xs.length 0 lo = 0 ∧ HT.sIx xs.length xs.length hi = xs.length) : cut xs lo hi = xs := by
  unfold cut
  rw [h.1, h.2]
  simp
def rSlT' (K : W.Frag) : V → Option Int → Option Int → Hp → VK → Prop := fun x lo hi H Q => ∃ φ E tx r, Dom φ E H ∧ LR K φ E H tx x ∧ slice tx lo hi = some r ∧ ∀ v H', Nw H H' → ER K φ E true H H' r v → Q v H'
theorem sl_T : SlR X (rSlT' X.K) := by
  intro pins s σ H x v vl vu lo hi sl Q I rx hs pl pu h
  obtain ⟨φ, E, tx, r, d, lx, e, q⟩ := h
  cases tx with
  | tup xs =>
    obtain ⟨a, vs, ex, ha, ra⟩ := lx.tupS
    cases e
    refine sl_tupA pins s σ H x v vl vu lo hi sl Q I rx hs pl pu ⟨a, vs, ex, SqT.of ha, fun hw => ?_, fun hw p hp => fin_tup d q hp (cut_reps ra)⟩
    rw [← ra.len] at hw
    rw [cut_whole hw] at q
    exact fin0 q (by simp only [Rep]; exact ⟨a, vs, rfl, ha, ra⟩)
  | lst xs =>
    obtain ⟨a, vs, ex, _, ha, ra⟩ := lx.lst d
    cases e
    exact sl_list pins s σ H x v vl vu lo hi sl Q I rx hs pl pu ⟨a, vs, ex, SqL.of ha, fun p hp => fin_own d q hp (cut_reps ra)⟩
  | own xs =>
    obtain ⟨a, vs, ex, _, ha, ra⟩ := lx.own d
    cases e
    exact sl_list pins s σ H x v vl vu lo hi sl Q I rx hs pl pu ⟨a, vs, ex, SqL.of ha, fun p hp => fin_own d q hp (cut_reps ra)⟩
  | _ => cases e

/-! ### built-ins -/
def LRs (K : W.Frag) (φ : List Addr) (E : Excl) (H : Hp) : List T → List V → Prop
  | [], vs => vs = []
  | t :: ts, vs => ∃ v r, vs = v :: r ∧ LR K φ E H t v ∧ LRs K φ E H ts r
/-- a built-in by a function of its arguments, through the store -/
def rPr (K : W.Frag) (p : PR) : List V → Hp → VK → Prop := fun vs H Q => ∃ φ E S ts r, StR K φ E H S ∧ LRs K φ E H ts vs ∧ prim p (ts.map (deref S)) = some r ∧ ∀ v H', Nw H H' → ER K φ E true H H' r v → Q v H'
/-- what stands behind one argument -/
theorem one_look {K : W.Frag} {φ : List Addr} {E : Excl} {H : Hp} {S : Store} {t : T} {v : V} (st : StR K φ E H S) (l : LR K φ E H t v) : ∃ t', deref S t = t' ∧
    ((LR K φ E H t' v ∧ ∀ k, t' ≠ .ref k) ∨ (∃ xs a vs, t' = .own xs ∧ v = .ref a ∧ H a = some (.lst vs) ∧ Reps K H φ E xs vs) ∨ ∃ k, t' = .ref k) := by
  cases t with
  | ref k =>
    simp only [deref]
    split
    · rename_i t ht
      obtain ⟨a, ex, ha⟩ := l.kp_ref
      obtain ⟨b, hb, ob⟩ := st.obj k t ht
      rw [ha] at hb; cases hb
      cases t with
      | own xs =>
        simp only [ObjR] at ob
        obtain ⟨vs, hq, rq⟩ := ob
        exact ⟨_, rfl, .inr (.inl ⟨xs, a, vs, rfl, ex, hq, rq⟩)⟩
      | _ => simp only [ObjR] at ob
    · exact ⟨_, rfl, .inr (.inr ⟨k, rfl⟩)⟩
  | _ => exact ⟨_, rfl, .inl ⟨l, fun k z => (by cases z)⟩⟩
/-- a list or a tuple, through the store -/
theorem seq_look {K : W.Frag} {φ : List Addr} {E : Excl} {H : Hp} {S : Store} {t : T} {v : V} (st : StR K φ E H S) (l : LR K φ E H t v) :
    (∀ xs, deref S t = .tup xs → ∃ a vs, v = .ref a ∧ SqT K H a vs ∧ Reps K H φ E xs vs) ∧ (∀ xs, (deref S t = .lst xs ∨ deref S t = .own xs) → ∃ a vs, v = .ref a ∧ H a = some (.lst vs) ∧ Reps K H φ E xs vs) ∧
    (∀ ns, deref S t = .frz ns → ∃ a, v = .ref a ∧ FrzL K H a (ns.map V.int)) := by
  have d := st.toDom
  obtain ⟨t', e, h⟩ := one_look st l
  rw [e]
  rcases h with ⟨l', n⟩ | ⟨xs, a, vs, rfl, ev, ha, ra⟩ | ⟨k, rfl⟩
  · refine ⟨fun xs z => ?_, fun xs z => ?_, fun ns z => ?_⟩
    · subst z; exact l'.tup
    · rcases z with z | z
      · subst z
        obtain ⟨a, vs, h1, _, h2, h3⟩ := l'.lst d
        exact ⟨a, vs, h1, h2, h3⟩
      · subst z
        obtain ⟨a, vs, h1, _, h2, h3⟩ := l'.own d
        exact ⟨a, vs, h1, h2, h3⟩
    · subst z; exact l'.frz
  · refine ⟨fun xs z => (by cases z), fun ys z => ?_, fun ns z => (by cases z)⟩
    rcases z with z | z
    · cases z
    · cases z; exact ⟨a, vs, ev, ha, ra⟩
  · refine ⟨fun xs z => (by cases z), fun ys z => ?_, fun ns z => (by cases z)⟩
    rcases z with z | z <;> cases z
theorem tup_look {K : W.Frag} {φ : List Addr} {E : Excl} {H : Hp} {S : Store} {t : T} {v : V} (st : StR K φ E H S) (l : LR K φ E H t v) {xs : List T} (e : deref S t = .tup xs) : ∃ a vs, v = .ref a ∧ H a = some (.tup vs) ∧ Reps K H φ E xs vs := by
  obtain ⟨t2, e2, h⟩ := one_look st l
  rw [e] at e2
  subst e2
  rcases h with ⟨l', _⟩ | ⟨_, _, _, z, _⟩ | ⟨_, z⟩
  · exact l'.tupS
  · cases z
  · cases z
theorem int_look {K : W.Frag} {φ : List Addr} {E : Excl} {H : Hp} {S : Store} {t : T} {v : V} {i : Int} (st : StR K φ E H S) (l : LR K φ E H t v) (e : deref S t = .int i) : v = .int i := by
  obtain ⟨t', e', h⟩ := one_look st l
  rw [e'] at e
  subst e
  rcases h with ⟨l', n⟩ | ⟨xs, a, vs, z, _⟩ | ⟨k, z⟩
  · exact l'.int
  · cases z
  · cases z
theorem lrs1 {K : W.Frag} {φ : List Addr} {E : Excl} {H : Hp} {t : T} {vs : List V} (h : LRs K φ E H [t] vs) : ∃ v, vs = [v] ∧ LR K φ E H t v := by
  simp only [LRs] at h
  obtain ⟨v, r, e, l, h⟩ := h
  exact ⟨v, by rw [e, h], l⟩
theorem lrs2 {K : W.Frag} {φ : List Addr} {E : Excl} {H : Hp} {t t' : T} {vs : List V} (h : LRs K φ E H [t, t'] vs) : ∃ v v', vs = [v, v'] ∧ LR K φ E H t v ∧ LR K φ E H t' v' := by
  simp only [LRs] at h
  obtain ⟨v, r, e, l, v', r', e', l', h⟩ := h
  exact ⟨v, v', by rw [e, e', h], l, l'⟩
theorem prim_one {p : PR} {ts : List T} {S : Store} {r : T} (h : prim p (ts.map (deref S)) = some r) (h1 : p ≠ .min2) (h2 : p ≠ .max2) : ∃ t, ts = [t] := by
  cases ts with
  | nil => simp [prim] at h
  | cons a ts =>
    cases ts with
    | nil => exact ⟨a, rfl⟩
    | cons b ts =>
      cases ts with
      | nil =>
        simp only [List.map_cons, List.map_nil] at h
        cases p <;> simp [prim] at h h1 h2
      | cons c ts => simp [prim] at h
theorem cb_len : CallR X (.builtin "len") (rPr X.K .len) := by
  intro pins s σ H vs us Q I r h
  obtain ⟨φ, E, S, ts, t', st, l, e, q⟩ := h
  obtain ⟨t, rfl⟩ := prim_one e (by simp) (by simp)
  obtain ⟨v, rfl, l1⟩ := lrs1 l
  replace l := l1
  obtain ⟨k1, k2, k3⟩ := seq_look st l
  simp only [List.map_cons, List.map_nil, prim] at e
  split at e
  · rename_i xs ex
    cases e
    obtain ⟨a, ws, rfl, ha, ra⟩ := k1 xs ex
    refine call_len_seq pins s σ H _ us Q I r ⟨a, ws, rfl, .inr ha, ?_⟩
    rw [← ra.len]; exact fin_int q
  · rename_i xs ex
    cases e
    obtain ⟨a, ws, rfl, ha, ra⟩ := k2 xs (.inl ex)
    refine call_len_seq pins s σ H _ us Q I r ⟨a, ws, rfl, .inl (SqL.of ha), ?_⟩
    rw [← ra.len]; exact fin_int q
  · rename_i xs ex
    cases e
    obtain ⟨a, ws, rfl, ha, ra⟩ := k2 xs (.inr ex)
    refine call_len_seq pins s σ H _ us Q I r ⟨a, ws, rfl, .inl (SqL.of ha), ?_⟩
    rw [← ra.len]; exact fin_int q
  · rename_i xs ex
    cases e
    obtain ⟨a, rfl, ha⟩ := k3 xs ex
    refine call_len_seq pins s σ H _ us Q I r ⟨a, _, rfl, .inl (frzL_sq ha), ?_⟩
    rw [List.length_map]; exact fin_int q
  · rename_i ks xs ex
    cases e
    have hdt : ∃ a vs, v = .ref a ∧ H a = some (dOb a (some true) ks vs) ∧ DL (some true) ks xs ∧ Reps X.K H φ E xs vs := by
      obtain ⟨t2, e2, h⟩ := one_look st l
      rw [ex] at e2
      subst e2
      rcases h with ⟨l', _⟩ | ⟨_, _, _, z, _⟩ | ⟨_, z⟩
      · obtain ⟨a, vs, h1, _, h2, h3, h4⟩ := l'.dct st.toDom
        exact ⟨a, vs, h1, h2, h3, h4⟩
      · cases z
      · cases z
    obtain ⟨a, vs, rfl, ha, hl, ra⟩ := hdt
    rw [Vals.ref1 r]
    have e1 : ((ks.map hdK).zip vs).length = ks.length := by rw [List.length_zip, List.length_map, ← ra.len, ← hl.1, Nat.min_self]
    rw [← e1] at q
    exact d_len I (.inl ha) fun t s' I' => ⟨.int _, H, I', ⟨t, rfl⟩, fin_int q⟩
  · rename_i ks xs ex
    cases e
    have hdt : ∃ a vs, v = .ref a ∧ H a = some (dOb a (some false) ks vs) ∧ DL (some false) ks xs ∧ Reps X.K H φ E xs vs := by
      obtain ⟨t2, e2, h⟩ := one_look st l
      rw [ex] at e2
      subst e2
      rcases h with ⟨l', _⟩ | ⟨_, _, _, z, _⟩ | ⟨_, z⟩
      · obtain ⟨a, vs, h1, _, h2, h3, h4⟩ := l'.dct st.toDom
        exact ⟨a, vs, h1, h2, h3, h4⟩
      · cases z
      · cases z
    obtain ⟨a, vs, rfl, ha, hl, ra⟩ := hdt
    have e1 : (ks.zip vs).length = ks.length := by rw [List.length_zip, ← ra.len, ← hl.1, Nat.min_self]
    refine call_len_dT pins s σ H _ us Q I r ⟨a, ks.zip vs, rfl, ha, ?_⟩
    rw [e1]
    exact fin_int q
  · rename_i ks xs ex
    cases e
    have hdt : ∃ a vs, v = .ref a ∧ H a = some (dOb a none ks vs) ∧ DL none ks xs ∧ Reps X.K H φ E xs vs := by
      obtain ⟨t2, e2, h⟩ := one_look st l
      rw [ex] at e2
      subst e2
      rcases h with ⟨l', _⟩ | ⟨_, _, _, z, _⟩ | ⟨_, z⟩
      · obtain ⟨a, vs, h1, _, h2, h3, h4⟩ := l'.dct st.toDom
        exact ⟨a, vs, h1, h2, h3, h4⟩
      · cases z
      · cases z
    obtain ⟨a, vs, rfl, ha, hl, ra⟩ := hdt
    obtain ⟨k1, _, k3, _⟩ := nkeys hl.1 (hl.2.2 rfl) ra
    rw [Vals.ref1 r]
    obtain ⟨x1, x2, dd⟩ := n_dict I ha k1
    refine call_len_dictH x1 dd (by rw [List.length_map]; rw [sizeLine_eq] at x2; omega) ?_
    rw [List.length_map, k3]
    exact ⟨.int _, H, I.tok _, ⟨_, rfl⟩, fin_int q⟩
  · cases e

/-! sums, least and greatest of lists and tuples -/
theorem iter_intTup {prog : Program} {w : World} {A : Around} {E : Value → Shared → Prop} {s : Shared} {l : Addr} {xs : Array (Int × Tok)} {Q : Value → Shared → Prop} (hl : s.heap.IsTuple l (intItems xs))
    (h : ∀ s₂ : Shared, s₂ = { s with heap := s.heap.push { cls := .type "tuple_iterator", data := .fields #[.ref l, .int 0 0] } } →
      (s₂.heap.IsTupleIter s.heap.objs.size l 0 ∧ s₂.heap.IsTuple l (intItems xs)) → (∀ b ∈ [s.heap.objs.size, l], b < s₂.heap.objs.size) → l ≠ s.heap.objs.size → Q (.ref s.heap.objs.size) s₂) :
    wpAny (model prog w) A (pyIter (.ref l)) Q E s := by
  have hlt : l < s.heap.objs.size := by obtain ⟨_, e, _⟩ := hl; exact Heap.lt_size e
  refine wpAny_pyIter_tuple hl (h _ rfl ⟨⟨_, Heap.get?_push_size _ rfl, rfl, rfl⟩, hl.push _⟩ (fun b hb => ?_) (Nat.ne_of_lt hlt))
  show b < (s.heap.push _).objs.size
  rw [Heap.size_push]
  rcases List.mem_cons.mp hb with rfl | hb
  · exact Nat.lt_succ_self _
  · rcases List.mem_cons.mp hb with rfl | hb
    · exact Nat.lt_succ_of_lt hlt
    · cases hb
theorem old_keptT {s : Shared} {l : Addr} {h' : Heap} (hk : ∀ b o, b ∉ [s.heap.objs.size] → (s.heap.push { cls := .type "tuple_iterator", data := .fields #[.ref l, .int 0 0] }).get? b = some o → h'.get? b = some o) :
    ∀ b o, s.heap.get? b = some o → h'.get? b = some o := fun b o e => by
  refine hk b o (fun hm => ?_) (Heap.get?_push_of_some _ e)
  rcases List.mem_cons.mp hm with e1 | hm
  · exact absurd (e1 ▸ Heap.lt_size e) (Nat.lt_irrefl _)
  · cases hm
section
variable {prog : Program} {w : World} {A : Around} {E : Value → Shared → Prop} {s : Shared} {l : Addr} {its : List Value} {ns : List Int} {Q : Value → Shared → Prop}
theorem sum_rawT (hh : A.handled = none) (hl : s.heap.IsTuple l its.toArray) (hi : IntsAre its ns)
    (h : ∀ h' tk t', (∀ b o, s.heap.get? b = some o → h'.get? b = some o) → Q (.int ns.sum t') { s with heap := h', toks := tk }) : wpAny (model prog w) A (call (.builtin "sum") [.ref l]) Q E s := by
  obtain ⟨xs, e⟩ := hi.allInts.items
  have hn : numsOf (intItems xs).toList = ns := by rw [← e]; exact hi.numsOf
  rw [nums_intItems] at hn
  rw [e] at hl
  refine call_sum_walkG (iter_intTup hl fun s₂ e st hfp hlI => ?_)
  subst e
  refine ⟨_, _, _, _, _, _, numAt xs, rfl, Walks.tuple (A := A.in1) hh _ l hlI (intItems xs), st, hfp, (fun _ _ => intItems_at), fun h' tk t' hk => ?_⟩
  have := h h' tk t' (old_keptT hk)
  have e2 : preSum (numAt xs) (intItems xs).size = ns.sum := by
    rw [show (intItems xs).size = xs.size by simp [intItems], preSum_eq, List.take_of_length_le (by simp), hn]
  rw [e2]; exact this
theorem max_rawT (hh : A.handled = none) (hl : s.heap.IsTuple l its.toArray) (hi : IntsAre its ns) (hne : 0 < ns.length)
    (h : ∀ h' tk M t', (∀ b o, s.heap.get? b = some o → h'.get? b = some o) → M ∈ ns → (∀ a, a ∈ ns → a ≤ M) → Q (.int M t') { s with heap := h', toks := tk }) : wpAny (model prog w) A (call (.builtin "max") [.ref l]) Q E s := by
  obtain ⟨xs, e⟩ := hi.allInts.items
  have hn : numsOf (intItems xs).toList = ns := by rw [← e]; exact hi.numsOf
  rw [nums_intItems] at hn
  subst hn
  rw [e] at hl
  have hsz : 0 < xs.size := by simpa using hne
  refine call_max_walk (iter_intTup hl fun s₂ e st hfp hlI => ?_)
  subst e
  refine ⟨_, _, _, _, _, _, _, rfl, Walks.tuple (A := A.in1) hh _ l hlI (intItems xs), st, hfp, by simpa [intItems] using hsz, CmpOf.ints_gt (numAt xs) (fun _ _ => intItems_at), fun v h' tk hv hk => ?_⟩
  obtain ⟨t, rfl⟩ := intItems_at hv
  have esz : (intItems xs).size = xs.size := by simp [intItems]
  rw [esz] at hv ⊢
  obtain ⟨h1, h2⟩ := argBest_gt (numAt xs) (xs.size - 1)
  refine h h' tk _ t (old_keptT hk) ?_ fun a ha => ?_
  · rw [numAt_eq]; exact PySem.getD_mem (by rw [List.length_map, Array.length_toList]; omega)
  · obtain ⟨j, hj, rfl⟩ := mem_getD ha
    rw [List.length_map, Array.length_toList] at hj
    rw [← numAt_eq]; exact h2 j (by omega)
theorem min_rawT (hh : A.handled = none) (hl : s.heap.IsTuple l its.toArray) (hi : IntsAre its ns) (hne : 0 < ns.length)
    (h : ∀ h' tk M t', (∀ b o, s.heap.get? b = some o → h'.get? b = some o) → M ∈ ns → (∀ a, a ∈ ns → M ≤ a) → Q (.int M t') { s with heap := h', toks := tk }) : wpAny (model prog w) A (call (.builtin "min") [.ref l]) Q E s := by
  obtain ⟨xs, e⟩ := hi.allInts.items
  have hn : numsOf (intItems xs).toList = ns := by rw [← e]; exact hi.numsOf
  rw [nums_intItems] at hn
  subst hn
  rw [e] at hl
  have hsz : 0 < xs.size := by simpa using hne
  refine call_min_walk (iter_intTup hl fun s₂ e st hfp hlI => ?_)
  subst e
  refine ⟨_, _, _, _, _, _, _, rfl, Walks.tuple (A := A.in1) hh _ l hlI (intItems xs), st, hfp, by simpa [intItems] using hsz, CmpOf.ints_lt (numAt xs) (fun _ _ => intItems_at), fun v h' tk hv hk => ?_⟩
  obtain ⟨t, rfl⟩ := intItems_at hv
  have esz : (intItems xs).size = xs.size := by simp [intItems]
  rw [esz] at hv ⊢
  obtain ⟨h1, h2⟩ := argBest_lt (numAt xs) (xs.size - 1)
  refine h h' tk _ t (old_keptT hk) ?_ fun a ha => ?_
  · rw [numAt_eq]; exact PySem.getD_mem (by rw [List.length_map, Array.length_toList]; omega)
  · obtain ⟨j, hj, rfl⟩ := mem_getD ha
    rw [List.length_map, Array.length_toList] at hj
    rw [← numAt_eq]; exact h2 j (by omega)
end
/-- of a list or a tuple of ints -/
def SqI (K : W.Frag) (H : Hp) (a : Addr) (ns : List Int) : Prop := SqL K H a (ns.map V.int) ∨ SqT K H a (ns.map V.int)
theorem cr_sumA (hc : X.calm = true) : CallR X (.builtin "sum") (fun vs H Q => ∃ a ns, vs = [V.ref a] ∧ SqI X.K H a ns ∧ Q (.int ns.sum) H) := by
  intro pins s σ H vs us Q I r h
  obtain ⟨a, ns, rfl, hs | hs, q⟩ := h
  · exact cr_sum hc pins s σ H _ us Q I r ⟨a, ns, rfl, hs, q⟩
  · obtain ⟨its, rv, hl, _⟩ := I.tuple hs
    rw [Vals.ref1 r]
    exact sum_rawT (I.ok.hd hc) hl rv.ints fun h' tk t' hk => ⟨.int _, H, I.kept hk, ⟨_, rfl⟩, q⟩
theorem cr_maxA (hc : X.calm = true) : CallR X (.builtin "max") (fun vs H Q => ∃ a ns, vs = [V.ref a] ∧ SqI X.K H a ns ∧ 0 < ns.length ∧ ∀ m, m ∈ ns → (∀ y, y ∈ ns → y ≤ m) → Q (.int m) H) := by
  intro pins s σ H vs us Q I r h
  obtain ⟨a, ns, rfl, hs | hs, hne, q⟩ := h
  · exact cr_max hc pins s σ H _ us Q I r ⟨a, ns, rfl, hs, hne, q⟩
  · obtain ⟨its, rv, hl, _⟩ := I.tuple hs
    rw [Vals.ref1 r]
    exact max_rawT (I.ok.hd hc) hl rv.ints hne fun h' tk m t' hk h1 h2 => ⟨.int _, H, I.kept hk, ⟨_, rfl⟩, q m h1 h2⟩
theorem cr_minA (hc : X.calm = true) : CallR X (.builtin "min") (fun vs H Q => ∃ a ns, vs = [V.ref a] ∧ SqI X.K H a ns ∧ 0 < ns.length ∧ ∀ m, m ∈ ns → (∀ y, y ∈ ns → m ≤ y) → Q (.int m) H) := by
  intro pins s σ H vs us Q I r h
  obtain ⟨a, ns, rfl, hs | hs, hne, q⟩ := h
  · exact cr_min hc pins s σ H _ us Q I r ⟨a, ns, rfl, hs, hne, q⟩
  · obtain ⟨its, rv, hl, _⟩ := I.tuple hs
    rw [Vals.ref1 r]
    exact min_rawT (I.ok.hd hc) hl rv.ints hne fun h' tk m t' hk h1 h2 => ⟨.int _, H, I.kept hk, ⟨_, rfl⟩, q m h1 h2⟩
theorem minL_spec : ∀ (ns : List Int) (m : Int), (minL ns m = m ∨ minL ns m ∈ ns) ∧ minL ns m ≤ m ∧ ∀ y ∈ ns, minL ns m ≤ y
  | [], m => ⟨.inl rfl, Int.le_refl _, fun _ h => by cases h⟩
  | x :: xs, m => by
    obtain ⟨h1, h2, h3⟩ := minL_spec xs (if x < m then x else m)
    simp only [minL]
    by_cases c : x < m
    · rw [if_pos c] at h1 h2 h3 ⊢
      refine ⟨.inr ?_, by omega, fun y hy => ?_⟩
      · rcases h1 with h1 | h1
        · rw [h1]; exact List.mem_cons_self
        · exact List.mem_cons_of_mem _ h1
      · rcases List.mem_cons.mp hy with rfl | hy
        · exact h2
        · exact h3 y hy
    · rw [if_neg c] at h1 h2 h3 ⊢
      refine ⟨?_, h2, fun y hy => ?_⟩
      · rcases h1 with h1 | h1
        · exact .inl h1
        · exact .inr (List.mem_cons_of_mem _ h1)
      · rcases List.mem_cons.mp hy with rfl | hy
        · omega
        · exact h3 y hy
theorem maxL_spec : ∀ (ns : List Int) (m : Int), (maxL ns m = m ∨ maxL ns m ∈ ns) ∧ m ≤ maxL ns m ∧ ∀ y ∈ ns, y ≤ maxL ns m
  | [], m => ⟨.inl rfl, Int.le_refl _, fun _ h => by cases h⟩
  | x :: xs, m => by
    obtain ⟨h1, h2, h3⟩ := maxL_spec xs (if x > m then x else m)
    simp only [maxL]
    by_cases c : x > m
    · rw [if_pos c] at h1 h2 h3 ⊢
      refine ⟨.inr ?_, by omega, fun y hy => ?_⟩
      · rcases h1 with h1 | h1
        · rw [h1]; exact List.mem_cons_self
        · exact List.mem_cons_of_mem _ h1
      · rcases List.mem_cons.mp hy with rfl | hy
        · exact h2
        · exact h3 y hy
    · rw [if_neg c] at h1 h2 h3 ⊢
      refine ⟨?_, h2, fun y hy => ?_⟩
      · rcases h1 with h1 | h1
        · exact .inl h1
        · exact .inr (List.mem_cons_of_mem _ h1)
      · rcases List.mem_cons.mp hy with rfl | hy
        · omega
        · exact h3 y hy
theorem minL_uniq {n m : Int} {ns : List Int} (h1 : m ∈ n :: ns) (h2 : ∀ y ∈ n :: ns, m ≤ y) : m = minL ns n := by
  obtain ⟨a, b, c⟩ := minL_spec ns n
  have d1 : minL ns n ≤ m := by
    rcases List.mem_cons.mp h1 with rfl | h
    · exact b
    · exact c m h
  have d2 : m ≤ minL ns n := by
    rcases a with a | a
    · rw [a]; exact h2 n List.mem_cons_self
    · exact h2 _ (List.mem_cons_of_mem _ a)
  omega
theorem maxL_uniq {n m : Int} {ns : List Int} (h1 : m ∈ n :: ns) (h2 : ∀ y ∈ n :: ns, y ≤ m) : m = maxL ns n := by
  obtain ⟨a, b, c⟩ := maxL_spec ns n
  have d1 : m ≤ maxL ns n := by
    rcases List.mem_cons.mp h1 with rfl | h
    · exact b
    · exact c m h
  have d2 : maxL ns n ≤ m := by
    rcases a with a | a
    · rw [a]; exact h2 n List.mem_cons_self
    · exact h2 _ (List.mem_cons_of_mem _ a)
  omega
theorem sqI_of {K : W.Frag} {φ : List Addr} {E : Excl} {H : Hp} {S : Store} {t : T} {v : V} {xs : List T} {ns : List Int} (st : StR K φ E H S) (l : LR K φ E H t v)
    (h : deref S t = .tup xs ∨ deref S t = .lst xs ∨ deref S t = .own xs) (e : intsT xs = some ns) : ∃ a, v = .ref a ∧ SqI K H a ns := by
  obtain ⟨k1, k2, k3⟩ := seq_look st l
  rcases h with h | h | h
  · obtain ⟨a, ws, rfl, ha, ra⟩ := k1 xs h
    rw [ra.of_ints e] at ha
    exact ⟨a, rfl, .inr ha⟩
  · obtain ⟨a, ws, rfl, ha, ra⟩ := k2 xs (.inl h)
    rw [ra.of_ints e] at ha
    exact ⟨a, rfl, .inl (SqL.of ha)⟩
  · obtain ⟨a, ws, rfl, ha, ra⟩ := k2 xs (.inr h)
    rw [ra.of_ints e] at ha
    exact ⟨a, rfl, .inl (SqL.of ha)⟩
theorem cb_sum (hc : X.calm = true) : CallR X (.builtin "sum") (rPr X.K .sum) := by
  intro pins s σ H vs us Q I r h
  obtain ⟨φ, E, S, ts, t', st, l, e, q⟩ := h
  obtain ⟨t, rfl⟩ := prim_one e (by simp) (by simp)
  obtain ⟨v, rfl, l1⟩ := lrs1 l
  replace l := l1
  simp only [List.map_cons, List.map_nil, prim] at e
  have go : ∀ xs, (deref S t = .tup xs ∨ deref S t = .lst xs ∨ deref S t = .own xs) → Option.map (fun ns => T.int ns.sum) (intsT xs) = some t' → wpAny (model X.prog X.w) X.A (call (.builtin "sum") us) (EP X pins σ Q) X.xe s := fun xs hx e => by
    simp only [Option.map_eq_some_iff] at e
    obtain ⟨ns, e1, rfl⟩ := e
    obtain ⟨a, rfl, hs⟩ := sqI_of st l hx e1
    exact cr_sumA hc pins s σ H _ us Q I r ⟨a, ns, rfl, hs, fin_int q⟩
  split at e
  · rename_i xs ex; exact go xs (.inl ex) e
  · rename_i xs ex; exact go xs (.inr (.inl ex)) e
  · rename_i xs ex; exact go xs (.inr (.inr ex)) e
  · cases e
/-! data of trees -/
mutual
theorem T.plain_toD : ∀ t : T, t.plain = true → ∃ d, t.toD = some d
  | .non, _ => ⟨_, rfl⟩
  | .bl _, _ => ⟨_, rfl⟩
  | .int _, _ => ⟨_, rfl⟩
  | .str _, _ => ⟨_, rfl⟩
  | .tup xs, h => by
    obtain ⟨ds, e⟩ := T.plains_toDs xs (by simpa only [T.plain] using h)
    exact ⟨.tuple ds, by simp only [T.toD, e, Option.map_some]⟩
  | .lst _, h => by simp only [T.plain, Bool.false_eq_true] at h
  | .own _, h => by simp only [T.plain, Bool.false_eq_true] at h
  | .ctup _, h => by simp only [T.plain, Bool.false_eq_true] at h
  | .frz _, h => by simp only [T.plain, Bool.false_eq_true] at h
  | .ref _, h => by simp only [T.plain, Bool.false_eq_true] at h
  | .fn _ _, h => by simp only [T.plain, Bool.false_eq_true] at h
  | .exv _ _, h => by simp only [T.plain, Bool.false_eq_true] at h
  | .dct _ _ _, h => by simp only [T.plain, Bool.false_eq_true] at h
  | .odct _ _ _, h => by simp only [T.plain, Bool.false_eq_true] at h
theorem T.plains_toDs : ∀ ts : List T, T.plains ts = true → ∃ ds, T.toDs ts = some ds
  | [], _ => ⟨[], by simp only [T.toDs]⟩
  | t :: ts, h => by
    simp only [T.plains, Bool.and_eq_true] at h
    obtain ⟨d, e1⟩ := T.plain_toD t h.1
    obtain ⟨ds, e2⟩ := T.plains_toDs ts h.2
    exact ⟨d :: ds, by simp only [T.toDs, e1, e2]⟩
end
mutual
theorem T.toD_inj : ∀ (t u : T) (d : PyData), t.plain = true → u.plain = true → t.toD = some d → u.toD = some d → t = u
  | .non, u, d, _, hu, e, e' => by
    simp only [T.toD, Option.some.injEq] at e; subst e
    cases u with
    | non => rfl
    | tup ys => simp only [T.toD, Option.map_eq_some_iff] at e'; obtain ⟨_, _, z⟩ := e'; cases z
    | _ => first | (simp only [T.toD, Option.some.injEq, reduceCtorEq] at e'; done) | (simp only [T.plain, Bool.false_eq_true] at hu; done)
  | .bl b, u, d, _, hu, e, e' => by
    simp only [T.toD, Option.some.injEq] at e; subst e
    cases u with
    | bl c => simp only [T.toD, Option.some.injEq, PyData.bool.injEq] at e'; subst e'; rfl
    | tup ys => simp only [T.toD, Option.map_eq_some_iff] at e'; obtain ⟨_, _, z⟩ := e'; cases z
    | _ => first | (simp only [T.toD, Option.some.injEq, reduceCtorEq] at e'; done) | (simp only [T.plain, Bool.false_eq_true] at hu; done)
  | .int i, u, d, _, hu, e, e' => by
    simp only [T.toD, Option.some.injEq] at e; subst e
    cases u with
    | int c => simp only [T.toD, Option.some.injEq, PyData.int.injEq] at e'; subst e'; rfl
    | tup ys => simp only [T.toD, Option.map_eq_some_iff] at e'; obtain ⟨_, _, z⟩ := e'; cases z
    | _ => first | (simp only [T.toD, Option.some.injEq, reduceCtorEq] at e'; done) | (simp only [T.plain, Bool.false_eq_true] at hu; done)
  | .str x, u, d, _, hu, e, e' => by
    simp only [T.toD, Option.some.injEq] at e; subst e
    cases u with
    | str c => simp only [T.toD, Option.some.injEq, PyData.str.injEq] at e'; subst e'; rfl
    | tup ys => simp only [T.toD, Option.map_eq_some_iff] at e'; obtain ⟨_, _, z⟩ := e'; cases z
    | _ => first | (simp only [T.toD, Option.some.injEq, reduceCtorEq] at e'; done) | (simp only [T.plain, Bool.false_eq_true] at hu; done)
  | .tup xs, u, d, ht, hu, e, e' => by
    simp only [T.toD, Option.map_eq_some_iff] at e
    obtain ⟨ds, e, rfl⟩ := e
    cases u with
    | tup ys =>
      simp only [T.toD, Option.map_eq_some_iff] at e'
      obtain ⟨es, e', z⟩ := e'
      cases z
      rw [T.toDs_inj xs ys ds (by simpa only [T.plain] using ht) (by simpa only [T.plain] using hu) e e']
    | _ => first | (simp only [T.toD, Option.some.injEq, reduceCtorEq] at e'; done) | (simp only [T.plain, Bool.false_eq_true] at hu; done)
  | .lst _, _, _, h, _, _, _ => by simp only [T.plain, Bool.false_eq_true] at h
  | .own _, _, _, h, _, _, _ => by simp only [T.plain, Bool.false_eq_true] at h
  | .ctup _, _, _, h, _, _, _ => by simp only [T.plain, Bool.false_eq_true] at h
  | .frz _, _, _, h, _, _, _ => by simp only [T.plain, Bool.false_eq_true] at h
  | .ref _, _, _, h, _, _, _ => by simp only [T.plain, Bool.false_eq_true] at h
  | .fn _ _, _, _, h, _, _, _ => by simp only [T.plain, Bool.false_eq_true] at h
  | .exv _ _, _, _, h, _, _, _ => by simp only [T.plain, Bool.false_eq_true] at h
  | .dct _ _ _, _, _, h, _, _, _ => by simp only [T.plain, Bool.false_eq_true] at h
  | .odct _ _ _, _, _, h, _, _, _ => by simp only [T.plain, Bool.false_eq_true] at h
theorem T.toDs_inj : ∀ (ts us : List T) (ds : List PyData), T.plains ts = true → T.plains us = true → T.toDs ts = some ds → T.toDs us = some ds → ts = us
  | [], us, ds, _, _, e, e' => by
    simp only [T.toDs, Option.some.injEq] at e; subst e
    cases us with
    | nil => rfl
    | cons u us => simp only [T.toDs] at e'; split at e' <;> simp at e'
  | t :: ts, us, ds, h, hu, e, e' => by
    simp only [T.plains, Bool.and_eq_true] at h
    simp only [T.toDs] at e
    split at e
    · rename_i d es e1 e2
      cases e
      cases us with
      | nil => simp only [T.toDs, Option.some.injEq, reduceCtorEq] at e'
      | cons u us =>
        simp only [T.plains, Bool.and_eq_true] at hu
        simp only [T.toDs] at e'
        split at e'
        · rename_i d' es' e3 e4
          cases e'
          rw [T.toD_inj t u d h.1 hu.1 e1 e3, T.toDs_inj ts us es h.2 hu.2 e2 e4]
        · cases e'
    · cases e
end
theorem T.plains_mem : ∀ {ts : List T} {t : T}, T.plains ts = true → t ∈ ts → t.plain = true
  | [], t, _, h => by cases h
  | x :: ts, t, hp, h => by
    simp only [T.plains, Bool.and_eq_true] at hp
    rcases List.mem_cons.mp h with rfl | h
    · exact hp.1
    · exact T.plains_mem hp.2 h
theorem T.D_of {t : T} (h : t.plain = true) : t.toD = some t.D := by
  obtain ⟨d, e⟩ := T.plain_toD t h
  unfold T.D
  rw [e]
  rfl
theorem T.Ds_of : ∀ {ts : List T}, T.plains ts = true → T.toDs ts = some (ts.map T.D)
  | [], _ => by simp only [T.toDs, List.map_nil]
  | t :: ts, h => by
    simp only [T.plains, Bool.and_eq_true] at h
    simp only [T.toDs, T.D_of h.1, T.Ds_of h.2, List.map_cons]
theorem alikeTs_of {xs : List T} (h : alikeTs xs = true) : T.plains xs = true ∧ W.AllAlike (xs.map T.D) ∧ (∀ d ∈ xs.map T.D, d ≠ .none) ∧ ∀ d ∈ xs.map T.D, d.depth ≤ 50 := by
  unfold alikeTs at h
  simp only [Bool.and_eq_true] at h
  obtain ⟨⟨⟨h1, h2⟩, h3⟩, h4⟩ := h
  refine ⟨h1, fun d hd e he => ?_, fun d hd => ?_, fun d hd => ?_⟩
  · obtain ⟨x, hx, rfl⟩ := List.mem_map.mp hd
    obtain ⟨y, hy, rfl⟩ := List.mem_map.mp he
    exact List.all_eq_true.mp (List.all_eq_true.mp h2 x hx) y hy
  · obtain ⟨x, hx, rfl⟩ := List.mem_map.mp hd
    have z := List.all_eq_true.mp h3 x hx
    have p := T.D_of (T.plains_mem h1 hx)
    intro q
    rw [q] at p
    have : x = .non := T.toD_inj x .non .none (T.plains_mem h1 hx) rfl p rfl
    subst this
    cases z
  · obtain ⟨x, hx, rfl⟩ := List.mem_map.mp hd
    exact of_decide_eq_true (List.all_eq_true.mp h4 x hx)
theorem depthAll_le {n : Nat} : ∀ {ds : List PyData}, (∀ d ∈ ds, d.depth ≤ n) → PyData.depthAll ds ≤ n
  | [], _ => by simp only [PyData.depthAll]; omega
  | d :: ds, h => by
    have h1 := h d (by simp)
    have h2 := depthAll_le (ds := ds) fun e he => h e (by simp [he])
    simp only [PyData.depthAll]
    omega
theorem minD_map (x : T) : ∀ xs : List T, W.minD x.D (xs.map T.D) = T.D (xs.foldl (fun a y => if W.dataLt y.D a.D then y else a) x) := by
  intro xs
  unfold W.minD
  induction xs generalizing x with
  | nil => rfl
  | cons y ys ih =>
    rw [List.map_cons, List.foldl_cons, List.foldl_cons, ← ih]
    congr 1
    split <;> rfl
theorem fold_mem (x : T) : ∀ xs : List T, xs.foldl (fun a y => if W.dataLt y.D a.D then y else a) x ∈ x :: xs := by
  intro xs
  induction xs generalizing x with
  | nil => simp
  | cons y ys ih =>
    rw [List.foldl_cons]
    have := ih (if W.dataLt y.D x.D then y else x)
    rcases List.mem_cons.mp this with e | e
    · rw [e]; split <;> simp
    · simp [e]
theorem cb_min (hc : X.calm = true) (hu : X.A.units + 64 < cLine) : CallR X (.builtin "min") (rPr X.K .min) := by
  intro pins s σ H vs us Q I r h
  obtain ⟨φ, E, S, ts, t', st, l, e, q⟩ := h
  obtain ⟨t, rfl⟩ := prim_one e (by simp) (by simp)
  obtain ⟨v, rfl, l1⟩ := lrs1 l
  replace l := l1
  simp only [List.map_cons, List.map_nil, prim] at e
  have go : ∀ xs, (deref S t = .tup xs ∨ deref S t = .lst xs ∨ deref S t = .own xs) → (match intsT xs with | some (n :: ns) => some (T.int (minL ns n)) | _ => minT xs) = some t' → wpAny (model X.prog X.w) X.A (call (.builtin "min") us) (EP X pins σ Q) X.xe s := fun xs hx e => by
    split at e
    · rename_i n ns en
      cases e
      obtain ⟨a, rfl, hs⟩ := sqI_of st l hx en
      exact cr_minA hc pins s σ H _ us Q I r ⟨a, _, rfl, hs, Nat.succ_pos _, fun m h1 h2 => by rw [minL_uniq h1 h2]; exact fin_int q⟩
    · rename_i hn
      cases xs with
      | nil => cases e
      | cons x xs =>
        simp only [minT] at e
        split at e
        · rename_i hal
          cases e
          obtain ⟨h1, h2, h3, h4⟩ := alikeTs_of hal
          have hdep := depthAll_le h4
          have hds : T.toDs (x :: xs) = some (x.D :: xs.map T.D) := T.Ds_of h1
          obtain ⟨k1, k2, _⟩ := seq_look st l
          have fin : ∀ (a : Addr) (vs : List V) (its : List Value) (as : List Addr) (h' : Heap) (tk : Nat) (u : Value) (bs : List Addr) (i : Nat), Reps X.K H φ E (x :: xs) vs → Vals vs its → ReadsAll s.heap its (x.D :: xs.map T.D) as → its.toArray[i]? = some u → Reads h' u (W.minD x.D (xs.map T.D)) bs →
              (∀ b o, s.heap.get? b = some o → h'.get? b = some o) → EP X pins σ Q u { s with heap := h', toks := tk } := fun a vs its as h' tk u bs i ra rv hr hi hm hk => by
            obtain ⟨cs, r1, r2, _, _⟩ := W.readsAll_atA (vs := its.toArray) hr i u hi
            have hi2 : its[i]? = some u := by simpa using hi
            have hlen := rv.length
            have hlen2 := ra.len
            have hil : i < its.length := by
              rcases Nat.lt_or_ge i its.length with c | c
              · exact c
              · rw [List.getElem?_eq_none c] at hi2; cases hi2
            obtain ⟨y, hy⟩ : ∃ y, (x :: xs)[i]? = some y := ⟨_, List.getElem?_eq_getElem (by omega)⟩
            obtain ⟨v, hv, rp⟩ := ra.get hy
            obtain ⟨u', hu', rr⟩ := rv.get hv
            rw [hi2] at hu'
            cases hu'
            have ed : (x.D :: xs.map T.D).getD i .none = y.D := by
              have : ((x :: xs).map T.D)[i]? = some y.D := by rw [List.getElem?_map, hy]; rfl
              rw [List.getD_eq_getElem?_getD]
              show (((x :: xs).map T.D)[i]?).getD .none = _
              rw [this]
              rfl
            rw [ed] at r1
            have hu1 := (Reads.unique (W.reads_keeps hk r1) _ _ hm).1
            rw [minD_map] at hu1
            have my : y ∈ x :: xs := List.mem_of_getElem? hy
            have mz := fold_mem x xs
            have ey : y = xs.foldl (fun a y => if W.dataLt y.D a.D then y else a) x := by
              refine T.toD_inj _ _ y.D (T.plains_mem h1 my) (T.plains_mem h1 mz) (T.D_of (T.plains_mem h1 my)) ?_
              rw [hu1]
              exact T.D_of (T.plains_mem h1 mz)
            rw [ey] at rp
            exact ⟨v, H, I.kept hk, rr, fin0 q rp⟩
          have hal' : W.AlikeAll (x.D :: xs.map T.D) := ⟨fun a ha b hb => h2 a ha b hb, h3⟩
          have hdu : X.A.units + 1 + PyData.depthAll (x.D :: xs.map T.D) < cLine := by
            have : PyData.depthAll (x.D :: xs.map T.D) ≤ 50 := hdep
            omega
          rcases hx with hx | hx
          · obtain ⟨a, vs, rfl, ha, ra⟩ := k1 _ hx
            obtain ⟨its, rv, hl, _⟩ := I.tuple ha
            obtain ⟨as, hr⟩ := Dp.readsAll I _ _ _ (Reps.dp _ _ _ ra hds) rv
            rw [Vals.ref1 r]
            exact W.min_tuple_data (I.ok.hd hc) hl hr hal' hdu fun i u h' tk bs hi hm hk => fin a vs its as h' tk u bs i ra rv hr hi hm hk
          · obtain ⟨a, vs, rfl, ha, ra⟩ := k2 _ hx
            obtain ⟨its, rv, hl, _⟩ := I.list (SqL.of ha)
            obtain ⟨as, hr⟩ := Dp.readsAll I _ _ _ (Reps.dp _ _ _ ra hds) rv
            rw [Vals.ref1 r]
            exact W.min_list_data (I.ok.hd hc) hl.isList hr hal' hdu fun i u h' tk bs hi hm hk => fin a vs its as h' tk u bs i ra rv hr hi hm hk
        · cases e
  split at e
  · rename_i xs ex; exact go xs (.inl ex) e
  · rename_i xs ex; exact go xs (.inr (.inl ex)) e
  · rename_i xs ex; exact go xs (.inr (.inr ex)) e
  · cases e
theorem each_reps {K : W.Frag} {H : Hp} {φ : List Addr} {E : Excl} : ∀ {ts : List T} {vs : List V} {us : List Value}, Reps K H φ E ts vs → Vals vs us → W.EachIs (fun u t => ∃ v, RelV v u ∧ Rep K H φ E t v) us ts
  | [], vs, us, r, rv => by
    simp only [Reps] at r
    subst r
    cases rv
    exact .nil
  | t :: ts, vs, us, r, rv => by
    simp only [Reps] at r
    obtain ⟨v, ws, rfl, h1, h2⟩ := r
    cases rv with
    | cons a b => exact .cons ⟨v, a, h1⟩ (each_reps h2 b)
theorem reps_each {K : W.Frag} {H : Hp} {φ : List Addr} {E : Excl} : ∀ {us : List Value} {ts : List T}, W.EachIs (fun u t => ∃ v, RelV v u ∧ Rep K H φ E t v) us ts → ∃ vs, Vals vs us ∧ Reps K H φ E ts vs
  | _, _, .nil => ⟨[], .nil, Reps.nil⟩
  | _, _, .cons ⟨v, h1, h2⟩ h => by
    obtain ⟨vs, h3, h4⟩ := reps_each h
    exact ⟨v :: vs, .cons h1 h3, Reps.cons h2 h4⟩
theorem each_reads {h : Heap} : ∀ {us : List Value} {ts : List T} {as : List Addr}, ReadsAll h us (ts.map T.D) as → W.EachIs (fun u t => ∃ as, Reads h u (T.D t) as) us ts
  | us, [], as, r => by
    cases r
    exact .nil
  | us, t :: ts, as, r => by
    cases r with
    | cons h1 h2 => exact .cons ⟨_, h1⟩ (each_reads h2)
theorem reads_keys {h : Heap} : ∀ {k : List L2.Key} {us : List Value}, Vals (k.map kV) us → ReadsAll h us ((k.map keyT).map T.D) []
  | [], us, r => by
    cases r
    exact ReadsAll.nil
  | .inl i :: k, us, r => by
    cases r with
    | @cons x u xs us' a b =>
      obtain ⟨t, rfl⟩ := (show ∃ t, u = Value.int i t from a)
      exact ReadsAll.cons (as := []) (bs := []) (Reads.int i t) (reads_keys b)
  | .inr i :: k, us, r => by
    cases r with
    | @cons x u xs us' a b =>
      obtain ⟨t, rfl⟩ := (show ∃ t, u = Value.str i t from a)
      exact ReadsAll.cons (as := []) (bs := []) (Reads.str i t) (reads_keys b)
theorem plains_keys : ∀ k : List L2.Key, T.plains (k.map keyT) = true
  | [] => rfl
  | .inl i :: k => by simp only [List.map_cons, keyT, T.plains, T.plain, plains_keys k, Bool.and_self]
  | .inr i :: k => by simp only [List.map_cons, keyT, T.plains, T.plain, plains_keys k, Bool.and_self]
theorem key_D (k : List L2.Key) : T.D (.tup (k.map keyT)) = .tuple ((k.map keyT).map T.D) := by
  unfold T.D
  simp only [T.toD, T.Ds_of (plains_keys k), Option.map_some, Option.getD_some]
  rfl
theorem read_key {h : Heap} {b : Addr} {k : List L2.Key} {P : Program} {w : World} {H : Hp} (ok : HOk P w H h) (hb : H b = some (.tup (k.map kV))) : Reads h (.ref b) (T.D (.tup (k.map keyT))) [] := by
  obtain ⟨_, its, rv, o, ho, hc, n, hd⟩ := ok _ _ hb
  rw [key_D]
  exact Reads.tuple ho hc hd (reads_keys rv)
theorem rep_key {K : W.Frag} {φ : List Addr} {E : Excl} {H : Hp} : ∀ {k : List L2.Key}, Reps K H φ E (k.map keyT) (k.map kV)
  | [] => Reps.nil
  | .inl i :: k => Reps.cons (by simp only [keyT, Rep]; rfl) rep_key
  | .inr i :: k => Reps.cons (by simp only [keyT, Rep]; rfl) rep_key
theorem each_keys {α : Type} {R : Value → T → Prop} (f : α → Value) (g : α → T) : ∀ {L : List α} {us : List Value} {ts : List T}, us = L.map f → ts = L.map g → (∀ x ∈ L, R (f x) (g x)) → W.EachIs R us ts
  | [], us, ts, e1, e2, _ => by
    subst e1 e2
    exact .nil
  | x :: L, us, ts, e1, e2, h => by
    subst e1 e2
    exact .cons (h x (by simp)) (each_keys f g rfl rfl fun y hy => h y (by simp [hy]))
theorem sorted_facts {xs zs : List T} (hs : sortT xs = some zs) : zs = xs.mergeSort (W.dataLe false T.D) ∧ T.plains xs = true ∧ W.AllAlike (xs.map T.D) ∧ W.Sortable (xs.map T.D) ∧ (∀ b ∈ xs, b.D.depth ≤ 50) ∧ xs.length ≤ 1000000 := by
  unfold sortT at hs
  split at hs
  · rename_i hal
    simp only [Bool.and_eq_true] at hal
    obtain ⟨⟨hal, hsh⟩, hlen⟩ := hal
    have hlen := of_decide_eq_true hlen
    cases hs
    obtain ⟨h1, h2, h3, h4⟩ := alikeTs_of hal
    refine ⟨rfl, h1, h2, ?_, fun b hb => h4 _ (List.mem_map_of_mem hb), hlen⟩
    simp only [Bool.or_eq_true] at hsh
    rcases hsh with hsh | hsh
    · left
      intro d hd
      obtain ⟨x, hx, rfl⟩ := List.mem_map.mp hd
      have c := List.all_eq_true.mp hsh x hx
      have p := T.plains_mem h1 hx
      cases x with
      | tup ys =>
        cases ys with
        | nil => cases c
        | cons y ys =>
          have p' := T.D_of p
          simp only [T.toD, Option.map_eq_some_iff] at p'
          obtain ⟨ds, e1, e2⟩ := p'
          simp only [T.toDs] at e1
          split at e1
          · cases e1
            exact ⟨_, _, e2.symm⟩
          · cases e1
      | _ => cases c
    · right
      intro d hd
      refine ⟨h3 d hd, fun ds q => ?_⟩
      obtain ⟨x, hx, rfl⟩ := List.mem_map.mp hd
      have c := List.all_eq_true.mp hsh x hx
      have p := T.D_of (T.plains_mem h1 hx)
      rw [q] at p
      cases x with
      | tup ys => cases c
      | _ => first | (simp only [T.toD, Option.some.injEq, reduceCtorEq] at p; done) | (have p2 := T.plains_mem h1 hx; simp only [T.plain, Bool.false_eq_true] at p2; done)
  · cases hs
theorem sorted_dict (hc : X.calm = true) (hu : X.A.units + 64 < cLine) {pins : List (Addr × Obj)} {s : Shared} {σ : L2.St} {H : Hp} {φ : List Addr} {E : Excl} {a : Addr} {ks : List (List L2.Key)} {vs : List V} {zs : List T} {Q : VK} (I : Inv X pins σ H s) (D : Dom φ E H)
    (ha : H a = some (.dT (ks.zip vs))) (hl : ks.length = vs.length) (hs : sortT (ks.map fun k => .tup (k.map keyT)) = some zs) (q : ∀ v H', Nw H H' → ER X.K φ E true H H' (.own zs) v → Q v H') :
    wpAny (model X.prog X.w) X.A (call (.builtin "sorted") [.ref a]) (EP X pins σ Q) X.xe s := by
  obtain ⟨ez, h1, h2, h3, h4, h5⟩ := sorted_facts hs
  obtain ⟨z, hd, xs, rel, o, es, ep, ho, hx, hdat, hes, _, _⟩ := dt_of I.hok ha
  have hm : s.heap.DictRaw a es ep := ⟨o, ho, hx, hdat⟩
  have hks : xs.map (·.1) = ks := by
    have : ∀ {l : List (List L2.Key × V)} {m : List (List L2.Key × Addr × Value)}, KT H l m → m.map (·.1) = l.map (·.1) := by
      intro l m r
      induction r with
      | nil => rfl
      | cons h _ ih => rw [List.map_cons, List.map_cons, ih, h.1]
    rw [this rel, List.map_fst_zip (by omega)]
  have hkb : ∀ x ∈ xs, H x.2.1 = some (.tup (x.1.map kV)) := by
    have : ∀ {l : List (List L2.Key × V)} {m : List (List L2.Key × Addr × Value)}, KT H l m → ∀ x ∈ m, H x.2.1 = some (.tup (x.1.map kV)) := by
      intro l m r
      induction r with
      | nil => intro x hx; cases hx
      | @cons p q ps qs h _ ih =>
        intro x hx
        rcases List.mem_cons.mp hx with e | hx
        · subst e
          rw [← h.1]
          exact h.2.1
        · exact ih x hx
    exact this rel
  have hsz : es.size = xs.length := size_of_entries hes
  have hxl : xs.length = ks.length := by rw [← hks, List.length_map]
  rw [List.length_map] at h5
  refine Calls.call_function_entry PyProof.Rows.kind_sorted PyProof.Rows.plain_sorted PyProof.Rows.entry_sorted (PyProof.Rows.args_sorted1 _) ?_
  unfold Builtin.«sorted»
  refine wpAny_bind (wpAny_pure ?_)
  refine wpAny_bind (W.kdu_collect (A := X.A.in1) (KdlSrc.rawDict hd) (I.ok.hd hc) hm (by rw [hsz, hxl, sizeLine_eq]; omega) fun h' tk acc hk hacc => ?_)
  have hal : acc.toList.length = es.size := by rw [Array.length_toList]; exact hacc.1
  have hacc2 : acc.toList = xs.map fun x => Value.ref x.2.1 := by
    refine List.ext_getElem (by rw [hal, hsz, List.length_map]) fun j g1 g2 => ?_
    have hj : j < es.size := by omega
    obtain ⟨hi, e⟩ := hacc.2 j acc.toList[j] (by rw [← Array.getElem?_toList]; exact List.getElem?_eq_getElem g1)
    rw [e, List.getElem_map]
    have e2 := entry_at hes j
    rw [Array.getElem?_eq_getElem hj, List.getElem?_eq_getElem (by omega), Option.map_some, Option.some.injEq] at e2
    rw [e2]
    rfl
  refine wpAny_bind (wpAny_newList ?_ (by rw [hal, hsz, hxl, sizeLine_eq]; omega))
  have I' := I.kept (t' := tk) hk
  have hoL : (h'.push (seqObj "list" acc.toList.toArray 0)).get? h'.objs.size = some (seqObj "list" acc.toList.toArray 0) := Heap.get?_push_size _ rfl
  have kp1 : ∀ b u, h'.get? b = some u → (h'.push (seqObj "list" acc.toList.toArray 0)).get? b = some u := fun b u e => Heap.get?_push_of_some _ e
  have hok1 : HOk X.prog X.w H (h'.push (seqObj "list" acc.toList.toArray 0)) := I'.hok.kept kp1
  have e1 : W.EachIs (fun u t => ∃ v, RelV v u ∧ Rep X.K H φ E t v) acc.toList (ks.map fun k => .tup (k.map keyT)) := by
    refine each_keys (fun x : List L2.Key × Addr × Value => Value.ref x.2.1) (fun x => T.tup (x.1.map keyT)) hacc2 (by rw [← hks, List.map_map]; rfl) fun x hx => ⟨.ref x.2.1, rfl, ?_⟩
    simp only [Rep]
    exact ⟨_, _, rfl, hkb x hx, rep_key⟩
  have e2 : W.EachIs (fun u t => ∃ as, Reads (h'.push (seqObj "list" acc.toList.toArray 0)) u (T.D t) as ∧ h'.objs.size ∉ as) acc.toList (ks.map fun k => .tup (k.map keyT)) := by
    refine each_keys (fun x : List L2.Key × Addr × Value => Value.ref x.2.1) (fun x => T.tup (x.1.map keyT)) hacc2 (by rw [← hks, List.map_map]; rfl) fun x hx => ⟨[], read_key hok1 (hkb x hx), by simp⟩
  refine wpAny_bind (wpAny_holding (wpAny_mono (W.list_sort_data (s := { s with heap := h'.push (seqObj "list" acc.toList.toArray 0), toks := tk }) (A := X.A.in1) (enc := T.D) (Q := fun _ s' => EP X pins σ Q (.ref h'.objs.size) s') hoL e1 e2 h2 h3 (by rw [List.length_map, sizeLine_eq]; omega) (fun b hb => by have := h4 b hb; show X.A.units + 1 + 1 + _ < _; omega) fun out ho eo => ?_) (fun _ s' x => ?_) fun _ _ e => e))
  · obtain ⟨ys, rv2, ra2⟩ := reps_each eo
    obtain ⟨c, hc2⟩ := sortedHeap_at (h := h'.push (seqObj "list" acc.toList.toArray 0)) (vs := acc.toList) (out := out.toArray) hoL
    rw [← ez] at ra2
    have hp : H h'.objs.size = none := I'.hok.fresh (Nat.le_refl _)
    refine ⟨.ref h'.objs.size, upd H h'.objs.size (.lst ys), I'.laid (t' := tk) (fun b u e => ?_) (Nat.le_refl _) ⟨?_, out, c, rv2, hc2⟩, rfl, fin_own D q hp ra2⟩
    · have hlt := Heap.lt_size e
      rw [sortedHeap_old (Nat.ne_of_lt hlt) (by rw [size_push']; exact Nat.lt_succ_of_lt hlt)]
      exact kp1 b u e
    · rw [rv2.length, ho, List.length_map, sizeLine_eq]
      omega
  · exact wpAny_pure ⟨_, rfl, x⟩
mutual
theorem reads_nk {P : Program} {w : World} {K : W.Frag} {φ : List Addr} {E : Excl} {H : Hp} {h : Heap} (ok : HOk P w H h) : ∀ (t : T) (k : NestedKey) (v : V) (u : Value), nkT t = some k → T.plain t = true → Rep K H φ E t v → RelV v u → Reads h u (T.D t) []
  | .non, k, v, u, _, _, r, l => by
    simp only [Rep] at r
    subst r
    cases (show u = Value.none from l)
    exact Reads.none
  | .bl b, k, v, u, _, _, r, l => by
    simp only [Rep] at r
    subst r
    cases (show u = Value.bool b from l)
    exact Reads.bool b
  | .int i, k, v, u, _, _, r, l => by
    simp only [Rep] at r
    subst r
    obtain ⟨t, rfl⟩ := (show ∃ t, u = Value.int i t from l)
    exact Reads.int i t
  | .tup xs, k, v, u, e, pl, r, l => by
    simp only [nkT, Option.map_eq_some_iff] at e
    obtain ⟨ks, e, rfl⟩ := e
    simp only [T.plain] at pl
    simp only [Rep] at r
    obtain ⟨a, vs, rfl, ha, rr⟩ := r
    cases (show u = Value.ref a from l)
    obtain ⟨_, its, rv, o, ho, hc, n, hd⟩ := ok _ _ ha
    have eD : T.D (.tup xs) = .tuple (xs.map T.D) := by
      unfold T.D
      simp only [T.toD, T.Ds_of pl, Option.map_some, Option.getD_some]
      rfl
    rw [eD]
    exact Reads.tuple ho hc hd (reads_nks ok xs ks vs its e pl rr rv)
  | .str _, k, v, u, e, _, _, _ => by simp [nkT] at e
  | .lst _, k, v, u, e, _, _, _ => by simp [nkT] at e
  | .own _, k, v, u, e, _, _, _ => by simp [nkT] at e
  | .frz _, k, v, u, e, _, _, _ => by simp [nkT] at e
  | .ref _, k, v, u, e, _, _, _ => by simp [nkT] at e
  | .fn _ _, k, v, u, e, _, _, _ => by simp [nkT] at e
  | .ctup _, k, v, u, e, _, _, _ => by simp [nkT] at e
  | .exv _ _, k, v, u, e, _, _, _ => by simp [nkT] at e
  | .dct _ _ _, k, v, u, e, _, _, _ => by simp [nkT] at e
  | .odct _ _ _, k, v, u, e, _, _, _ => by simp [nkT] at e
theorem reads_nks {P : Program} {w : World} {K : W.Frag} {φ : List Addr} {E : Excl} {H : Hp} {h : Heap} (ok : HOk P w H h) : ∀ (ts : List T) (ks : List NestedKey) (vs : List V) (us : List Value), nksT ts = some ks → T.plains ts = true → Reps K H φ E ts vs → Vals vs us → ReadsAll h us (ts.map T.D) []
  | [], ks, vs, us, _, _, r, l => by
    simp only [Reps] at r
    subst r
    cases l
    exact ReadsAll.nil
  | t :: ts, ks, vs, us, e, pl, r, l => by
    simp only [nksT] at e
    split at e
    · rename_i k js e1 e2
      cases e
      simp only [T.plains, Bool.and_eq_true] at pl
      simp only [Reps] at r
      obtain ⟨v, ws, rfl, r1, r2⟩ := r
      cases l with
      | cons l1 l2 => exact ReadsAll.cons (as := []) (bs := []) (reads_nk ok t k v _ e1 pl.1 r1 l1) (reads_nks ok ts js ws _ e2 pl.2 r2 l2)
    · cases e
end
theorem each_nk {P : Program} {w : World} {K : W.Frag} {φ : List Addr} {E : Excl} {H : Hp} {h : Heap} {p : Addr} (ok : HOk P w H h) (hp : H p = none) : ∀ {ks : List (List L2.Key)} {xs : List T} {vs : List V} {us : List Value}, ks.length = xs.length → DN ks xs → Reps K H φ E xs vs → T.plains xs = true → Vals vs us → W.EachIs (fun u t => ∃ as, Reads h u (T.D t) as ∧ p ∉ as) us xs
  | [], [], vs, us, _, _, r, _, l => by
    simp only [Reps] at r
    subst r
    cases l
    exact .nil
  | [], _ :: _, _, _, hl, _, _, _, _ => by cases hl
  | _ :: _, [], _, _, hl, _, _, _, _ => by cases hl
  | k :: ks, x :: xs, vs, us, hl, dn, r, pl, l => by
    obtain ⟨⟨ts, n, rfl, hn, hdp, rfl⟩, dn⟩ := dn
    simp only [Reps] at r
    obtain ⟨v, ws, rfl, r1, r2⟩ := r
    simp only [T.plains, Bool.and_eq_true] at pl
    cases l with
    | cons l1 l2 => exact .cons ⟨[], reads_nk ok (.tup ts) (.tup n) v _ (by simp only [nkT, hn, Option.map_some]) pl.1 r1 l1, by simp⟩ (each_nk ok hp (by simpa using hl) dn r2 pl.2 l2)
theorem sorted_dictN (hc : X.calm = true) (hu : X.A.units + 64 < cLine) {pins : List (Addr × Obj)} {s : Shared} {σ : L2.St} {H : Hp} {φ : List Addr} {E : Excl} {a : Addr} {ks : List (List L2.Key)} {xs : List T} {vs : List V} {zs : List T} {Q : VK} (I : Inv X pins σ H s) (D : Dom φ E H)
    (ha : H a = some (dOb a none ks vs)) (hl : DL none ks xs) (ra : Reps X.K H φ E xs vs) (hs : sortT xs = some zs) (q : ∀ v H', Nw H H' → ER X.K φ E true H H' (.own zs) v → Q v H') :
    wpAny (model X.prog X.w) X.A (call (.builtin "sorted") [.ref a]) (EP X pins σ Q) X.xe s := by
  obtain ⟨ez, h1, h2, h3, h4, h5⟩ := sorted_facts hs
  obtain ⟨_, _, k3, k4⟩ := nkeys hl.1 (hl.2.2 rfl) ra
  obtain ⟨kvs, hkv⟩ : ∃ kvs, kvs = (ks.map decK).zip (vs.map refA) := ⟨_, rfl⟩
  have ha : H a = some (nOb a kvs) := by rw [hkv]; exact ha
  obtain ⟨hd, _, _, o, es, ep, ho, hx, hdat, hes⟩ := n_raw I ha
  have hes := hes X.prog X.w
  rw [← hkv] at k3
  have lv := ra.len
  have hm : s.heap.DictRaw a es ep := ⟨o, ho, hx, hdat⟩
  have hsz : es.size = kvs.length := by rw [← Array.length_toList, hes]; unfold nEs; rw [List.length_map]
  have hxl : kvs.length = xs.length := by rw [k3, hl.1]
  refine Calls.call_function_entry PyProof.Rows.kind_sorted PyProof.Rows.plain_sorted PyProof.Rows.entry_sorted (PyProof.Rows.args_sorted1 _) ?_
  unfold Builtin.«sorted»
  refine wpAny_bind (wpAny_pure ?_)
  refine wpAny_bind (W.kdu_collect (A := X.A.in1) (KdlSrc.rawDict hd) (I.ok.hd hc) hm (by rw [hsz, hxl, sizeLine_eq]; omega) fun h' tk acc hk hacc => ?_)
  have hal : acc.toList.length = es.size := by rw [Array.length_toList]; exact hacc.1
  have hacc2 : acc.toList = kvs.map fun x => Value.ref x.2 := by
    refine List.ext_getElem (by rw [hal, hsz, List.length_map]) fun j g1 g2 => ?_
    have hj : j < es.size := by omega
    obtain ⟨hi, e⟩ := hacc.2 j acc.toList[j] (by rw [← Array.getElem?_toList]; exact List.getElem?_eq_getElem g1)
    rw [e, List.getElem_map]
    have e2 : es[j]? = some (entryOfKey (nestedKind X.prog X.w) ((kvs[j]'(by omega)).1, (kvs[j]'(by omega)).2, Value.bool true)) := by
      rw [← Array.getElem?_toList, hes]
      unfold nEs
      rw [List.getElem?_map, List.getElem?_eq_getElem (by omega)]
      rfl
    rw [Array.getElem?_eq_getElem hj, Option.some.injEq] at e2
    rw [e2]
    rfl
  have hrel : Vals vs acc.toList := by
    rw [hacc2, hkv]
    have e : ((ks.map decK).zip (vs.map refA)).map (fun x => Value.ref x.2) = (vs.map refA).map Value.ref := by
      have : ((ks.map decK).zip (vs.map refA)).map (fun x => Value.ref x.2) = (((ks.map decK).zip (vs.map refA)).map (·.2)).map Value.ref := by rw [List.map_map]; rfl
      rw [this, List.map_snd_zip (by rw [List.length_map, List.length_map, hl.1, ← lv]; exact Nat.le_refl _)]
    rw [e]
    have go : ∀ as : List Addr, Vals (as.map V.ref) (as.map Value.ref) := by
      intro as
      induction as with
      | nil => exact .nil
      | cons a as ih => exact .cons rfl ih
    have := go (vs.map refA)
    rw [← k4] at this
    exact this
  refine wpAny_bind (wpAny_newList ?_ (by rw [hal, hsz, hxl, sizeLine_eq]; omega))
  have I' := I.kept (t' := tk) hk
  have hoL : (h'.push (seqObj "list" acc.toList.toArray 0)).get? h'.objs.size = some (seqObj "list" acc.toList.toArray 0) := Heap.get?_push_size _ rfl
  have kp1 : ∀ b u, h'.get? b = some u → (h'.push (seqObj "list" acc.toList.toArray 0)).get? b = some u := fun b u e => Heap.get?_push_of_some _ e
  have hok1 : HOk X.prog X.w H (h'.push (seqObj "list" acc.toList.toArray 0)) := I'.hok.kept kp1
  have e1 : W.EachIs (fun u t => ∃ v, RelV v u ∧ Rep X.K H φ E t v) acc.toList xs := each_reps ra hrel
  have e2 : W.EachIs (fun u t => ∃ as, Reads (h'.push (seqObj "list" acc.toList.toArray 0)) u (T.D t) as ∧ h'.objs.size ∉ as) acc.toList xs := by
    exact each_nk hok1 (I'.hok.fresh (Nat.le_refl _)) hl.1 (hl.2.2 rfl) ra h1 hrel
  refine wpAny_bind (wpAny_holding (wpAny_mono (W.list_sort_data (s := { s with heap := h'.push (seqObj "list" acc.toList.toArray 0), toks := tk }) (A := X.A.in1) (enc := T.D) (Q := fun _ s' => EP X pins σ Q (.ref h'.objs.size) s') hoL e1 e2 h2 h3 (by rw [sizeLine_eq]; omega) (fun b hb => by have := h4 b hb; show X.A.units + 1 + 1 + _ < _; omega) fun out ho eo => ?_) (fun _ s' x => ?_) fun _ _ e => e))
  · obtain ⟨ys, rv2, ra2⟩ := reps_each eo
    obtain ⟨c, hc2⟩ := sortedHeap_at (h := h'.push (seqObj "list" acc.toList.toArray 0)) (vs := acc.toList) (out := out.toArray) hoL
    rw [← ez] at ra2
    have hp : H h'.objs.size = none := I'.hok.fresh (Nat.le_refl _)
    refine ⟨.ref h'.objs.size, upd H h'.objs.size (.lst ys), I'.laid (t' := tk) (fun b u e => ?_) (Nat.le_refl _) ⟨?_, out, c, rv2, hc2⟩, rfl, fin_own D q hp ra2⟩
    · have hlt := Heap.lt_size e
      rw [sortedHeap_old (Nat.ne_of_lt hlt) (by rw [size_push']; exact Nat.lt_succ_of_lt hlt)]
      exact kp1 b u e
    · rw [rv2.length, ho, sizeLine_eq]
      omega
  · exact wpAny_pure ⟨_, rfl, x⟩
theorem kV_rel {P : Program} {w : World} {k : L2.Key} {u : Value} (h : (mixKind P w).is k u = true) : RelV (kV k) u := by
  rcases keyIs_shape h with ⟨i, t, rfl, rfl⟩ | ⟨x, t, rfl, rfl⟩
  · exact ⟨t, rfl⟩
  · exact ⟨t, rfl⟩
theorem reads_kv {h : Heap} {k : L2.Key} {u : Value} (r : RelV (kV k) u) : Reads h u (T.D (keyT k)) [] := by
  cases k with
  | inl i =>
    obtain ⟨t, rfl⟩ := (show ∃ t, u = Value.int i t from r)
    exact Reads.int i t
  | inr i =>
    obtain ⟨t, rfl⟩ := (show ∃ t, u = Value.str i t from r)
    exact Reads.str i t
theorem sorted_dictK (hc : X.calm = true) (hu : X.A.units + 64 < cLine) {pins : List (Addr × Obj)} {s : Shared} {σ : L2.St} {H : Hp} {φ : List Addr} {E : Excl} {a : Addr} {qs : List L2.Key} {vs : List V} {zs : List T} {Q : VK} (I : Inv X pins σ H s) (D : Dom φ E H)
    (ha : H a = some (.dK (qs.zip vs))) (hl : qs.length = vs.length) (hs : sortT (qs.map keyT) = some zs) (q : ∀ v H', Nw H H' → ER X.K φ E true H H' (.own zs) v → Q v H') :
    wpAny (model X.prog X.w) X.A (call (.builtin "sorted") [.ref a]) (EP X pins σ Q) X.xe s := by
  obtain ⟨ez, h1, h2, h3, h4, h5⟩ := sorted_facts hs
  obtain ⟨z, hd, kvs, rel, dd⟩ := dk_of I.hok ha
  obtain ⟨es, ep, hm, hsz, hes⟩ := dd.raw
  have hkk : kvs.map (·.1) = qs := by rw [← rel.keys, List.map_fst_zip (by omega)]
  have hkl : kvs.length = qs.length := by rw [← hkk, List.length_map]
  rw [List.length_map] at h5
  refine Calls.call_function_entry PyProof.Rows.kind_sorted PyProof.Rows.plain_sorted PyProof.Rows.entry_sorted (PyProof.Rows.args_sorted1 _) ?_
  unfold Builtin.«sorted»
  refine wpAny_bind (wpAny_pure ?_)
  refine wpAny_bind (W.kdu_collect (A := X.A.in1) (KdlSrc.rawDict hd) (I.ok.hd hc) hm (by rw [hsz, hkl, sizeLine_eq]; omega) fun h' tk acc hk hacc => ?_)
  have hal : acc.toList.length = es.size := by rw [Array.length_toList]; exact hacc.1
  have hal2 : acc.toList.length = qs.length := by omega
  obtain ⟨L, hL1, hL2, hL3⟩ : ∃ L : List (L2.Key × Value), acc.toList = L.map (·.2) ∧ qs = L.map (·.1) ∧ ∀ x ∈ L, RelV (kV x.1) x.2 := by
    refine ⟨qs.zip acc.toList, (List.map_snd_zip (by omega)).symm, (List.map_fst_zip (by omega)).symm, fun x hx => ?_⟩
    obtain ⟨i, hi, rfl⟩ := List.getElem_of_mem hx
    rw [List.length_zip] at hi
    rw [List.getElem_zip]
    have hie : i < es.size := by omega
    obtain ⟨hi2, e⟩ := hacc.2 i acc.toList[i] (by rw [← Array.getElem?_toList]; exact List.getElem?_eq_getElem (by omega))
    have hkv : kvs[i]? = some (kvs[i]'(by omega)) := List.getElem?_eq_getElem (by omega)
    obtain ⟨y1, _⟩ := hes i hie _ _ hkv
    have hq : (kvs[i]'(by omega)).1 = qs[i]'(by omega) := by simp only [← hkk, List.getElem_map]
    have y1 : (mixKind X.prog X.w).is (kvs[i]'(by omega)).1 es[i].key = true := y1
    rw [hq] at y1
    have r := kV_rel y1
    rw [← e] at r
    exact r
  refine wpAny_bind (wpAny_newList ?_ (by rw [hal2, sizeLine_eq]; omega))
  have I' := I.kept (t' := tk) hk
  have hoL : (h'.push (seqObj "list" acc.toList.toArray 0)).get? h'.objs.size = some (seqObj "list" acc.toList.toArray 0) := Heap.get?_push_size _ rfl
  have kp1 : ∀ b u, h'.get? b = some u → (h'.push (seqObj "list" acc.toList.toArray 0)).get? b = some u := fun b u e => Heap.get?_push_of_some _ e
  have e1 : W.EachIs (fun u t => ∃ v, RelV v u ∧ Rep X.K H φ E t v) acc.toList (qs.map keyT) := by
    refine each_keys (fun x : L2.Key × Value => x.2) (fun x => keyT x.1) hL1 (by rw [hL2, List.map_map]; rfl) fun x hx => ⟨kV x.1, hL3 x hx, ?_⟩
    cases x.1 <;> simp only [keyT, Rep] <;> rfl
  have e2 : W.EachIs (fun u t => ∃ as, Reads (h'.push (seqObj "list" acc.toList.toArray 0)) u (T.D t) as ∧ h'.objs.size ∉ as) acc.toList (qs.map keyT) := by
    refine each_keys (fun x : L2.Key × Value => x.2) (fun x => keyT x.1) hL1 (by rw [hL2, List.map_map]; rfl) fun x hx => ⟨[], reads_kv (hL3 x hx), by simp⟩
  refine wpAny_bind (wpAny_holding (wpAny_mono (W.list_sort_data (s := { s with heap := h'.push (seqObj "list" acc.toList.toArray 0), toks := tk }) (A := X.A.in1) (enc := T.D) (Q := fun _ s' => EP X pins σ Q (.ref h'.objs.size) s') hoL e1 e2 h2 h3 (by rw [List.length_map, sizeLine_eq]; omega) (fun b hb => by have := h4 b hb; show X.A.units + 1 + 1 + _ < _; omega) fun out ho eo => ?_) (fun _ s' x => ?_) fun _ _ e => e))
  · obtain ⟨ys, rv2, ra2⟩ := reps_each eo
    obtain ⟨c, hc2⟩ := sortedHeap_at (h := h'.push (seqObj "list" acc.toList.toArray 0)) (vs := acc.toList) (out := out.toArray) hoL
    rw [← ez] at ra2
    have hp : H h'.objs.size = none := I'.hok.fresh (Nat.le_refl _)
    refine ⟨.ref h'.objs.size, upd H h'.objs.size (.lst ys), I'.laid (t' := tk) (fun b u e => ?_) (Nat.le_refl _) ⟨?_, out, c, rv2, hc2⟩, rfl, fin_own D q hp ra2⟩
    · have hlt := Heap.lt_size e
      rw [sortedHeap_old (Nat.ne_of_lt hlt) (by rw [size_push']; exact Nat.lt_succ_of_lt hlt)]
      exact kp1 b u e
    · rw [rv2.length, ho, List.length_map, sizeLine_eq]
      omega
  · exact wpAny_pure ⟨_, rfl, x⟩
theorem cb_sorted (hc : X.calm = true) (hu : X.A.units + 64 < cLine) : CallR X (.builtin "sorted") (rPr X.K .sorted) := by
  intro pins s σ H vs us Q I r h
  obtain ⟨φ, E, S, ts, t', st, l, e, q⟩ := h
  obtain ⟨t, rfl⟩ := prim_one e (by simp) (by simp)
  obtain ⟨v, rfl, l1⟩ := lrs1 l
  replace l := l1
  simp only [List.map_cons, List.map_nil, prim] at e
  have go : ∀ xs, (deref S t = .lst xs ∨ deref S t = .own xs) → (sortT xs).map T.own = some t' → wpAny (model X.prog X.w) X.A (call (.builtin "sorted") us) (EP X pins σ Q) X.xe s := fun xs hx e => by
    obtain ⟨_, k2, _⟩ := seq_look st l
    obtain ⟨a, ws, rfl, ha, ra⟩ := k2 xs hx
    cases hs : sortT xs with
    | none => rw [hs] at e; cases e
    | some zs =>
    rw [hs] at e
    have et : t' = .own zs := (Option.some.inj e).symm
    subst et
    clear e
    unfold sortT at hs
    split at hs
    · rename_i hal
      simp only [Bool.and_eq_true] at hal
      obtain ⟨⟨hal, hsh⟩, hlen⟩ := hal
      have hlen := of_decide_eq_true hlen
      cases hs
      obtain ⟨h1, h2, h3, h4⟩ := alikeTs_of hal
      obtain ⟨its, rv, hl, hz⟩ := I.list (SqL.of ha)
      obtain ⟨as, hr⟩ := Dp.readsAll I _ _ _ (Reps.dp _ _ _ ra (T.Ds_of h1)) rv
      rw [Vals.ref1 r]
      have hk : W.Sortable (xs.map T.D) := by
        simp only [Bool.or_eq_true] at hsh
        rcases hsh with hsh | hsh
        · left
          intro d hd
          obtain ⟨x, hx, rfl⟩ := List.mem_map.mp hd
          have c := List.all_eq_true.mp hsh x hx
          have p := T.plains_mem h1 hx
          cases x with
          | tup ys =>
            cases ys with
            | nil => cases c
            | cons y ys =>
              have p' := T.D_of p
              simp only [T.toD, Option.map_eq_some_iff] at p'
              obtain ⟨ds, e1, e2⟩ := p'
              simp only [T.toDs] at e1
              split at e1
              · cases e1
                exact ⟨_, _, e2.symm⟩
              · cases e1
          | _ => cases c
        · right
          intro d hd
          refine ⟨h3 d hd, fun ds q => ?_⟩
          obtain ⟨x, hx, rfl⟩ := List.mem_map.mp hd
          have c := List.all_eq_true.mp hsh x hx
          have p := T.D_of (T.plains_mem h1 hx)
          rw [q] at p
          cases x with
          | tup ys => cases c
          | _ => first | (simp only [T.toD, Option.some.injEq, reduceCtorEq] at p; done) | (have p2 := T.plains_mem h1 hx; simp only [T.plain, Bool.false_eq_true] at p2; done)
      refine W.sorted_data (R := fun u t => ∃ v, RelV v u ∧ Rep X.K H φ E t v) (enc := T.D) (vs := its) (bs := xs) hl.isList (each_reps ra rv) (each_reads hr) h2 hk (by rw [sizeLine_eq]; omega) (fun b hb => by have := h4 _ (List.mem_map_of_mem hb); omega) fun out ho eo => ?_
      obtain ⟨ys, rv2, ra2⟩ := reps_each eo
      obtain ⟨c, hc⟩ := sortedAll_at s.heap its out.toArray
      have hp : H (s.heap.objs.size + 1) = none := I.hok.fresh (Nat.le_succ _)
      refine ⟨.ref (s.heap.objs.size + 1), upd H (s.heap.objs.size + 1) (.lst ys), I.laid (t' := s.toks) (fun _ _ => sortedAll_old) (Nat.le_succ _) ⟨?_, out, c, rv2, hc⟩, rfl, fin_own st.toDom q hp ra2⟩
      rw [rv2.length, ho, sizeLine_eq]
      omega
    · cases hs
  split at e
  · rename_i xs ex; exact go xs (.inl ex) e
  · rename_i xs ex; exact go xs (.inr ex) e
  · rename_i ks xs ex
    have hdt : ∃ a vs, v = .ref a ∧ H a = some (dOb a (some false) ks vs) ∧ DL (some false) ks xs ∧ Reps X.K H φ E xs vs := by
      obtain ⟨t2, e2, h⟩ := one_look st l
      rw [ex] at e2
      subst e2
      rcases h with ⟨l', _⟩ | ⟨_, _, _, z, _⟩ | ⟨_, z⟩
      · obtain ⟨a, vs, h1, _, h2, h3, h4⟩ := l'.dct st.toDom
        exact ⟨a, vs, h1, h2, h3, h4⟩
      · cases z
      · cases z
    obtain ⟨a, vs, rfl, ha, hl, ra⟩ := hdt
    cases hs : sortT (ks.map fun k => .tup (k.map keyT)) with
    | none => rw [hs] at e; cases e
    | some zs =>
      rw [hs] at e
      have et : t' = .own zs := (Option.some.inj e).symm
      subst et
      rw [Vals.ref1 r]
      exact sorted_dict hc hu I st.toDom ha (by rw [hl.1, ra.len]) hs q
  · rename_i ks xs ex
    have hdt : ∃ a vs, v = .ref a ∧ H a = some (dOb a none ks vs) ∧ DL none ks xs ∧ Reps X.K H φ E xs vs := by
      obtain ⟨t2, e2, h⟩ := one_look st l
      rw [ex] at e2
      subst e2
      rcases h with ⟨l', _⟩ | ⟨_, _, _, z, _⟩ | ⟨_, z⟩
      · obtain ⟨a, vs, h1, _, h2, h3, h4⟩ := l'.dct st.toDom
        exact ⟨a, vs, h1, h2, h3, h4⟩
      · cases z
      · cases z
    obtain ⟨a, vs, rfl, ha, hl, ra⟩ := hdt
    cases hs : sortT xs with
    | none => rw [hs] at e; cases e
    | some zs =>
      rw [hs] at e
      have et : t' = .own zs := (Option.some.inj e).symm
      subst et
      rw [Vals.ref1 r]
      exact sorted_dictN hc hu I st.toDom ha hl ra hs q
  · rename_i ks xs ex
    have hdt : ∃ a vs, v = .ref a ∧ H a = some (dOb a (some true) ks vs) ∧ DL (some true) ks xs ∧ Reps X.K H φ E xs vs := by
      obtain ⟨t2, e2, h⟩ := one_look st l
      rw [ex] at e2
      subst e2
      rcases h with ⟨l', _⟩ | ⟨_, _, _, z, _⟩ | ⟨_, z⟩
      · obtain ⟨a, vs, h1, _, h2, h3, h4⟩ := l'.dct st.toDom
        exact ⟨a, vs, h1, h2, h3, h4⟩
      · cases z
      · cases z
    obtain ⟨a, vs, rfl, ha, hl, ra⟩ := hdt
    cases hs : sortT (ks.map fun k => keyT (hdK k)) with
    | none => rw [hs] at e; cases e
    | some zs =>
      rw [hs] at e
      have et : t' = .own zs := (Option.some.inj e).symm
      subst et
      rw [Vals.ref1 r]
      have em : (ks.map fun k => keyT (hdK k)) = (ks.map hdK).map keyT := by rw [List.map_map]; rfl
      rw [em] at hs
      exact sorted_dictK hc hu I st.toDom ha (by rw [List.length_map, hl.1, ra.len]) hs q
  · cases e
theorem cb_max (hc : X.calm = true) : CallR X (.builtin "max") (rPr X.K .max) := by
  intro pins s σ H vs us Q I r h
  obtain ⟨φ, E, S, ts, t', st, l, e, q⟩ := h
  obtain ⟨t, rfl⟩ := prim_one e (by simp) (by simp)
  obtain ⟨v, rfl, l1⟩ := lrs1 l
  replace l := l1
  simp only [List.map_cons, List.map_nil, prim] at e
  have go : ∀ xs, (deref S t = .tup xs ∨ deref S t = .lst xs ∨ deref S t = .own xs) → (match intsT xs with | some (n :: ns) => some (T.int (maxL ns n)) | _ => none) = some t' → wpAny (model X.prog X.w) X.A (call (.builtin "max") us) (EP X pins σ Q) X.xe s := fun xs hx e => by
    split at e
    · rename_i n ns en
      cases e
      obtain ⟨a, rfl, hs⟩ := sqI_of st l hx en
      exact cr_maxA hc pins s σ H _ us Q I r ⟨a, _, rfl, hs, Nat.succ_pos _, fun m h1 h2 => by rw [maxL_uniq h1 h2]; exact fin_int q⟩
    · cases e
  split at e
  · rename_i xs ex; exact go xs (.inl ex) e
  · rename_i xs ex; exact go xs (.inr (.inl ex)) e
  · rename_i xs ex; exact go xs (.inr (.inr ex)) e
  · cases e
/-- bools and ints, by their truth -/
def trV : V → Option Bool
  | .bl b => some b
  | .int i => some (i != 0)
  | _ => none
theorem Reps.of_truths {K : W.Frag} {H : Hp} {φ : List Addr} {E : Excl} : ∀ {ts : List T} {vs : List V} {ns : List Bool}, Reps K H φ E ts vs → truthsT ts = some ns → vs.map trV = ns.map some
  | [], vs, ns, h, e => by simp only [Reps] at h; subst h; cases e; rfl
  | x :: xs, vs, ns, h, e => by
    simp only [Reps] at h
    obtain ⟨v, r, rfl, h1, h⟩ := h
    cases x with
    | bl i =>
      simp only [Rep] at h1
      subst h1
      simp only [truthsT, Option.map_eq_some_iff] at e
      obtain ⟨ms, e1, rfl⟩ := e
      rw [List.map_cons, List.map_cons, Reps.of_truths h e1]; rfl
    | int i =>
      simp only [Rep] at h1
      subst h1
      simp only [truthsT, Option.map_eq_some_iff] at e
      obtain ⟨ms, e1, rfl⟩ := e
      rw [List.map_cons, List.map_cons, Reps.of_truths h e1]; rfl
    | _ => cases e
theorem truth_of {prog : Program} {w : World} {A : Around} {vs : List V} {bs : List Bool} {its : List Value} (r : Vals vs its) (e : vs.map trV = bs.map some) :
    TruthOf prog w A (fun i v => its.toArray[i]? = some v) (fun i => bs.getD i false) := fun i u s Q E hv hq => by
  have hv' : its[i]? = some u := by simpa using hv
  have hl : vs.length = its.length := r.length
  have hi : i < its.length := by
    rcases Nat.lt_or_ge i its.length with z | z
    · exact z
    · rw [List.getElem?_eq_none z] at hv'; cases hv'
  obtain ⟨u', h1, h2⟩ := r.get (i := i) (x := vs[i]'(by omega)) (by rw [List.getElem?_eq_getElem (by omega)])
  rw [hv'] at h1
  cases h1
  have hb : trV (vs[i]'(by omega)) = some (bs.getD i false) := by
    have h3 := congrArg (·[i]?) e
    simp only [List.getElem?_map, List.getElem?_eq_getElem (show i < vs.length by omega), Option.map_some] at h3
    have lb : i < bs.length := by
      rcases Nat.lt_or_ge i bs.length with z | z
      · exact z
      · rw [List.getElem?_eq_none z] at h3; cases h3
    rw [List.getElem?_eq_getElem lb] at h3
    rw [List.getD_eq_getElem?_getD, List.getElem?_eq_getElem lb]
    exact Option.some.inj h3
  generalize vs[i]'(by omega) = x at h2 hb
  have hq' : Q (bs.getD i false) s := hq
  generalize bs.getD i false = b at hb hq'
  cases x with
  | bl c =>
    cases h2
    cases hb
    exact wpAny_truthy_bool hq'
  | int c =>
    obtain ⟨t, rfl⟩ := h2
    cases hb
    exact PySem.P.truthy_int hq'
  | _ => cases hb
section
variable {X : Cx}
def rAnyT (K : PySem.W.Frag) : List V → Hp → VK → Prop := fun vs H Q => ∃ (a : Addr) (ws : List V) (bs : List Bool), vs = [V.ref a] ∧ SqL K H a ws ∧ ws.map trV = bs.map some ∧ Q (.bl (bs.any id)) H
def rAllT (K : PySem.W.Frag) : List V → Hp → VK → Prop := fun vs H Q => ∃ (a : Addr) (ws : List V) (bs : List Bool), vs = [V.ref a] ∧ SqL K H a ws ∧ ws.map trV = bs.map some ∧ Q (.bl (bs.all id)) H
theorem cr_anyT (hc : X.calm = true) : CallR X (.builtin "any") (rAnyT X.K) := by
  intro pins s σ H vs us Q I r h
  obtain ⟨a, ws, bs, rfl, hs, hb, q⟩ := h
  obtain ⟨its, rv, hl, _⟩ := I.list hs
  rw [Vals.ref1 r]
  refine call_any_walk (iter_any hl.isList fun s₂ e2 st hne => ?_)
  subst e2
  refine ⟨_, _, _, _, _, _, _, rfl, Walks.list (A := X.A.in1) (I.ok.hd hc) _ a hne its.toArray, st, truth_of rv hb, fun h' tk hk => ?_⟩
  refine ⟨.bl _, H, I.kept fun b o eo => hk b o (fun hmem => ?_) (Heap.get?_push_of_some _ eo), ?_, q⟩
  · rcases List.mem_cons.mp hmem with e1 | hmem
    · exact absurd (e1 ▸ Heap.lt_size eo) (Nat.lt_irrefl _)
    · cases hmem
  · show Value.bool _ = Value.bool _
    have l1 := congrArg List.length hb
    have l2 := rv.length
    rw [List.length_map, List.length_map] at l1
    rw [← L2.any_range, List.size_toArray, ← l2, l1]
theorem cr_allT (hc : X.calm = true) : CallR X (.builtin "all") (rAllT X.K) := by
  intro pins s σ H vs us Q I r h
  obtain ⟨a, ws, bs, rfl, hs, hb, q⟩ := h
  obtain ⟨its, rv, hl, _⟩ := I.list hs
  rw [Vals.ref1 r]
  refine call_all_walk (iter_any hl.isList fun s₂ e2 st hne => ?_)
  subst e2
  refine ⟨_, _, _, _, _, _, _, rfl, Walks.list (A := X.A.in1) (I.ok.hd hc) _ a hne its.toArray, st, truth_of rv hb, fun h' tk hk => ?_⟩
  refine ⟨.bl _, H, I.kept fun b o eo => hk b o (fun hmem => ?_) (Heap.get?_push_of_some _ eo), ?_, q⟩
  · rcases List.mem_cons.mp hmem with e1 | hmem
    · exact absurd (e1 ▸ Heap.lt_size eo) (Nat.lt_irrefl _)
    · cases hmem
  · show Value.bool _ = Value.bool _
    have l1 := congrArg List.length hb
    have l2 := rv.length
    rw [List.length_map, List.length_map] at l1
    rw [← L2.all_range, List.size_toArray, ← l2, l1]
end
theorem cb_all (hc : X.calm = true) : CallR X (.builtin "all") (rPr X.K .all) := by
  intro pins s σ H vs us Q I r h
  obtain ⟨φ, E, S, ts, t', st, l, e, q⟩ := h
  obtain ⟨t, rfl⟩ := prim_one e (by simp) (by simp)
  obtain ⟨v, rfl, l1⟩ := lrs1 l
  replace l := l1
  obtain ⟨k1, k2, k3⟩ := seq_look st l
  simp only [List.map_cons, List.map_nil, prim] at e
  have go : ∀ xs, (deref S t = .lst xs ∨ deref S t = .own xs) → Option.map (fun bs => T.bl (bs.all id)) (truthsT xs) = some t' → wpAny (model X.prog X.w) X.A (call (.builtin "all") us) (EP X pins σ Q) X.xe s := fun xs hx e => by
    simp only [Option.map_eq_some_iff] at e
    obtain ⟨ns, e1, rfl⟩ := e
    obtain ⟨a, ws, rfl, ha, ra⟩ := k2 xs hx
    exact cr_allT hc pins s σ H _ us Q I r ⟨a, ws, ns, rfl, SqL.of ha, ra.of_truths e1, fin_bl q⟩
  split at e
  · rename_i xs ex; exact go xs (.inr ex) e
  · rename_i xs ex; exact go xs (.inl ex) e
  · cases e
theorem cb_any (hc : X.calm = true) : CallR X (.builtin "any") (rPr X.K .any) := by
  intro pins s σ H vs us Q I r h
  obtain ⟨φ, E, S, ts, t', st, l, e, q⟩ := h
  obtain ⟨t, rfl⟩ := prim_one e (by simp) (by simp)
  obtain ⟨v, rfl, l1⟩ := lrs1 l
  replace l := l1
  obtain ⟨k1, k2, k3⟩ := seq_look st l
  simp only [List.map_cons, List.map_nil, prim] at e
  have go : ∀ xs, (deref S t = .lst xs ∨ deref S t = .own xs) → Option.map (fun bs => T.bl (bs.any id)) (truthsT xs) = some t' → wpAny (model X.prog X.w) X.A (call (.builtin "any") us) (EP X pins σ Q) X.xe s := fun xs hx e => by
    simp only [Option.map_eq_some_iff] at e
    obtain ⟨ns, e1, rfl⟩ := e
    obtain ⟨a, ws, rfl, ha, ra⟩ := k2 xs hx
    exact cr_anyT hc pins s σ H _ us Q I r ⟨a, ws, ns, rfl, SqL.of ha, ra.of_truths e1, fin_bl q⟩
  split at e
  · rename_i xs ex; exact go xs (.inr ex) e
  · rename_i xs ex; exact go xs (.inl ex) e
  · cases e
theorem cb_tuple : CallR X (.type "tuple") (rPr X.K .tuple) := by
  intro pins s σ H vs us Q I r h
  obtain ⟨φ, E, S, ts, t', st, l, e, q⟩ := h
  obtain ⟨t, rfl⟩ := prim_one e (by simp) (by simp)
  obtain ⟨v, rfl, l1⟩ := lrs1 l
  replace l := l1
  obtain ⟨k1, k2, k3⟩ := seq_look st l
  have d := st.toDom
  simp only [List.map_cons, List.map_nil, prim] at e
  have go : ∀ xs, (deref S t = .lst xs ∨ deref S t = .own xs) → some (T.tup xs) = some t' → wpAny (model X.prog X.w) X.A (call (.type "tuple") us) (EP X pins σ Q) X.xe s := fun xs hx e => by
    cases e
    obtain ⟨a, ws, rfl, ha, ra⟩ := k2 xs hx
    exact call_tuple_of pins s σ H _ us Q I r ⟨a, ws, rfl, .inl ⟨SqL.of ha, fun p hp => fin_tup d q hp ra⟩⟩
  split at e
  · rename_i xs ex
    cases e
    obtain ⟨a, ws, rfl, ha, ra⟩ := tup_look st l ex
    exact call_tuple_of pins s σ H _ us Q I r ⟨a, ws, rfl, .inr ⟨SqT.of ha, fin0 q (by simp only [Rep]; exact ⟨a, ws, rfl, ha, ra⟩)⟩⟩
  · rename_i xs ex; exact go xs (.inl ex) e
  · rename_i xs ex; exact go xs (.inr ex) e
  · cases e
theorem cb_list : CallR X (.type "list") (rPr X.K .list) := by
  intro pins s σ H vs us Q I r h
  obtain ⟨φ, E, S, ts, t', st, l, e, q⟩ := h
  obtain ⟨t, rfl⟩ := prim_one e (by simp) (by simp)
  obtain ⟨v, rfl, l1⟩ := lrs1 l
  replace l := l1
  obtain ⟨k1, k2, k3⟩ := seq_look st l
  have d := st.toDom
  simp only [List.map_cons, List.map_nil, prim] at e
  have go : ∀ xs, (deref S t = .lst xs ∨ deref S t = .own xs) → some (T.own xs) = some t' → wpAny (model X.prog X.w) X.A (call (.type "list") us) (EP X pins σ Q) X.xe s := fun xs hx e => by
    cases e
    obtain ⟨a, ws, rfl, ha, ra⟩ := k2 xs hx
    exact call_list_of pins s σ H _ us Q I r ⟨a, ws, rfl, .inl (SqL.of ha), fun p hp => fin_own d q hp ra⟩
  split at e
  · rename_i xs ex
    cases e
    obtain ⟨a, ws, rfl, ha, ra⟩ := k1 xs ex
    exact call_list_of pins s σ H _ us Q I r ⟨a, ws, rfl, .inr ha, fun p hp => fin_own d q hp ra⟩
  · rename_i xs ex; exact go xs (.inl ex) e
  · rename_i xs ex; exact go xs (.inr ex) e
  · cases e
theorem cb_abs : CallR X (.builtin "abs") (rPr X.K .abs) := by
  intro pins s σ H vs us Q I r h
  obtain ⟨φ, E, S, ts, t', st, l, e, q⟩ := h
  obtain ⟨t, rfl⟩ := prim_one e (by simp) (by simp)
  obtain ⟨v, rfl, l1⟩ := lrs1 l
  replace l := l1
  simp only [List.map_cons, List.map_nil, prim] at e
  split at e
  · rename_i i ei
    cases e
    obtain rfl := int_look st l ei
    exact call_abs pins s σ H _ us Q I r ⟨i, rfl, fin_int q⟩
  · cases e
theorem cb_int : CallR X (.type "int") (rPr X.K .int) := by
  intro pins s σ H vs us Q I r h
  obtain ⟨φ, E, S, ts, t', st, l, e, q⟩ := h
  obtain ⟨t, rfl⟩ := prim_one e (by simp) (by simp)
  obtain ⟨v, rfl, l1⟩ := lrs1 l
  replace l := l1
  simp only [List.map_cons, List.map_nil, prim] at e
  split at e
  · rename_i i ei
    cases e
    obtain rfl := int_look st l ei
    exact call_int1 pins s σ H _ us Q I r (.inl ⟨i, rfl, fin_int q⟩)
  · cases e
theorem cb_min2 (hc : X.calm = true) : CallR X (.builtin "min") (rPr X.K .min2) := by
  intro pins s σ H vs us Q I r h
  obtain ⟨φ, E, S, ts, t', st, l, e, q⟩ := h
  cases ts with
  | nil => simp [prim] at e
  | cons a ts =>
    cases ts with
    | nil => simp [prim] at e
    | cons b ts =>
      cases ts with
      | nil =>
        simp only [List.map_cons, List.map_nil, prim] at e
        split at e
        · rename_i i j ei ej
          cases e
          obtain ⟨x, y, rfl, lx, ly⟩ := lrs2 l
          obtain rfl := int_look st lx ei
          obtain rfl := int_look st ly ej
          exact call_min2 hc pins s σ H _ us Q I r ⟨i, j, rfl, fin_int q⟩
        · cases e
      | cons c ts => simp [prim] at e
theorem cb_max2 (hc : X.calm = true) : CallR X (.builtin "max") (rPr X.K .max2) := by
  intro pins s σ H vs us Q I r h
  obtain ⟨φ, E, S, ts, t', st, l, e, q⟩ := h
  cases ts with
  | nil => simp [prim] at e
  | cons a ts =>
    cases ts with
    | nil => simp [prim] at e
    | cons b ts =>
      cases ts with
      | nil =>
        simp only [List.map_cons, List.map_nil, prim] at e
        split at e
        · rename_i i j ei ej
          cases e
          obtain ⟨x, y, rfl, lx, ly⟩ := lrs2 l
          obtain rfl := int_look st lx ei
          obtain rfl := int_look st ly ej
          exact call_max2 hc pins s σ H _ us Q I r ⟨i, j, rfl, fin_int q⟩
        · cases e
      | cons c ts => simp [prim] at e

/-! ### isinstance -/
def tyName : Ty → String
  | .int => "int"
  | .bool => "bool"
  | .str => "str"
  | .tuple => "tuple"
  | .list => "list"
  | .dict => "dict"
  | .nonT => "NoneType"
theorem kit_name (a b : Ty) : PySem.W.kitOne X.K (.type (tyName a)) (.type (tyName b)) = some (isA a b) := by
  apply kit_ty
  cases a <;> cases b <;> decide +kernel
theorem tyx_of {φ : List Addr} {E : Excl} {H : Hp} {t : T} {v : V} {y : Ty} (D : Dom φ E H) (l : LR X.K φ E H t v) (e : tyOf t = some y) : TyX X.K H v (.type (tyName y)) := by
  cases t with
  | bl b => cases e; obtain rfl := l.bl; exact .base (.bl _)
  | int b => cases e; obtain rfl := l.int; exact .base (.int _)
  | str b => cases e; obtain rfl := l.str; exact .base (.str _)
  | non => cases e; obtain rfl := l.non; exact .base .non
  | dct ks xs m =>
    cases m with
    | none => cases e
    | some m =>
      cases e
      obtain ⟨a, vs, rfl, _, ha, _⟩ := l.dct D
      cases m with
      | false => exact .base (.dT ha)
      | true => exact .base (.dK ha)
  | tup xs =>
    cases e
    obtain ⟨a, vs, rfl, ha, _⟩ := l.tup
    rcases ha with (ha | ⟨o, ha⟩) | ⟨o, its, n, hk, hc, _⟩
    · exact .base (.tup ha)
    · exact .fTuple ha
    · exact .kTuple hk hc
  | lst xs =>
    cases e
    obtain ⟨a, vs, rfl, _, ha, _⟩ := l.lst D
    exact .base (.lst ha)
  | own xs =>
    cases e
    obtain ⟨a, vs, rfl, _, ha, _⟩ := l.own D
    exact .base (.lst ha)
  | _ => cases e
theorem kit_any (y : Ty) : ∀ ts : List Ty, PySem.W.kitAny X.K (.type (tyName y)) (ts.map fun t => .type (tyName t)) = some (ts.any (isA y))
  | [] => kitAny_nil
  | t :: ts => by
    refine kitAny_cons (kit_name (X := X) y t) (fun h => ?_) (fun h => ?_)
    · rw [kit_any y ts, List.any_cons, h, Bool.false_or]
    · rw [List.any_cons, h, Bool.true_or]
theorem paired_ty : ∀ ts : List Ty, Paired ClsV (ts.map fun t => V.ty (tyName t)) (ts.map fun t => Value.type (tyName t))
  | [] => .nil
  | t :: ts => .cons (.ty _) (paired_ty ts)
end
end Ip

set_option maxHeartbeats 2000000
/-! Ip4: expressions, construct by construct: what the evaluator says of the core, the model says of the text. -/
namespace Ip
open PySem PySem.Spec PyProof.Rows L2

/-- the result may be kept: it is no look at a slot's own list -/
def strong : CE → Bool
  | .view _ => false
  | .ite _ a b => strong a && strong b
  | .and _ b => strong b
  | .or _ b => strong b
  | _ => true

def tE (K : W.Frag) (F : Fns) (c : CE) : TE := fun σ H Q => ∃ f w ρ S, SR K f w σ H ρ S ∧ ∃ t S', evalE F ρ c S = .ok (t, S') ∧
  ∀ v H', SR K f w σ H' ρ S' → Kp w.φ H H' → ER K w.φ w.tot (strong c) H H' t v → Q v H'
def tT (K : W.Frag) (F : Fns) (c : CE) : TT := fun σ H Q => ∃ f w ρ S, SR K f w σ H ρ S ∧ ∃ t S', evalE F ρ c S = .ok (t, S') ∧ ∃ b, truth t = some b ∧
  ∀ H', SR K f w σ H' ρ S' → Kp w.φ H H' → Q b H'
/-- an argument list that is kept -/
def tA (K : W.Frag) (F : Fns) (cs : List CE) : TA := fun σ H Q => ∃ f w ρ S, SR K f w σ H ρ S ∧ ∃ ts S', evalEs F ρ cs S = .ok (ts, S') ∧
  ∀ vs H', SR K f w σ H' ρ S' → Kp w.φ H H' → Reps K H' w.φ w.tot ts vs → Q vs H'
/-- .. that is looked at -/
def tL (K : W.Frag) (F : Fns) (cs : List CE) : TA := fun σ H Q => ∃ f w ρ S, SR K f w σ H ρ S ∧ ∃ ts S', evalEs F ρ cs S = .ok (ts, S') ∧
  ∀ vs H', SR K f w σ H' ρ S' → Kp w.φ H H' → LRs K w.φ w.tot H' ts vs → Q vs H'
def tO (K : W.Frag) (F : Fns) (c : Option CE) : TO := fun σ H Q => ∃ f w ρ S, SR K f w σ H ρ S ∧ ∃ t S', evalO F ρ c S = .ok (t, S') ∧
  ∀ H', SR K f w σ H' ρ S' → Kp w.φ H H' → Q t H'
/-- what a def of the program keeps -/
def sp (K : W.Frag) (F : Fns) (f : Nat) : Sp := fun vs H Q X => ∃ φ E ts S, StR K φ E H S ∧ Reps K H φ E ts vs ∧
  ((∃ t S', F f ts S = .ok (t, S') ∧ ∀ v H', Kp φ H H' → StR K φ E H' S' → ER K φ E true H H' t v → Q v H') ∨
    ∃ c as S', F f ts S = .exc c as S' ∧ ∀ cls d H', Kp φ H H' → StR K φ E H' S' → XR K H' c as cls d → X cls d H')

section
variable {X : Cx}
theorem _root_.L2.PE.mono {e : Expr} {t t' : TE} (h : PE X e t) (m : ∀ σ H Q, t' σ H Q → t σ H Q) : PE X e t' := ⟨fun pins s σ H Q I q => h.run pins s σ H Q I (m σ H Q q)⟩
theorem _root_.L2.PT.mono {e : Expr} {t t' : TT} (h : PT X e t) (m : ∀ σ H Q, t' σ H Q → t σ H Q) : PT X e t' := ⟨fun pins s σ H Q I q => h.run pins s σ H Q I (m σ H Q q)⟩
theorem _root_.L2.PW.mono {e : Expr} {t t' : TT} (h : PW X e t) (m : ∀ σ H Q, t' σ H Q → t σ H Q) : PW X e t' := ⟨fun wh pins s σ H Q I q => h.run wh pins s σ H Q I (m σ H Q q)⟩
theorem _root_.L2.PA.mono {es : List Expr} {t t' : TA} (h : PA X es t) (m : ∀ σ H Q, t' σ H Q → t σ H Q) : PA X es t' := ⟨fun pos pins s σ H Q I q => h.run pos pins s σ H Q I (m σ H Q q)⟩
theorem _root_.L2.PO.mono {e : Option Expr} {t t' : TO} (h : PO X e t) (m : ∀ σ H Q, t' σ H Q → t σ H Q) : PO X e t' := by
  cases h with
  | mk run => exact ⟨fun pins s σ H Q I q => run pins s σ H Q I (m σ H Q q)⟩
end

section
variable {K : W.Frag} {F : Fns} {f : Fm} {w : Wd} {σ : L2.St} {H H' : Hp} {ρ : En} {S S' S'' : Store}
/-- two expressions in a row -/
theorem two {a b : CE} {ta tb : T} {R : V → V → Hp → Prop} (s : SR K f w σ H ρ S) (ea : evalE F ρ a S = .ok (ta, S')) (eb : evalE F ρ b S' = .ok (tb, S''))
    (fin : ∀ x y H2, SR K f w σ H2 ρ S'' → Kp w.φ H H2 → LR K w.φ w.tot H2 ta x → LR K w.φ w.tot H2 tb y → R x y H2) : tE K F a σ H fun x H1 => tE K F b σ H1 fun y H2 => R x y H2 :=
  ⟨f, w, ρ, S, s, ta, S', ea, fun x H1 s1 k1 r1 => ⟨f, w, ρ, S', s1, tb, S'', eb, fun y H2 s2 k2 r2 => fin x y H2 s2 (k1.trans k2) (r1.lr.after s1.st.toDom k2) r2.lr⟩⟩
/-- the end of an operation that makes at most one thing -/
theorem fin_nw {st : Bool} {t : T} {Q : VK} {H1 : Hp} (s1 : SR K f w σ H1 ρ S') (k : Kp w.φ H H1) (q : ∀ v H', SR K f w σ H' ρ S' → Kp w.φ H H' → ER K w.φ w.tot st H H' t v → Q v H') :
    ∀ v H', Nw H1 H' → ER K w.φ w.tot true H1 H' t v → Q v H' := fun v H' n r => q v H' (s1.nw n) (k.trans n.kp) ((r.early k.dom).weak)
end

section
variable {X : Cx} {F : Fns} {a b c : Expr} {ca cb cc : CE} {pos : Pos}
theorem s_cst {e : Expr} {t : T} {v : V} (h : PE X e (tC v)) (r : ∀ H φ E, Rep X.K H φ E t v) : PE X e (tE X.K F (.cst t)) := h.mono fun σ H Q ⟨f, w, ρ, S, s, t', S', e, q⟩ => by
  simp only [evalE, Res.ok.injEq, Prod.mk.injEq] at e
  obtain ⟨rfl, rfl⟩ := e
  exact q v H s (Kp.refl _ _) (.rep (r _ _ _))
theorem s_slot {i : Nat} {e : Expr} (h : PE X e (tVar i)) : PE X e (tE X.K F (.slot i)) := h.mono fun σ H Q ⟨f, w, ρ, S, s, t', S', e, q⟩ => by
  simp only [evalE] at e
  split at e
  · rename_i t ht
    split at e
    · cases e
    · rename_i hn
      cases e
      obtain ⟨v, h1, h2⟩ := s.slots i _ ht
      refine ⟨v, h1, q v H s (Kp.refl _ _) (.rep ?_)⟩
      cases t' <;> first | exact h2 | exact absurd rfl hn
  · cases e
theorem s_view {i : Nat} {e : Expr} (h : PE X e (tVar i)) : PE X e (tE X.K F (.view i)) := h.mono fun σ H Q ⟨f, w, ρ, S, s, t', S', e, q⟩ => by
  simp only [evalE] at e
  split at e
  · rename_i t ht
    cases e
    obtain ⟨v, h1, h2⟩ := s.slots i _ ht
    refine ⟨v, h1, q v H s (Kp.refl _ _) ?_⟩
    cases t with
    | own xs =>
      obtain ⟨a, vs, rfl, m, hq, r⟩ := h2
      exact .look rfl (s.muφ m) hq r
    | odct ks xs =>
      obtain ⟨a, vs, rfl, m, hq, hl, r⟩ := h2
      exact .lookd rfl (s.muφ m) hq hl r
    | _ => exact .rep h2
  · cases e
theorem s_bin {o : BO} (ha : PE X a (tE X.K F ca)) (hb : PE X b (tE X.K F cb)) : PE X (.BinOp a (boOf o) b pos) (tE X.K F (.bin o ca cb)) :=
  (pe_op (op_bop o) ha hb).mono fun σ H Q ⟨f, w, ρ, S, s, t', S', e, q⟩ => by
    simp only [evalE] at e
    obtain ⟨⟨x, S1⟩, e1, e⟩ := Res.bind_ok e
    obtain ⟨⟨y, S2⟩, e2, e⟩ := Res.bind_ok e
    obtain ⟨t, e3, e4⟩ := Res.bind_ok e
    cases e4
    exact two s e1 e2 fun v u H2 s2 k2 r1 r2 => ⟨w.φ, w.tot, x, y, _, s2.st.toDom, r1, r2, Res.of_ok e3, fin_nw s2 k2 q⟩
theorem s_neg (ha : PE X a (tE X.K F ca)) : PE X (.UnaryOp .USub a pos) (tE X.K F (.neg ca)) :=
  (pe_un un_neg ha).mono fun σ H Q ⟨f, w, ρ, S, s, t', S', e, q⟩ => by
    simp only [evalE] at e
    obtain ⟨⟨x, S1⟩, e1, e⟩ := Res.bind_ok e
    simp only at e
    split at e
    · rename_i i
      cases e
      exact ⟨f, w, ρ, S, s, _, _, e1, fun v H1 s1 k1 r1 => ⟨i, r1.lr.int, q _ _ s1 k1 (.rep (by simp only [Rep]))⟩⟩
    · cases e
theorem tru_of {φ : List Addr} {E : Excl} {H : Hp} {t : T} {v : V} {b : Bool} (D : Dom φ E H) (l : LR X.K φ E H t v) (e : truth t = some b) : TruV X.K v H b := by
  have emp : ∀ (xs : List T) (vs : List V), Reps X.K H φ E xs vs → (!xs.isEmpty) = !vs.isEmpty := fun xs vs r => by
    have h := r.len
    cases xs with
    | nil => cases vs with
      | nil => rfl
      | cons a b => cases h
    | cons c d => cases vs with
      | nil => cases h
      | cons a b => rfl
  cases t with
  | non => cases e; obtain rfl := l.non; exact rfl
  | bl k => cases e; obtain rfl := l.bl; exact rfl
  | int i => cases e; obtain rfl := l.int; exact rfl
  | tup xs =>
    cases e
    obtain ⟨a, vs, rfl, ha, ra⟩ := l.tup
    exact .inr (.inl ⟨vs, ha, emp _ _ ra⟩)
  | lst xs =>
    cases e
    obtain ⟨a, vs, rfl, _, ha, ra⟩ := l.lst D
    exact .inl ⟨vs, SqL.of ha, emp _ _ ra⟩
  | own xs =>
    cases e
    obtain ⟨a, vs, rfl, _, ha, ra⟩ := l.own D
    exact .inl ⟨vs, SqL.of ha, emp _ _ ra⟩
  | _ => cases e
theorem s_not (ha : PE X a (tE X.K F ca)) : PE X (.UnaryOp .Not a pos) (tE X.K F (.not ca)) :=
  (pe_notT ha).mono fun σ H Q ⟨f, w, ρ, S, s, t', S', e, q⟩ => by
    simp only [evalE] at e
    obtain ⟨⟨x, S1⟩, e1, e⟩ := Res.bind_ok e
    obtain ⟨k, e2, e⟩ := Res.bind_ok e
    cases e
    exact ⟨f, w, ρ, S, s, _, _, e1, fun v H1 s1 k1 r1 => ⟨k, tru_of s1.st.toDom r1.lr (Res.of_ok e2), q _ _ s1 k1 (.rep (by simp only [Rep]))⟩⟩
/-- a test by its value's truth -/
theorem s_test (ha : PE X a (tE X.K F ca)) (he : ∀ whole, isTrue a X.env whole = (do let v ← whole; standAt a.pos; holding [v] (truthy v))) : PT X a (tT X.K F ca) :=
  (pt_truth ha he).mono fun σ H Q ⟨f, w, ρ, S, s, t', S', e, b, tb, q⟩ =>
    ⟨f, w, ρ, S, s, t', S', e, fun v H1 s1 k1 r1 => ⟨b, tru_of s1.st.toDom r1.lr tb, q H1 s1 k1⟩⟩
/-- a comparison, by its rule -/
theorem s_cmpG {op : CmpOp} {g : T → T → Option Bool} {cm : CE} (ho : OpR X (compareOp op) (rT2 X.K (bT g))) (hm : behindInMarks op b = false) (ha : PE X a (tE X.K F ca)) (hb : PE X b (tE X.K F cb))
    (ev : ∀ ρ S t S', evalE F ρ cm S = .ok (t, S') → ∃ x S1 y k, evalE F ρ ca S = .ok (x, S1) ∧ evalE F ρ cb S1 = .ok (y, S') ∧ g x y = some k ∧ t = .bl k) (hs : strong cm = true) :
    PE X (.Compare a [op] [b] pos) (tE X.K F cm) ∧ PT X (.Compare a [op] [b] pos) (tT X.K F cm) := by
  refine ⟨(pe_cmpR ho ha hb hm).mono fun σ H Q ⟨f, w, ρ, S, s, t', S', e, q⟩ => ?_, (pt_cmpR ho ha hb hm).mono fun σ H Q ⟨f, w, ρ, S, s, t', S', e, bb, tb, q⟩ => ?_⟩
  · obtain ⟨x, S1, y, k, e1, e2, e3, rfl⟩ := ev _ _ _ _ e
    exact two s e1 e2 fun v u H2 s2 k2 r1 r2 => ⟨w.φ, w.tot, x, y, .bl k, s2.st.toDom, r1, r2, by simp only [bT, e3, Option.map_some], fin_nw s2 k2 q⟩
  · obtain ⟨x, S1, y, k, e1, e2, e3, rfl⟩ := ev _ _ _ _ e
    cases tb
    refine two s e1 e2 fun v u H2 s2 k2 r1 r2 => ⟨w.φ, w.tot, x, y, .bl bb, s2.st.toDom, r1, r2, by simp only [bT, e3, Option.map_some], fun z H' n r => ⟨bb, r.lr.bl, q H' (s2.nw n) (k2.trans n.kp)⟩⟩
theorem s_cmp (hu : X.A.units + 64 < cLine) (o : CO) (ha : PE X a (tE X.K F ca)) (hb : PE X b (tE X.K F cb)) : PE X (.Compare a [coOf o] [b] pos) (tE X.K F (.cmp o ca cb)) ∧ PT X (.Compare a [coOf o] [b] pos) (tT X.K F (.cmp o ca cb)) := by
  refine s_cmpG (op_cop hu o) (nomark _ (by cases o <;> decide) (by cases o <;> decide)) ha hb (fun ρ S t S' e => ?_) rfl
  simp only [evalE] at e
  obtain ⟨⟨x, S1⟩, e1, e⟩ := Res.bind_ok e
  obtain ⟨⟨y, S2⟩, e2, e⟩ := Res.bind_ok e
  obtain ⟨k, e3, e4⟩ := Res.bind_ok e
  cases e4
  exact ⟨x, S1, y, k, e1, e2, Res.of_ok e3, rfl⟩
theorem s_in (hu : X.A.units + 65 < cLine) (hm : behindInMarks .In b = false) (ha : PE X a (tE X.K F ca)) (hb : PE X b (tE X.K F cb)) : PE X (.Compare a [.In] [b] pos) (tE X.K F (.isin false ca cb)) ∧ PT X (.Compare a [.In] [b] pos) (tT X.K F (.isin false ca cb)) := by
  refine s_cmpG (op_inT hu) hm ha hb (fun ρ S t S' e => ?_) rfl
  simp only [evalE] at e
  obtain ⟨⟨x, S1⟩, e1, e⟩ := Res.bind_ok e
  obtain ⟨⟨y, S2⟩, e2, e⟩ := Res.bind_ok e
  obtain ⟨k, e3, e4⟩ := Res.bind_ok e
  cases e4
  exact ⟨x, S1, y, k, e1, e2, Res.of_ok e3, by simp⟩
theorem s_nin (hu : X.A.units + 65 < cLine) (hm : behindInMarks .NotIn b = false) (ha : PE X a (tE X.K F ca)) (hb : PE X b (tE X.K F cb)) : PE X (.Compare a [.NotIn] [b] pos) (tE X.K F (.isin true ca cb)) ∧ PT X (.Compare a [.NotIn] [b] pos) (tT X.K F (.isin true ca cb)) := by
  refine s_cmpG (op_ninT hu) hm ha hb (fun ρ S t S' e => ?_) rfl
  simp only [evalE] at e
  obtain ⟨⟨x, S1⟩, e1, e⟩ := Res.bind_ok e
  obtain ⟨⟨y, S2⟩, e2, e⟩ := Res.bind_ok e
  obtain ⟨k, e3, e4⟩ := Res.bind_ok e
  cases e4
  exact ⟨x, S1, y, !k, e1, e2, by simp only [Res.of_ok e3, Option.map_some], by simp⟩
theorem non_of {φ : List Addr} {E : Excl} {H : Hp} {t : T} {v : V} (l : LR X.K φ E H t v) : decide (v = .non) = isNon t := by
  obtain ⟨_, l⟩ := l
  cases l with
  | rep r =>
    cases t <;> simp only [Rep] at r
    · subst r; rfl
    · subst r; rfl
    · subst r; rfl
    · subst r; rfl
    all_goals
      first
      | (obtain ⟨a, rfl, _⟩ := r; rfl)
      | (obtain ⟨a, vs, rfl, _⟩ := r; rfl)
      | (obtain ⟨a, vs, d, rfl, _⟩ := r; rfl)
  | new => rfl
  | look => rfl
  | newd => rfl
  | lookd => rfl
theorem s_isN {j : Nat} {pos' : Pos} (ha : PE X a (tE X.K F ca)) : PE X (.Compare a [.Is] [.Constant .none j pos'] pos) (tE X.K F (.isN false ca)) ∧ PT X (.Compare a [.Is] [.Constant .none j pos'] pos) (tT X.K F (.isN false ca)) := by
  refine ⟨(pe_cmp (pc_isN ha)).mono fun σ H Q ⟨f, w, ρ, S, s, t', S', e, q⟩ => ?_, (pt_cmp (pc_isN ha)).mono fun σ H Q ⟨f, w, ρ, S, s, t', S', e, bb, tb, q⟩ => ?_⟩
  · simp only [evalE] at e
    obtain ⟨⟨x, S1⟩, e1, e⟩ := Res.bind_ok e
    cases e
    refine ⟨f, w, ρ, S, s, _, _, e1, fun v H1 s1 k1 r1 => ?_⟩
    dsimp only
    rw [non_of r1.lr]
    exact q _ _ s1 k1 (.rep (by simp only [Rep]; rfl))
  · simp only [evalE] at e
    obtain ⟨⟨x, S1⟩, e1, e⟩ := Res.bind_ok e
    cases e
    cases tb
    refine ⟨f, w, ρ, S, s, _, _, e1, fun v H1 s1 k1 r1 => ?_⟩
    dsimp only
    rw [non_of r1.lr]
    exact ⟨_, rfl, q _ s1 k1⟩
theorem s_notN {j : Nat} {pos' : Pos} (ha : PE X a (tE X.K F ca)) : PE X (.Compare a [.IsNot] [.Constant .none j pos'] pos) (tE X.K F (.isN true ca)) ∧ PT X (.Compare a [.IsNot] [.Constant .none j pos'] pos) (tT X.K F (.isN true ca)) := by
  refine ⟨(pe_cmp (pc_notN ha)).mono fun σ H Q ⟨f, w, ρ, S, s, t', S', e, q⟩ => ?_, (pt_cmp (pc_notN ha)).mono fun σ H Q ⟨f, w, ρ, S, s, t', S', e, bb, tb, q⟩ => ?_⟩
  · simp only [evalE] at e
    obtain ⟨⟨x, S1⟩, e1, e⟩ := Res.bind_ok e
    cases e
    refine ⟨f, w, ρ, S, s, _, _, e1, fun v H1 s1 k1 r1 => ?_⟩
    dsimp only
    rw [non_of r1.lr]
    exact q _ _ s1 k1 (.rep (by simp only [Rep]; rfl))
  · simp only [evalE] at e
    obtain ⟨⟨x, S1⟩, e1, e⟩ := Res.bind_ok e
    cases e
    cases tb
    refine ⟨f, w, ρ, S, s, _, _, e1, fun v H1 s1 k1 r1 => ?_⟩
    dsimp only
    rw [non_of r1.lr]
    exact ⟨_, rfl, q _ s1 k1⟩
theorem op_isB : OpR X (compareOp .Is) (rT2 X.K (bT fun x y => match x, y with | .bl p, .bl q => some (decide (p = q)) | _, _ => none)) := by
  intro pins s σ H x y v u Q I rx ry h
  obtain ⟨φ, E, tx, ty, r, d, lx, ly, e, q⟩ := h
  simp only [bT, Option.map_eq_some_iff] at e
  obtain ⟨b, e, rfl⟩ := e
  split at e
  · cases e
    exact op_is_bl pins s σ H x y v u Q I rx ry ⟨_, _, lx.bl, ly.bl, fin_bl q⟩
  · cases e
theorem op_isnB : OpR X (compareOp .IsNot) (rT2 X.K (bT fun x y => match x, y with | .bl p, .bl q => some (!decide (p = q)) | _, _ => none)) := by
  intro pins s σ H x y v u Q I rx ry h
  obtain ⟨φ, E, tx, ty, r, d, lx, ly, e, q⟩ := h
  simp only [bT, Option.map_eq_some_iff] at e
  obtain ⟨b, e, rfl⟩ := e
  split at e
  · cases e
    exact op_isnot_bl pins s σ H x y v u Q I rx ry ⟨_, _, lx.bl, ly.bl, fin_bl q⟩
  · cases e
theorem s_isB (ha : PE X a (tE X.K F ca)) (hb : PE X b (tE X.K F cb)) : PE X (.Compare a [.Is] [b] pos) (tE X.K F (.isB false ca cb)) ∧ PT X (.Compare a [.Is] [b] pos) (tT X.K F (.isB false ca cb)) := by
  refine s_cmpG op_isB (nomark _) ha hb (fun ρ S t S' e => ?_) rfl
  simp only [evalE] at e
  obtain ⟨⟨x, S1⟩, e1, e⟩ := Res.bind_ok e
  obtain ⟨⟨y, S2⟩, e2, e⟩ := Res.bind_ok e
  simp only at e
  split at e
  · cases e
    exact ⟨_, S1, _, _, e1, e2, rfl, by simp⟩
  · cases e
theorem s_isnB (ha : PE X a (tE X.K F ca)) (hb : PE X b (tE X.K F cb)) : PE X (.Compare a [.IsNot] [b] pos) (tE X.K F (.isB true ca cb)) ∧ PT X (.Compare a [.IsNot] [b] pos) (tT X.K F (.isB true ca cb)) := by
  refine s_cmpG op_isnB (nomark _) ha hb (fun ρ S t S' e => ?_) rfl
  simp only [evalE] at e
  obtain ⟨⟨x, S1⟩, e1, e⟩ := Res.bind_ok e
  obtain ⟨⟨y, S2⟩, e2, e⟩ := Res.bind_ok e
  simp only at e
  split at e
  · cases e
    exact ⟨_, S1, _, _, e1, e2, rfl, by simp⟩
  · cases e
/-- a op b op c -/
theorem s_chain (hu : X.A.units + 64 < cLine) (o o' : CO) (ha : PE X a (tE X.K F ca)) (hb : PE X b (tE X.K F cb)) (hc : PE X c (tE X.K F cc)) :
    PE X (.Compare a [coOf o, coOf o'] [b, c] pos) (tE X.K F (.chain o o' ca cb cc)) ∧ PT X (.Compare a [coOf o, coOf o'] [b, c] pos) (tT X.K F (.chain o o' ca cb cc)) := by
  have hm : lastMarks [coOf o, coOf o'] [b, c] = false := by
    show behindInMarks (coOf o') c = false
    exact nomark _ (by cases o' <;> decide) (by cases o' <;> decide)
  have key : ∀ (Z : VK) σ H (f : Fm) (w : Wd) (ρ : En) (S : Store) (t : T) (S' : Store), SR X.K f w σ H ρ S → evalE F ρ (.chain o o' ca cb cc) S = .ok (t, S') →
      (∀ v H', SR X.K f w σ H' ρ S' → Kp w.φ H H' → LR X.K w.φ w.tot H' t v → Z v H') → tChain (rT2 X.K (bT (cop o))) (rT2 X.K (bT (cop o'))) (tE X.K F ca) (tE X.K F cb) (tE X.K F cc) σ H Z := by
    intro Z σ H f w ρ S t S' s e q
    simp only [evalE] at e
    obtain ⟨⟨x, S1⟩, e1, e⟩ := Res.bind_ok e
    obtain ⟨⟨y, S2⟩, e2, e⟩ := Res.bind_ok e
    obtain ⟨k, e3, e⟩ := Res.bind_ok e
    refine two s e1 e2 fun v u H2 s2 k2 r1 r2 => ⟨w.φ, w.tot, x, y, .bl k, s2.st.toDom, r1, r2, by simp only [bT, Res.of_ok e3, Option.map_some], fun z H3 n3 r3 => ⟨k, r3.lr.bl, ?_⟩⟩
    have s3 := s2.nw n3
    cases k with
    | false =>
      cases e
      exact iteF (q _ _ s3 (k2.trans n3.kp) ⟨H3, .rep (by simp only [Rep])⟩)
    | true =>
      simp only [if_true] at e
      obtain ⟨⟨z', S3⟩, e4, e⟩ := Res.bind_ok e
      obtain ⟨k', e5, e⟩ := Res.bind_ok e
      cases e
      refine iteT ⟨f, w, ρ, S2, s3, z', _, e4, fun v3 H4 s4 k4 r4 => ⟨w.φ, w.tot, y, z', .bl k', s4.st.toDom, (r2.after s2.st.toDom n3.kp).after s3.st.toDom k4, r4.lr, by simp only [bT, Res.of_ok e5, Option.map_some], fun z5 H5 n5 r5 => ?_⟩⟩
      exact q _ _ (s4.nw n5) ((k2.trans n3.kp).trans (k4.trans n5.kp)) r5.lr
  refine ⟨(pe_chain (op_cop hu o) (op_cop hu o') ha hb hc hm).mono fun σ H Q ⟨f, w, ρ, S, s, t', S', e, q⟩ => key Q σ H f w ρ S t' S' s e fun v H' s' k' r' => ?_,
    (pt_chain (op_cop hu o) (op_cop hu o') ha hb hc hm).mono fun σ H Q ⟨f, w, ρ, S, s, t', S', e, bb, tb, q⟩ => key _ σ H f w ρ S t' S' s e fun v H' s' k' r' => ?_⟩
  all_goals
    have hb : ∃ k, t' = .bl k := by
      simp only [evalE] at e
      obtain ⟨⟨x, S1⟩, e1, e⟩ := Res.bind_ok e
      obtain ⟨⟨y, S2⟩, e2, e⟩ := Res.bind_ok e
      obtain ⟨k, e3, e⟩ := Res.bind_ok e
      cases k with
      | false => cases e; exact ⟨_, rfl⟩
      | true =>
        simp only [if_true] at e
        obtain ⟨⟨z', S3⟩, e4, e⟩ := Res.bind_ok e
        obtain ⟨k', e5, e⟩ := Res.bind_ok e
        cases e
        exact ⟨_, rfl⟩
    obtain ⟨k, rfl⟩ := hb
    have ev := r'.bl
    subst ev
  · exact q _ _ s' k' (.rep (by simp only [Rep]))
  · cases tb
    exact ⟨_, rfl, q _ s' k'⟩

/-! ### and, or, if -/
theorem s_and {rest : List Expr} (ha : PE X a (tE X.K F ca)) (hb : PE X (.BoolOp .And (b :: rest) pos) (tE X.K F cb)) : PE X (.BoolOp .And (a :: b :: rest) pos) (tE X.K F (.and ca cb)) :=
  (pe_andT ha hb).mono fun σ H Q ⟨f, w, ρ, S, s, t', S', e, q⟩ => by
    simp only [evalE] at e
    obtain ⟨⟨x, S1⟩, e1, e⟩ := Res.bind_ok e
    simp only at e
    split at e
    · exact ⟨f, w, ρ, S, s, _, _, e1, fun v H1 s1 k1 r1 => ⟨true, by rw [r1.lr.bl]; rfl, iteT ⟨f, w, ρ, S1, s1, t', S', e, fun v2 H2 s2 k2 r2 => q v2 H2 s2 (k1.trans k2) (r2.early k1.dom)⟩⟩⟩
    · cases e
      exact ⟨f, w, ρ, S, s, _, _, e1, fun v H1 s1 k1 r1 => ⟨false, by rw [r1.lr.bl]; rfl, iteF (by rw [r1.lr.bl]; exact q _ _ s1 k1 (.rep (by simp only [Rep])))⟩⟩
    · rename_i i
      by_cases z : i = 0
      · rw [if_pos z] at e
        cases e
        exact ⟨f, w, ρ, S, s, _, _, e1, fun v H1 s1 k1 r1 => ⟨false, by rw [r1.lr.int, z]; rfl, iteF (by rw [r1.lr.int]; exact q _ _ s1 k1 (.rep (by simp only [Rep])))⟩⟩
      · rw [if_neg z] at e
        exact ⟨f, w, ρ, S, s, _, _, e1, fun v H1 s1 k1 r1 => ⟨true, by rw [r1.lr.int]; simp [TruV, z], iteT ⟨f, w, ρ, S1, s1, t', S', e, fun v2 H2 s2 k2 r2 => q v2 H2 s2 (k1.trans k2) (r2.early k1.dom)⟩⟩⟩
    · cases e
theorem s_or {rest : List Expr} (ha : PE X a (tE X.K F ca)) (hb : PE X (.BoolOp .Or (b :: rest) pos) (tE X.K F cb)) : PE X (.BoolOp .Or (a :: b :: rest) pos) (tE X.K F (.or ca cb)) :=
  (pe_orT ha hb).mono fun σ H Q ⟨f, w, ρ, S, s, t', S', e, q⟩ => by
    simp only [evalE] at e
    obtain ⟨⟨x, S1⟩, e1, e⟩ := Res.bind_ok e
    simp only at e
    split at e
    · cases e
      exact ⟨f, w, ρ, S, s, _, _, e1, fun v H1 s1 k1 r1 => ⟨true, by rw [r1.lr.bl]; rfl, iteT (by rw [r1.lr.bl]; exact q _ _ s1 k1 (.rep (by simp only [Rep])))⟩⟩
    · exact ⟨f, w, ρ, S, s, _, _, e1, fun v H1 s1 k1 r1 => ⟨false, by rw [r1.lr.bl]; rfl, iteF ⟨f, w, ρ, S1, s1, t', S', e, fun v2 H2 s2 k2 r2 => q v2 H2 s2 (k1.trans k2) (r2.early k1.dom)⟩⟩⟩
    · rename_i i
      by_cases z : i = 0
      · rw [if_pos z] at e
        exact ⟨f, w, ρ, S, s, _, _, e1, fun v H1 s1 k1 r1 => ⟨false, by rw [r1.lr.int, z]; rfl, iteF ⟨f, w, ρ, S1, s1, t', S', e, fun v2 H2 s2 k2 r2 => q v2 H2 s2 (k1.trans k2) (r2.early k1.dom)⟩⟩⟩
      · rw [if_neg z] at e
        cases e
        exact ⟨f, w, ρ, S, s, _, _, e1, fun v H1 s1 k1 r1 => ⟨true, by rw [r1.lr.int]; simp [TruV, z], iteT (by rw [r1.lr.int]; exact q _ _ s1 k1 (.rep (by simp only [Rep])))⟩⟩
    · cases e
theorem w_and {rest : List Expr} (ha : PT X a (tT X.K F ca)) (hb : PW X (.BoolOp .And (b :: rest) pos) (tT X.K F cb)) : PW X (.BoolOp .And (a :: b :: rest) pos) (tT X.K F (.and ca cb)) :=
  (pw_and ha hb).mono fun σ H Q ⟨f, w, ρ, S, s, t', S', e, bb, tb, q⟩ => by
    simp only [evalE] at e
    obtain ⟨⟨x, S1⟩, e1, e⟩ := Res.bind_ok e
    simp only at e
    split at e
    · exact ⟨f, w, ρ, S, s, _, _, e1, true, rfl, fun H1 s1 k1 => iteT ⟨f, w, ρ, S1, s1, t', S', e, bb, tb, fun H2 s2 k2 => q H2 s2 (k1.trans k2)⟩⟩
    · cases e
      cases tb
      exact ⟨f, w, ρ, S, s, _, _, e1, false, rfl, fun H1 s1 k1 => iteF (q _ s1 k1)⟩
    · rename_i i
      by_cases z : i = 0
      · rw [if_pos z] at e
        cases e
        exact ⟨f, w, ρ, S, s, _, _, e1, false, by simp [truth, z], fun H1 s1 k1 => iteF (by
          have : bb = false := by simpa [truth, z] using tb.symm
          subst this
          exact q _ s1 k1)⟩
      · rw [if_neg z] at e
        exact ⟨f, w, ρ, S, s, _, _, e1, true, by simp [truth, z], fun H1 s1 k1 => iteT ⟨f, w, ρ, S1, s1, t', S', e, bb, tb, fun H2 s2 k2 => q H2 s2 (k1.trans k2)⟩⟩
    · cases e
theorem w_or {rest : List Expr} (ha : PT X a (tT X.K F ca)) (hb : PW X (.BoolOp .Or (b :: rest) pos) (tT X.K F cb)) : PW X (.BoolOp .Or (a :: b :: rest) pos) (tT X.K F (.or ca cb)) :=
  (pw_or ha hb).mono fun σ H Q ⟨f, w, ρ, S, s, t', S', e, bb, tb, q⟩ => by
    simp only [evalE] at e
    obtain ⟨⟨x, S1⟩, e1, e⟩ := Res.bind_ok e
    simp only at e
    split at e
    · cases e
      cases tb
      exact ⟨f, w, ρ, S, s, _, _, e1, true, rfl, fun H1 s1 k1 => iteT (q _ s1 k1)⟩
    · exact ⟨f, w, ρ, S, s, _, _, e1, false, rfl, fun H1 s1 k1 => iteF ⟨f, w, ρ, S1, s1, t', S', e, bb, tb, fun H2 s2 k2 => q H2 s2 (k1.trans k2)⟩⟩
    · rename_i i
      by_cases z : i = 0
      · rw [if_pos z] at e
        exact ⟨f, w, ρ, S, s, _, _, e1, false, by simp [truth, z], fun H1 s1 k1 => iteF ⟨f, w, ρ, S1, s1, t', S', e, bb, tb, fun H2 s2 k2 => q H2 s2 (k1.trans k2)⟩⟩
      · rw [if_neg z] at e
        cases e
        exact ⟨f, w, ρ, S, s, _, _, e1, true, by simp [truth, z], fun H1 s1 k1 => iteT (by
          have : bb = true := by
            have h2 := tb
            simp only [truth, Option.some.injEq] at h2
            rw [← h2]
            simp [z]
          subst this
          exact q _ s1 k1)⟩
    · cases e
theorem t_not (ha : PT X a (tT X.K F ca)) : PT X (.UnaryOp .Not a pos) (tT X.K F (.not ca)) :=
  (pt_not ha).mono fun σ H Q ⟨f, w, ρ, S, s, t', S', e, bb, tb, q⟩ => by
    simp only [evalE] at e
    obtain ⟨⟨x, S1⟩, e1, e⟩ := Res.bind_ok e
    obtain ⟨k, e2, e⟩ := Res.bind_ok e
    cases e
    cases tb
    exact ⟨f, w, ρ, S, s, _, _, e1, k, Res.of_ok e2, fun H1 s1 k1 => q H1 s1 k1⟩
theorem ER.strongOr {K : W.Frag} {φ : List Addr} {E : Excl} {st st' : Bool} {Hb H : Hp} {t : T} {v : V} (e : ER K φ E st Hb H t v) (h : st' = true → st = true) : ER K φ E st' Hb H t v := by
  cases e with
  | rep r => exact .rep r
  | new n hb h r => exact .new n hb h r
  | look h1 h2 hq r =>
    refine .look ?_ h2 hq r
    cases st' with
    | false => rfl
    | true => rw [h rfl] at h1; cases h1
  | newd n hb h hl r => exact .newd n hb h hl r
  | lookd h1 h2 hq hl r =>
    refine .lookd ?_ h2 hq hl r
    cases st' with
    | false => rfl
    | true => rw [h rfl] at h1; cases h1
theorem s_ite (hc : PT X c (tT X.K F cc)) (ha : PE X a (tE X.K F ca)) (hb : PE X b (tE X.K F cb)) : PE X (.IfExp c a b pos) (tE X.K F (.ite cc ca cb)) :=
  (pe_ifExp hc ha hb).mono fun σ H Q ⟨f, w, ρ, S, s, t', S', e, q⟩ => by
    simp only [evalE] at e
    obtain ⟨⟨x, S1⟩, e1, e⟩ := Res.bind_ok e
    obtain ⟨k, e2, e⟩ := Res.bind_ok e
    refine ⟨f, w, ρ, S, s, _, _, e1, k, Res.of_ok e2, fun H1 s1 k1 => ?_⟩
    cases k with
    | true =>
      refine iteT ⟨f, w, ρ, S1, s1, t', S', e, fun v2 H2 s2 k2 r2 => q v2 H2 s2 (k1.trans k2) ((r2.early k1.dom).strongOr fun z => ?_)⟩
      simp only [strong, Bool.and_eq_true] at z
      exact z.1
    | false =>
      refine iteF ⟨f, w, ρ, S1, s1, t', S', e, fun v2 H2 s2 k2 r2 => q v2 H2 s2 (k1.trans k2) ((r2.early k1.dom).strongOr fun z => ?_)⟩
      simp only [strong, Bool.and_eq_true] at z
      exact z.2
end

/-! ### argument lists -/
def plainArg : Expr → Bool
  | .Starred _ _ => false
  | _ => true
theorem star_plain {e : Expr} {es : List Expr} {env : Env} (h : plainArg e = true) : starEach (e :: es) env = (false, eval e env) :: starEach es env := by
  cases e <;> first | rfl | cases h
theorem star_any : ∀ {es : List Expr} {pos : Pos} {env : Env}, es.all plainArg = true → (backTo pos (starEach es env)).any (·.1) = false
  | [], _, _, _ => rfl
  | e :: es, pos, env, h => by
    simp only [List.all_cons, Bool.and_eq_true] at h
    rw [star_plain h.1]
    show (false || (backTo pos (starEach es env)).any (·.1)) = false
    rw [star_any h.2]; rfl
section
variable {X : Cx} {F : Fns} {e : Expr} {es : List Expr} {c : CE} {cs : List CE} {pos : Pos}
theorem s_anil : PA X [] (tA X.K F []) := pa_nil.mono fun σ H Q ⟨f, w, ρ, S, s, t', S', e, q⟩ => by
  simp only [evalEs, Res.ok.injEq, Prod.mk.injEq] at e
  obtain ⟨rfl, rfl⟩ := e
  exact q [] H s (Kp.refl _ _) Reps.nil
theorem s_acons (ha : PE X e (tE X.K F c)) (hs : strong c = true) (hr : PA X es (tA X.K F cs)) (hp : plainArg e = true) : PA X (e :: es) (tA X.K F (c :: cs)) :=
  (pa_cons ha hr (star_plain hp)).mono fun σ H Q ⟨f, w, ρ, S, s, t', S', e, q⟩ => by
    simp only [evalEs] at e
    obtain ⟨⟨x, S1⟩, e1, e⟩ := Res.bind_ok e
    obtain ⟨⟨y, S2⟩, e2, e⟩ := Res.bind_ok e
    cases e
    refine ⟨f, w, ρ, S, s, _, _, e1, fun v H1 s1 k1 r1 => ⟨f, w, ρ, S1, s1, _, _, e2, fun vs H2 s2 k2 r2 => q _ _ s2 (k1.trans k2) ?_⟩⟩
    rw [hs] at r1
    exact Reps.cons (Rep.grow (s1.grow k2) (List.prefix_refl _) _ _ r1.view) r2
theorem s_lnil : PA X [] (tL X.K F []) := pa_nil.mono fun σ H Q ⟨f, w, ρ, S, s, t', S', e, q⟩ => by
  simp only [evalEs, Res.ok.injEq, Prod.mk.injEq] at e
  obtain ⟨rfl, rfl⟩ := e
  exact q [] H s (Kp.refl _ _) rfl
theorem LR.view {K : W.Frag} {φ : List Addr} {E : Excl} {H : Hp} {t : T} {v : V} (D : Dom φ E H) (l : LR K φ E H t v) : LR K φ E H t.view v := by
  cases t with
  | own xs =>
    obtain ⟨a, vs, rfl, n, h, r⟩ := l.own D
    exact ⟨H, .look rfl n h r⟩
  | odct ks xs =>
    obtain ⟨_, l⟩ := l
    cases l with
    | rep r => simp only [Rep] at r
    | newd n hb h hl r => exact ⟨H, .lookd rfl (fun z => n (D.pe _ z)) h hl (r.grow plus1_less (List.prefix_refl _) _ _)⟩
  | _ => exact l
theorem s_lcons (ha : PE X e (tE X.K F c)) (hr : PA X es (tL X.K F cs)) (hp : plainArg e = true) : PA X (e :: es) (tL X.K F (c :: cs)) :=
  (pa_cons ha hr (star_plain hp)).mono fun σ H Q ⟨f, w, ρ, S, s, t', S', e, q⟩ => by
    simp only [evalEs] at e
    obtain ⟨⟨x, S1⟩, e1, e⟩ := Res.bind_ok e
    obtain ⟨⟨y, S2⟩, e2, e⟩ := Res.bind_ok e
    cases e
    exact ⟨f, w, ρ, S, s, _, _, e1, fun v H1 s1 k1 r1 => ⟨f, w, ρ, S1, s1, _, _, e2, fun vs H2 s2 k2 r2 => q _ _ s2 (k1.trans k2) ⟨v, vs, rfl, (LR.view s1.st.toDom r1.lr).after s1.st.toDom k2, r2⟩⟩⟩
theorem evalEs_len {F : Fns} {ρ : En} : ∀ {cs : List CE} {S S' : Store} {ts : List T}, evalEs F ρ cs S = .ok (ts, S') → ts.length = cs.length
  | [], S, S', ts, e => by simp only [evalEs, Res.ok.injEq, Prod.mk.injEq] at e; obtain ⟨rfl, rfl⟩ := e; rfl
  | c :: cs, S, S', ts, e => by
    simp only [evalEs] at e
    obtain ⟨⟨x, S1⟩, e1, e⟩ := Res.bind_ok e
    obtain ⟨⟨y, S2⟩, e2, e⟩ := Res.bind_ok e
    cases e
    simp [evalEs_len e2]
/-- displays -/
theorem s_tup {k : Nat} (h : PA X es (tA X.K F cs)) (hl : cs.length ≤ 1000) : PE X (.Tuple es k pos) (tE X.K F (.tup cs)) :=
  (pe_tup h).mono fun σ H Q ⟨f, w, ρ, S, s, t', S', e, q⟩ => by
    simp only [evalE] at e
    obtain ⟨⟨ts, S1⟩, e1, e⟩ := Res.bind_ok e
    cases e
    refine ⟨f, w, ρ, S, s, _, _, e1, fun vs H1 s1 k1 r1 => ⟨by rw [← r1.len, evalEs_len e1, sizeLine_eq]; omega, fun p hp => ?_⟩⟩
    exact fin_tup s1.st.toDom (fin_nw s1 k1 q) hp r1
theorem s_lst (h : PA X es (tA X.K F cs)) (hl : cs.length ≤ 1000) : PE X (.List es pos) (tE X.K F (.lst cs)) :=
  (pe_lst h).mono fun σ H Q ⟨f, w, ρ, S, s, t', S', e, q⟩ => by
    simp only [evalE] at e
    obtain ⟨⟨ts, S1⟩, e1, e⟩ := Res.bind_ok e
    cases e
    refine ⟨f, w, ρ, S, s, _, _, e1, fun vs H1 s1 k1 r1 => ⟨by rw [← r1.len, evalEs_len e1, sizeLine_eq]; omega, fun p hp => ?_⟩⟩
    exact fin_own s1.st.toDom (fin_nw s1 k1 q) hp r1
/-- built-in functions, built-in classes called -/
theorem s_primB {x : Str} {id : String} {p : PR} {pp : Pos} (hc : CallR X (.builtin id) (rPr X.K p)) (hg : Gl X x) (hm : X.mg x = none) (hv : bootBuiltins x = some (.builtin id)) (ha : PA X (e :: es) (tL X.K F cs))
    (hn : x ≠ "__name__") (hdb : (x == ("__debug__" : Str)) = false) (hp : (e :: es).all plainArg = true) : PE X (.Call (.Name x pp) (e :: es) [] pos) (tE X.K F (.prim p cs)) := by
  simp only [List.all_cons, Bool.and_eq_true] at hp
  exact (pe_callB hc hg hm hv ha hn hdb (star_plain hp.1) (star_any hp.2)).mono fun σ H Q ⟨f, w, ρ, S, s, t', S', e, q⟩ => by
    simp only [evalE] at e
    obtain ⟨⟨ts, S1⟩, e1, e⟩ := Res.bind_ok e
    obtain ⟨t, e2, e⟩ := Res.bind_ok e
    cases e
    exact ⟨f, w, ρ, S, s, _, _, e1, fun vs H1 s1 k1 r1 => ⟨w.φ, w.tot, _, ts, _, s1.st, r1, Res.of_ok e2, fin_nw s1 k1 q⟩⟩
theorem s_primT {x : Str} {id : String} {p : PR} {pp : Pos} (hc : CallR X (.type id) (rPr X.K p)) (hg : Gl X x) (hm : X.mg x = none) (hv : bootBuiltins x = some (.type id)) (ha : PA X (e :: es) (tL X.K F cs))
    (hn : x ≠ "__name__") (hdb : (x == ("__debug__" : Str)) = false) (hp : (e :: es).all plainArg = true) : PE X (.Call (.Name x pp) (e :: es) [] pos) (tE X.K F (.prim p cs)) := by
  simp only [List.all_cons, Bool.and_eq_true] at hp
  exact (pe_callTy hc hg hm hv ha hn hdb (star_plain hp.1) (star_any hp.2)).mono fun σ H Q ⟨f, w, ρ, S, s, t', S', e, q⟩ => by
    simp only [evalE] at e
    obtain ⟨⟨ts, S1⟩, e1, e⟩ := Res.bind_ok e
    obtain ⟨t, e2, e⟩ := Res.bind_ok e
    cases e
    exact ⟨f, w, ρ, S, s, _, _, e1, fun vs H1 s1 k1 r1 => ⟨w.φ, w.tot, _, ts, _, s1.st, r1, Res.of_ok e2, fin_nw s1 k1 q⟩⟩
/-- a def of the program -/
theorem s_call {n g : Nat} {x : Str} {fa : Addr} {fd : FuncData} {ps : List Str} {pp : Pos} (FO : FnOk X.prog X.w X.K X.mg X.base (L2.CX X.prog X.w) n fa fd ps (sp X.K F g)) (hr : Room n X.A) (hg : Gl X x) (hm : X.mg x = some (.ref fa)) (hk : PySem.W.keepIn X.K (.ref fa) = true)
    (hb : Binds X.K fd ps []) (ha : PA X (e :: es) (tA X.K F cs)) (hdb : (x == ("__debug__" : Str)) = false) (hp : (e :: es).all plainArg = true) : PE X (.Call (.Name x pp) (e :: es) [] pos) (tE X.K F (.call g cs)) := by
  simp only [List.all_cons, Bool.and_eq_true] at hp
  exact (pe_call FO hr hg hm hk hb .nil (passL (X := X)) ha hdb (star_plain hp.1) (star_any hp.2)).mono fun σ H Q ⟨f, w, ρ, S, s, t', S', e, q⟩ => by
    simp only [evalE] at e
    obtain ⟨⟨ts, S1⟩, e1, e⟩ := Res.bind_ok e
    refine ⟨f, w, ρ, S, s, _, _, e1, fun vs H1 s1 k1 r1 => ⟨w.φ, w.tot, ts, S1, s1.st, by rw [List.append_nil]; exact r1, .inl ⟨t', S', e, fun v H2 k2 st2 r2 => ?_⟩⟩⟩
    exact q v H2 (s1.after k2 st2) (k1.trans k2) ((r2.early k1.dom).weak)
theorem s_isinst1 {a : Expr} {ca : CE} {y : Ty} {x xt : Str} {pp pt : Pos} (hg : Gl X x) (hm : X.mg x = none) (hv : bootBuiltins x = some (.builtin "isinstance")) (hn : x ≠ "__name__") (hdb : (x == ("__debug__" : Str)) = false)
    (ha : PE X a (tE X.K F ca)) (hp : plainArg a = true) (ht : PE X (.Name xt pt) (tC (.ty (tyName y)))) : PE X (.Call (.Name x pp) [a, .Name xt pt] [] pos) (tE X.K F (.isinst ca [y])) :=
  (pe_callB call_isi hg hm hv (pa_cons ha (pa_cons ht pa_nil (star_plain rfl)) (star_plain hp)) hn hdb (star_plain hp) (star_any rfl)).mono fun σ H Q ⟨f, w, ρ, S, s, t', S', e, q⟩ => by
    simp only [evalE] at e
    obtain ⟨⟨t, S1⟩, e1, e⟩ := Res.bind_ok e
    obtain ⟨z, e2, e⟩ := Res.bind_ok e
    cases e
    refine ⟨f, w, ρ, S, s, _, _, e1, fun v H1 s1 k1 r1 => ⟨v, .ty (tyName y), .type (tyName z), .type (tyName y), _, rfl, .ty _, tyx_of s1.st.toDom r1.lr (Res.of_ok e2), kit_name (X := X) z y, ?_⟩⟩
    have : [y].any (isA z) = isA z y := by simp
    rw [this] at q
    exact q _ _ s1 k1 (.rep (by simp only [Rep]))
/-- items and slices -/
theorem plainIx {b : Expr} (h : ∀ lo hi st p, b ≠ .Slice lo hi st p) : PlainIx b := by
  intro o i
  cases b <;> first | rfl | exact absurd rfl (h _ _ _ _)
theorem s_sub {a b : Expr} {ca cb : CE} (hu : X.A.units + 64 < cLine) (ha : PE X a (tE X.K F ca)) (hb : PE X b (tE X.K F cb)) (hs : ∀ lo hi st p, b ≠ .Slice lo hi st p) : PE X (.Subscript a b pos) (tE X.K F (.sub ca cb)) :=
  (pe_ix (ix_T hu) ha hb (plainIx hs)).mono fun σ H Q ⟨f, w, ρ, S, s, t', S', e, q⟩ => by
    simp only [evalE] at e
    obtain ⟨⟨x, S1⟩, e1, e⟩ := Res.bind_ok e
    obtain ⟨⟨y, S2⟩, e2, e⟩ := Res.bind_ok e
    obtain ⟨t, e3, e⟩ := Res.bind_ok e
    cases e
    exact two s e1 e2 fun v u H2 s2 k2 r1 r2 => ⟨w.φ, w.tot, _, x, y, _, s2.st, r1, r2, Res.of_ok e3, fun z r => q z H2 s2 k2 (.rep r)⟩
theorem s_dnew {m : Option Bool} : PE X (.Dict [] [] pos) (tE X.K F (.dnew m)) := by
  rcases m with _ | (_ | _)
  · exact pe_dnewN.mono fun σ H Q ⟨f, w, ρ, S, s, t', S', e, q⟩ => by
      simp only [evalE, Res.ok.injEq, Prod.mk.injEq] at e
      obtain ⟨rfl, rfl⟩ := e
      intro p hp
      have s1 := s.new (o := nOb p []) hp
      exact q _ _ s1 (Kp.new hp) (.newd (m := none) (vs := []) (s.free hp) hp upd_same ⟨rfl, fun z => (by cases z), fun _ => trivial⟩ Reps.nil)
  · exact pe_dnewT.mono fun σ H Q ⟨f, w, ρ, S, s, t', S', e, q⟩ => by
      simp only [evalE, Res.ok.injEq, Prod.mk.injEq] at e
      obtain ⟨rfl, rfl⟩ := e
      intro p hp
      have s1 := s.new (o := .dT []) hp
      exact q _ _ s1 (Kp.new hp) (.newd (m := some false) (vs := []) (s.free hp) hp upd_same ⟨rfl, fun z => (by cases z), fun z => (by cases z)⟩ Reps.nil)
  · exact pe_dnewK.mono fun σ H Q ⟨f, w, ρ, S, s, t', S', e, q⟩ => by
      simp only [evalE, Res.ok.injEq, Prod.mk.injEq] at e
      obtain ⟨rfl, rfl⟩ := e
      intro p hp
      have s1 := s.new (o := .dK []) hp
      exact q _ _ s1 (Kp.new hp) (.newd (m := some true) (vs := []) (s.free hp) hp upd_same ⟨rfl, fun _ k hk => (by cases hk), fun z => (by cases z)⟩ Reps.nil)
theorem s_onone : PO X none (tO X.K F none) := (po_none (X := X)).mono fun σ H Q ⟨f, w, ρ, S, s, t', S', e, q⟩ => by
  simp only [evalO, Res.ok.injEq, Prod.mk.injEq] at e
  obtain ⟨rfl, rfl⟩ := e
  exact q H s (Kp.refl _ _)
theorem s_osome (h : PE X e (tE X.K F c)) : PO X (some e) (tO X.K F (some c)) := (po_some h).mono fun σ H Q ⟨f, w, ρ, S, s, t', S', e, q⟩ => by
  simp only [evalO] at e
  obtain ⟨⟨t, S1⟩, e1, e⟩ := Res.bind_ok e
  simp only at e
  split at e
  · cases e
    exact ⟨f, w, ρ, S, s, _, _, e1, fun v H1 s1 k1 r1 => ⟨_, r1.lr.int, q H1 s1 k1⟩⟩
  · cases e
theorem s_slice {a : Expr} {ca : CE} {lo hi : Option Expr} {cl ch : Option CE} {p2 : Pos} (ha : PE X a (tE X.K F ca)) (hl : PO X lo (tO X.K F cl)) (hh : PO X hi (tO X.K F ch)) :
    PE X (.Subscript a (.Slice lo hi none p2) pos) (tE X.K F (.slice ca cl ch)) :=
  (pe_slice sl_T ha hl hh).mono fun σ H Q ⟨f, w, ρ, S, s, t', S', e, q⟩ => by
    simp only [evalE] at e
    obtain ⟨⟨x, S1⟩, e1, e⟩ := Res.bind_ok e
    obtain ⟨⟨l, S2⟩, e2, e⟩ := Res.bind_ok e
    obtain ⟨⟨h, S3⟩, e3, e⟩ := Res.bind_ok e
    obtain ⟨t, e4, e⟩ := Res.bind_ok e
    cases e
    exact ⟨f, w, ρ, S, s, _, _, e1, fun v H1 s1 k1 r1 => ⟨f, w, ρ, _, s1, _, _, e2, fun H2 s2 k2 => ⟨f, w, ρ, _, s2, _, _, e3, fun H3 s3 k3 =>
      ⟨w.φ, w.tot, x, _, s3.st.toDom, (r1.lr.after s1.st.toDom k2).after s2.st.toDom k3, Res.of_ok e4, fin_nw s3 ((k1.trans k2).trans k3) q⟩⟩⟩⟩
end
end Ip

set_option maxHeartbeats 4000000
/-! Ip5: what a loop walks: lists and tuples in any mix, by enumerate, zip of two and of three. -/
namespace Ip
open PySem PySem.Spec PyProof.Rows L2
open AutoSeq1 (wpAny_loadPart')

/-- a list (true) or a tuple -/
def Sq (k : Bool) (K : W.Frag) (H : Hp) (a : Addr) (xs : List V) : Prop := match k with
  | true => SqL K H a xs
  | false => SqT K H a xs
def IsSrc (k : Bool) (h : Heap) (a : Addr) (its : Array Value) : Prop := match k with
  | true => h.IsList a its
  | false => h.IsTuple a its
def IterAt (k : Bool) (h : Heap) (it a : Addr) (i : Nat) : Prop := match k with
  | true => h.IsListIter it a i
  | false => h.IsTupleIter it a i
def iterObj (k : Bool) (a : Addr) : Obj := match k with
  | true => { cls := .type "list_iterator", data := .fields #[.ref a, .int 0 0] }
  | false => { cls := .type "tuple_iterator", data := .fields #[.ref a, .int 0 0] }
section
variable {X : Cx} {pins : List (Addr × Obj)} {σ : L2.St} {H : Hp} {s : Shared} {k : Bool} {a it : Addr} {xs ys : List V} {h h' : Heap} {i : Nat}
theorem inv_sq (I : Inv X pins σ H s) (q : Sq k X.K H a xs) : ∃ its : List Value, Vals xs its ∧ IsSrc k s.heap a its.toArray := by
  cases k with
  | true => obtain ⟨its, r, p, _⟩ := I.list q; exact ⟨its, r, p.isList⟩
  | false => obtain ⟨its, r, p, _⟩ := I.tuple q; exact ⟨its, r, p⟩
theorem inv_sq_inj (I : Inv X pins σ H s) (q : Sq k X.K H a xs) (q' : Sq k X.K H a ys) : xs = ys := by
  cases k with
  | true => exact I.list_inj q q'
  | false => exact I.tuple_inj q q'
theorem isSrc_lt {its : Array Value} (x : IsSrc k h a its) : a < h.objs.size := by
  cases k with
  | true => obtain ⟨_, e, _⟩ := x; exact Heap.lt_size e
  | false => obtain ⟨_, e, _⟩ := x; exact Heap.lt_size e
theorem iterAt_lt (x : IterAt k h it a i) : it < h.objs.size := by
  cases k with
  | true => obtain ⟨_, e, _⟩ := x; exact Heap.lt_size e
  | false => obtain ⟨_, e, _⟩ := x; exact Heap.lt_size e
theorem iterAt_obj (x : IterAt k h it a i) : ∃ o, h.get? it = some o ∧ ∀ v, o.data ≠ .cell v := by
  cases k with
  | true => obtain ⟨o, e, _, d⟩ := x; exact ⟨o, e, fun v q => by rw [d] at q; cases q⟩
  | false => obtain ⟨o, e, _, d⟩ := x; exact ⟨o, e, fun v q => by rw [d] at q; cases q⟩
theorem iterAt_at (x : IterAt k h it a i) (kp : ∀ o, h.get? it = some o → h'.get? it = some o) : IterAt k h' it a i := by
  cases k with
  | true => exact Heap.IsListIter.at x kp
  | false => exact Heap.IsTupleIter.at x kp
theorem begins_k (k : Bool) (a : Addr) (its : Array Value) : Begins (.ref a) (iterObj k a) fun h => IsSrc k h a its := by
  cases k with
  | true => exact begins_list a its
  | false => exact begins_tuple a its
theorem iterAt_new (k : Bool) {a it : Addr} (e : h.get? it = some (iterObj k a)) : IterAt k h it a 0 := by
  cases k with
  | true => exact ⟨_, e, rfl, rfl⟩
  | false => exact ⟨_, e, rfl, rfl⟩
theorem draws_k {prog : Program} {w : World} {A : Around} (hh : A.handled = none) (k : Bool) (it a : Addr) (hne : a ≠ it) (its : Array Value) :
    Draws prog w A it [it, a] its.size (fun i v => its[i]? = some v) (fun i h => IterAt k h it a i ∧ IsSrc k h a its) := by
  cases k with
  | true => exact Draws.list hh it a hne its
  | false => exact Draws.tuple hh it a hne its
end

/-! ### one list or tuple -/
def Itq (k : Bool) (K : W.Frag) (a : Addr) : L2.It := match k with
  | true => Itl K a
  | false => Itt K a
theorem walk_q {K : W.Frag} {a : Addr} {xs : List V} (k : Bool) : Walk (Itq k K a) xs.length (fun H => Sq k K H a xs) (YAt xs) := by
  cases k with
  | true => exact walk_list
  | false => exact walk_tup
def iSeq (K : W.Frag) (tl : TE) : TI := fun σ H R => tl σ H fun x H1 => ∃ a k, x = .ref a ∧ (∃ xs, Sq k K H1 a xs) ∧ R (Itq k K a) H1
theorem pi_seq {X : Cx} {tg l : Expr} {tl : TE} (hl : PE X l tl) : PI X tg l (iSeq X.K tl) := by
  refine ⟨fun pins s σ H R I h => ?_⟩
  refine thn (hl.run pins s σ H _ I h) fun v s1 ⟨x, H1, I1, r1, q1⟩ => ?_
  obtain ⟨a, k, e, ⟨xs, hq⟩, q⟩ := q1
  subst e
  cases r1
  cases k with
  | true =>
    obtain ⟨its, rv, p, hz⟩ := I1.list hq
    refine wpAny_pyIter_list p.isList ?_
    refine ⟨s1.heap.objs.size, [s1.heap.objs.size], _, _, H1, rfl, I1.kept (t' := s1.toks) fun b o e => Heap.get?_push_of_some _ e, turn_list a _, ⟨_, Heap.get?_push_size _ rfl, rfl, rfl⟩, fun b hb => ?_, q⟩
    have e : b = s1.heap.objs.size := by simpa using hb
    subst e
    exact I1.fpOk (Nat.le_refl _) (I1.hok.fresh (Nat.le_refl _))
  | false =>
    obtain ⟨its, rv, p, hz⟩ := I1.tuple hq
    refine wpAny_pyIter_tuple (show s1.heap.IsTuple a its.toArray from p) ?_
    refine ⟨s1.heap.objs.size, [s1.heap.objs.size], _, _, H1, rfl, I1.kept (t' := s1.toks) fun b o e => Heap.get?_push_of_some _ e, turn_tuple a _, ⟨_, Heap.get?_push_size _ rfl, rfl, rfl⟩, fun b hb => ?_, q⟩
    have e : b = s1.heap.objs.size := by simpa using hb
    subst e
    exact I1.fpOk (Nat.le_refl _) (I1.hok.fresh (Nat.le_refl _))

/-! ### enumerate -/
def Iteq (k : Bool) (K : W.Frag) (a : Addr) : L2.It :=
  ⟨fun i H => ∃ (xs : List V) (x : V), Sq k K H a xs ∧ xs[i]? = some x, fun i H v H' => ∃ T x, v = .ref T ∧ H T = none ∧ H' = upd H T (.tup [.int (i : Nat), x]) ∧ ∀ xs, Sq k K H a xs → xs[i]? = some x, fun i H => ∃ xs : List V, Sq k K H a xs ∧ xs.length = i⟩
theorem walk_enumq {K : W.Frag} {a : Addr} {xs : List V} (k : Bool) : Walk (Iteq k K a) xs.length (fun H => Sq k K H a xs) (YPair (fun i => some (.int (i : Nat))) (fun i => xs[i]?)) := by
  refine ⟨fun i _ hi q => ⟨xs, xs[i], q, by simp [hi]⟩, fun _ q => ⟨xs, q, rfl⟩, fun i H v H' _ q y => ?_⟩
  obtain ⟨T, x, h1, h2, h3, h4⟩ := y
  exact ⟨T, .int (i : Nat), x, h1, h2, h3, rfl, h4 xs q⟩
theorem turn_enumq {P : Program} {w : World} {K : PySem.W.Frag} {elts : List Expr} {kk : Nat} {tpos : Pos} (k : Bool) (a e it : Addr) (hea : e ≠ a) (hai : a ≠ it) :
    Turn P w K (.Tuple elts kk tpos) (Iteq k K a) [e, it] e (fun i h => (∃ old, IsEnum h e it ((i : Nat) : Int) old) ∧ IterAt k h it a i ∧ e ≠ it) where
  mem := by simp
  obj := fun i h st b hb => by
    obtain ⟨⟨old, he⟩, hit, _⟩ := st
    have e' : b = e ∨ b = it := by simpa using hb
    rcases e' with z | z
    · rw [z]; exact ⟨_, he, fun v q => nomatch q⟩
    · rw [z]; exact iterAt_obj hit
  keep := fun i h h' st kp => let ⟨⟨old, he⟩, hi, hne⟩ := st; ⟨⟨old, kp e (by simp) _ he⟩, iterAt_at hi fun o q => kp it (by simp) o q, hne⟩
  item := by
    intro X hP hw hK hc i pins s σ H E I hf st hg
    subst hP hw hK
    obtain ⟨⟨old, he⟩, hit, hne⟩ := st
    obtain ⟨xs, x, hq, hx⟩ := hg
    obtain ⟨its, rv, p⟩ := inv_sq I hq
    obtain ⟨u, hu, ru⟩ := rv.get hx
    have hel : e < s.heap.objs.size := Heap.lt_size he
    have hil : it < s.heap.objs.size := iterAt_lt hit
    have hi : i < its.toArray.size := by
      have := (List.getElem?_eq_some_iff.mp hu).1
      simpa using this
    refine wpAny_pyNext_enum_itemD (draws_k (A := X.A.in1) (I.ok.hd hc) k it a hai its.toArray) he ⟨hit, p⟩ hi hne (by simp [hne, hea]) fun u' h' tk hu' ho hst' hT hsz hk => ?_
    have hit' := hst'.1
    have eu : u' = u := by
      have h1 : its.toArray[i]? = some u := by simpa using hu
      rw [h1] at hu'; exact (Option.some.inj hu').symm
    subst eu
    refine ⟨_, rfl, wpAny_letOwnedTupleGo_enum (s := { s with heap := h', toks := tk + 1 }) ho fun h'' he' sb => ?_⟩
    have hT2 : h''.get? s.heap.objs.size = some { cls := .type "tuple", data := .seq #[.int i tk, u'] } := (sb.2 _ (Nat.ne_of_gt hel)).trans hT
    have new : ObjOk X.prog X.w (upd H s.heap.objs.size (.tup [.int (i : Nat), x])) h'' s.heap.objs.size (.tup [.int (i : Nat), x]) :=
      ⟨by show 2 ≤ sizeLine; decide, [.int i tk, u'], .cons ⟨_, rfl⟩ (.cons ru .nil), ⟨_, hT2, rfl, _, rfl⟩⟩
    have I1 : Inv X pins σ (upd H s.heap.objs.size (.tup [.int (i : Nat), x])) { s with heap := h'', toks := tk + 1 } :=
      I.turnedNew (ch := [e, it]) (fun b ob hb q => (sb.2 b (fun z => hb (by simp [z]))).trans (hk b ob (fun z => hb (by simp [z])) (fun z => hb (by simp [z])) q)) hf (Nat.le_refl _) new
    refine ⟨.ref s.heap.objs.size, _, I1, rfl, ⟨_, x, rfl, I.hok.fresh (Nat.le_refl _), rfl, fun ys hy => by rw [inv_sq_inj I hy hq]; exact hx⟩, ⟨⟨u', ?_⟩, iterAt_at hit' fun o q => (sb.2 it (Ne.symm hne)).trans q, hne⟩, fun b hb => ?_⟩
    · have e1 : ((i + 1 : Nat) : Int) = (i : Int) + 1 := by omega
      rw [e1]; exact he'
    · have hb' : b < s.heap.objs.size := by
        have e' : b = e ∨ b = it := by simpa using hb
        rcases e' with z | z
        · rw [z]; exact hel
        · rw [z]; exact hil
      rw [upd_ne (Nat.ne_of_lt hb')]
      exact (hf b hb).1
  done := by
    intro X hP hw hK hc i pins s σ H E I hf st hg
    subst hP hw hK
    obtain ⟨⟨old, he⟩, hit, hne⟩ := st
    obtain ⟨xs, hq, hx⟩ := hg
    obtain ⟨its, rv, p⟩ := inv_sq I hq
    obtain ⟨f0, f1, f2, f3, f4, f5⟩ := hf it (by simp)
    have hl := rv.length
    have hi : i = its.toArray.size := by simp; omega
    subst hi
    exact wpAny_pyNext_enum_endD (draws_k (A := X.A.in1) (I.ok.hd hc) k it a hai its.toArray) he ⟨hit, p⟩ fun h' eb => ⟨rfl, I.turned (t' := s.toks) (fun b o hb q => eb b o hb q) f0 f1 f3 f4 f5⟩
  self := fun A i s Q E st h => let ⟨⟨_, he⟩, _⟩ := st; wpAny_pyIter_enum he h
theorem meets_enumerate_newK {v : Value} {o : Obj} {G : Heap → Prop} (B : Begins v o G) :
    Meets (Builtin.«enumerate.__new__» ⟨[.type "enumerate", v], []⟩) (fun _ R s => G s.heap ∧
      R (.ok (.ret (.ref (s.heap.push o).objs.size))) { s with heap := (s.heap.push o).push { cls := .type "enumerate", data := .fields #[.none, .bool false, .ref s.heap.objs.size, rawInt 0, .none, .none] } }) :=
  .of_wp fun prog w A R s h => by
    obtain ⟨hp, g, d, tk, os⟩ := s; obtain ⟨h1, h⟩ := h
    have hsub := sub_enumerate
    have q1 : ∀ {A' : Around} {E : Value → Shared → Prop} {Q : Value → Shared → Prop}, Q (.ref hp.objs.size) ⟨hp.push o, g, d, tk, os⟩ → wpAny (model prog w) A' (pyIter v) Q E ⟨hp, g, d, tk, os⟩ :=
      fun q => B.iter prog w _ _ ⟨hp, g, d, tk, os⟩ _ h1 q
    wp_walk using q1
    refine wpAny_stack_any fun st => wpAny_pure ?_
    split
    · rename_i c _ _ _ _ _
      cases (c == Value.type "enumerate")
      · wp_walk using q1
        exact ⟨_, rfl, h⟩
      · wp_walk using q1
        exact ⟨_, rfl, h⟩
    · wp_walk using q1
      exact ⟨_, rfl, h⟩
theorem call_enumerate_k {prog : Program} {w : World} {A : Around} {E : Value → Shared → Prop} {s : Shared} {v : Value} {o : Obj} {G : Heap → Prop} {Q : Value → Shared → Prop} (B : Begins v o G) (hG : G s.heap)
    (h : ∀ h', IsEnum h' (s.heap.objs.size + 1) s.heap.objs.size 0 .none → h'.get? s.heap.objs.size = some o → h'.objs.size = s.heap.objs.size + 2 →
      (∀ b o, s.heap.get? b = some o → h'.get? b = some o) → Q (.ref (s.heap.objs.size + 1)) { s with heap := h' }) :
    wpAny (model prog w) A (call (.type "enumerate") [v]) Q E s := by
  refine callType_new F.called_enumerate (by decide) (F.typeCall_enumerate_1 _) (F.newCall_enumerate_1 _) (fun obj => F.args_object_init_2 obj _) F.entry_enumerate_new
    (meets_enumerate_newK B) ⟨hG, ?_⟩
  have hz : (s.heap.push o).objs.size = s.heap.objs.size + 1 := Heap.size_push ..
  show _ ∧ _
  rw [hz]
  have he : IsEnum ((s.heap.push o).push { cls := .type "enumerate", data := .fields #[.none, .bool false, .ref s.heap.objs.size, rawInt 0, .none, .none] }) (s.heap.objs.size + 1) s.heap.objs.size 0 .none := by
    have := Heap.get?_push_size (s.heap.push o) (o := { cls := .type "enumerate", data := .fields #[.none, .bool false, .ref s.heap.objs.size, rawInt 0, .none, .none] }) rfl
    rw [hz] at this; exact this
  exact ⟨⟨_, he, rfl⟩, h _ he (Heap.get?_push_of_some _ (Heap.get?_push_size _ B.free)) (by rw [Heap.size_push, hz]) fun b o x => Heap.get?_push_of_some _ (Heap.get?_push_of_some _ x)⟩
def iEnumq (K : W.Frag) (ta : TA) : TI := fun σ H R => ta σ H fun vs H1 => ∃ a xs k, vs = [.ref a] ∧ Sq k K H1 a xs ∧ R (Iteq k K a) H1
theorem pi_enumq {X : Cx} {e : Expr} {ta : TA} {p pos tpos : Pos} {elts : List Expr} {kk : Nat} (hg : Gl X "enumerate") (hm : X.mg "enumerate" = none) (ha : PA X [e] ta) (hs : starEach [e] X.env = [(false, eval e X.env)]) :
    PI X (.Tuple elts kk tpos) (.Call (.Name "enumerate" p) [e] [] pos) (iEnumq X.K ta) := by
  refine ⟨fun pins s σ H R I h => ?_⟩
  refine Call_ (ld_blt I hg hm boot_enumerate (PyProof.Rows.callWith_type1 (thn (ha.run pos pins s σ H _ I h) fun us s1 ⟨vs, H1, I1, r1, q1⟩ => ?_) hs rfl))
  obtain ⟨a, xs, k, ex, hq, q⟩ := q1
  subst ex
  cases r1 with
  | cons r rr =>
    cases rr
    cases r
    obtain ⟨its, rv, p'⟩ := inv_sq I1 hq
    have la : a < s1.heap.objs.size := isSrc_lt p'
    refine call_enumerate_k (begins_k k a its.toArray) p' fun h' he hit hsz hk => wpAny_pyIter_enum he ?_
    have I2 : Inv X pins σ H1 { s1 with heap := h' } := I1.kept (t' := s1.toks) hk
    refine ⟨s1.heap.objs.size + 1, [s1.heap.objs.size + 1, s1.heap.objs.size], _, _, H1, rfl, I2, turn_enumq k a (s1.heap.objs.size + 1) s1.heap.objs.size (Nat.ne_of_gt (Nat.lt_succ_of_lt la)) (Nat.ne_of_lt la), ⟨⟨.none, he⟩, iterAt_new k hit, Nat.succ_ne_self _⟩, fun b hb => ?_, q⟩
    have e' : b = s1.heap.objs.size + 1 ∨ b = s1.heap.objs.size := by simpa using hb
    have hle : s1.heap.objs.size ≤ b := by
      rcases e' with z | z
      · rw [z]; exact Nat.le_add_right _ _
      · rw [z]; exact Nat.le_refl _
    exact I1.fpOk hle (I1.hok.fresh hle)

/-! ### zip of two -/
def Itzq (k j : Bool) (K : W.Frag) (a b : Addr) : L2.It :=
  ⟨fun i H => ∃ (xs ys : List V) (x y : V), Sq k K H a xs ∧ Sq j K H b ys ∧ xs[i]? = some x ∧ ys[i]? = some y,
    fun i H v H' => ∃ T x y, v = .ref T ∧ H T = none ∧ H' = upd H T (.tup [x, y]) ∧ (∀ xs, Sq k K H a xs → xs[i]? = some x) ∧ ∀ ys, Sq j K H b ys → ys[i]? = some y,
    fun i H => ∃ xs ys : List V, Sq k K H a xs ∧ Sq j K H b ys ∧ i = min xs.length ys.length⟩
theorem walk_zipq {K : W.Frag} {a b : Addr} {xs ys : List V} (k j : Bool) : Walk (Itzq k j K a b) (min xs.length ys.length) (fun H => Sq k K H a xs ∧ Sq j K H b ys) (YPair (fun i => xs[i]?) (fun i => ys[i]?)) := by
  refine ⟨fun i _ hi q => ?_, fun _ q => ⟨xs, ys, q.1, q.2, rfl⟩, fun i H v H' _ q y => ?_⟩
  · have h1 : i < xs.length := by omega
    have h2 : i < ys.length := by omega
    exact ⟨xs, ys, xs[i], ys[i], q.1, q.2, by simp [h1], by simp [h2]⟩
  · obtain ⟨T, x, z, h1, h2, h3, h4, h5⟩ := y
    exact ⟨T, x, z, h1, h2, h3, h4 xs q.1, h5 ys q.2⟩
theorem turn_zipq {P : Program} {w : World} {K : PySem.W.Frag} {elts : List Expr} {kk : Nat} {tpos : Pos} (k j : Bool) {a b z TI TO i1 i2 : Addr} (D : ZipSep2 z TI TO i1 i2 [i1, a] [i2, b]) (ha : a ≠ i1) (hb' : b ≠ i2) :
    Turn P w K (.Tuple elts kk tpos) (Itzq k j K a b) [z, TI, TO, i1, i2] z (fun i h => IsZip h z TI TO .none ∧ IsTupOf2 h TI (.ref i1) (.ref i2) ∧ (∃ x y, IsTupOf2 h TO x y) ∧ IterAt k h i1 a i ∧ IterAt j h i2 b i) where
  mem := by simp
  obj := fun i h st c hc => by
    obtain ⟨hz, hTI, ⟨x, y, hTO⟩, h1, h2⟩ := st
    have e' : c = z ∨ c = TI ∨ c = TO ∨ c = i1 ∨ c = i2 := by simpa using hc
    rcases e' with q | q | q | q | q
    · rw [q]; exact ⟨_, hz, fun v q => nomatch q⟩
    · rw [q]; exact ⟨_, hTI, fun v q => nomatch q⟩
    · rw [q]; exact ⟨_, hTO, fun v q => nomatch q⟩
    · rw [q]; exact iterAt_obj h1
    · rw [q]; exact iterAt_obj h2
  keep := fun i h h' st kp => by
    obtain ⟨hz, hTI, ⟨x, y, hTO⟩, h1, h2⟩ := st
    exact ⟨kp z (by simp) _ hz, kp TI (by simp) _ hTI, ⟨x, y, kp TO (by simp) _ hTO⟩, iterAt_at h1 fun o q => kp i1 (by simp) o q, iterAt_at h2 fun o q => kp i2 (by simp) o q⟩
  item := by
    intro X hP hw hK hc i pins s σ H E I hf st hg
    subst hP hw hK
    obtain ⟨hz, hTI, ⟨x0, y0, hTO⟩, h1, h2⟩ := st
    obtain ⟨xs, ys, x, y, hqx, hqy, hx, hy⟩ := hg
    obtain ⟨its, rv, p⟩ := inv_sq I hqx
    obtain ⟨its2, rv2, p2⟩ := inv_sq I hqy
    obtain ⟨u, hu, ru⟩ := rv.get hx
    obtain ⟨u2, hu2, ru2⟩ := rv2.get hy
    have hzl : z < s.heap.objs.size := Heap.lt_size hz
    have hi : i < its.toArray.size := by
      have := (List.getElem?_eq_some_iff.mp hu).1
      simpa using this
    have hi2 : i < its2.toArray.size := by
      have := (List.getElem?_eq_some_iff.mp hu2).1
      simpa using this
    refine wpAny_pyNext_zipD2_item D (draws_k (A := X.A.in1) (I.ok.hd hc) k i1 a ha its.toArray) (draws_k (A := X.A.in1) (I.ok.hd hc) j i2 b hb' its2.toArray) hz hTI hTO ⟨h1, p⟩ ⟨h2, p2⟩ hi hi2 fun x1 x2 h' tk hx1 hx2 z' TO' st1 st2 hT hsz hk => ?_
    have eu : x1 = u := by
      have h1 : its.toArray[i]? = some u := by simpa using hu
      rw [h1] at hx1; exact (Option.some.inj hx1).symm
    have eu2 : x2 = u2 := by
      have h1 : its2.toArray[i]? = some u2 := by simpa using hu2
      rw [h1] at hx2; exact (Option.some.inj hx2).symm
    subst eu eu2
    have h1' := st1.1
    have h2' := st2.1
    refine ⟨_, rfl, wpAny_letOwnedTupleGo_zip (s := { s with heap := h', toks := tk }) z' fun h'' z'' sb => ?_⟩
    have hT2 : h''.get? s.heap.objs.size = some { cls := .type "tuple", data := .seq #[x1, x2] } := (sb.2 _ (Nat.ne_of_gt hzl)).trans hT
    have new : ObjOk X.prog X.w (upd H s.heap.objs.size (.tup [x, y])) h'' s.heap.objs.size (.tup [x, y]) :=
      ⟨by show 2 ≤ sizeLine; decide, [x1, x2], .cons ru (.cons ru2 .nil), ⟨_, hT2, rfl, _, rfl⟩⟩
    have I1 : Inv X pins σ (upd H s.heap.objs.size (.tup [x, y])) { s with heap := h'', toks := tk } :=
      I.turnedNew (t' := tk) (ch := [z, TI, TO, i1, i2]) (fun c o hb q => (sb.2 c (fun q' => hb (by simp [q']))).trans (hk c o (fun q' => hb (by simp [q'])) (fun q' => hb (by simp [q'])) (fun q' => hb (by simp [q'])) (fun q' => hb (by simp [q'])) q)) hf (Nat.le_refl _) new
    have z1 : i1 ≠ z := fun e => D.zi1 e.symm
    have z2 : i2 ≠ z := fun e => D.zi2 e.symm
    refine ⟨.ref s.heap.objs.size, _, I1, rfl, ⟨_, x, y, rfl, I.hok.fresh (Nat.le_refl _), rfl, fun l hl => by rw [inv_sq_inj I hl hqx]; exact hx, fun l hl => by rw [inv_sq_inj I hl hqy]; exact hy⟩, ⟨z'', ?_, ⟨x1, x2, ?_⟩, ?_, ?_⟩, fun c hcm => ?_⟩
    · exact (sb.2 _ D.TIz).trans (hk _ _ D.TIz D.TITO D.TIi1 D.TIi2 hTI)
    · exact (sb.2 _ D.TOz).trans TO'
    · exact iterAt_at h1' fun o q => (sb.2 _ z1).trans q
    · exact iterAt_at h2' fun o q => (sb.2 _ z2).trans q
    · have hlt : c < s.heap.objs.size := by
        have e' : c = z ∨ c = TI ∨ c = TO ∨ c = i1 ∨ c = i2 := by simpa using hcm
        rcases e' with q | q | q | q | q
        · rw [q]; exact hzl
        · rw [q]; exact Heap.lt_size hTI
        · rw [q]; exact Heap.lt_size hTO
        · rw [q]; exact iterAt_lt h1
        · rw [q]; exact iterAt_lt h2
      rw [upd_ne (Nat.ne_of_lt hlt)]
      exact (hf c hcm).1
  done := by
    intro X hP hw hK hc i pins s σ H E I hf st hg
    subst hP hw hK
    obtain ⟨hz, hTI, ⟨x0, y0, hTO⟩, h1, h2⟩ := st
    obtain ⟨xs, ys, hqx, hqy, hend⟩ := hg
    obtain ⟨its, rv, p⟩ := inv_sq I hqx
    obtain ⟨its2, rv2, p2⟩ := inv_sq I hqy
    have l1 := rv.length
    have l2 := rv2.length
    exact wpAny_pyNext_zipD2_end D (draws_k (A := X.A.in1) (I.ok.hd hc) k i1 a ha its.toArray) (draws_k (A := X.A.in1) (I.ok.hd hc) j i2 b hb' its2.toArray) hz hTI hTO ⟨h1, p⟩ ⟨h2, p2⟩ (by simp; omega) (by simp; omega) (by simp; omega) fun h' tk hk =>
      ⟨rfl, I.turnedL (t' := tk) (ch := [z, TI, TO, i1, i2]) (fun c o hb q =>
      hk c o (fun q' => hb (by simp [q'])) (fun q' => hb (by simp [q'])) (fun q' => hb (by simp [q'])) (fun q' => hb (by simp [q'])) q) hf⟩
  self := fun A i s Q E st h => wpAny_pyIter_zip st.1 h
def iZipq (K : W.Frag) (ta : TA) : TI := fun σ H R => ta σ H fun vs H1 => ∃ a b xs ys k j, vs = [.ref a, .ref b] ∧ Sq k K H1 a xs ∧ Sq j K H1 b ys ∧ R (Itzq k j K a b) H1
theorem pi_zipq {X : Cx} {e e2 : Expr} {ta : TA} {p pos tpos : Pos} {elts : List Expr} {kk : Nat} (hg : Gl X "zip") (hm : X.mg "zip" = none) (ha : PA X [e, e2] ta)
    (hs : starEach [e, e2] X.env = (false, eval e X.env) :: starEach [e2] X.env) (hpl : (backTo pos (starEach [e2] X.env)).any (·.1) = false) :
    PI X (.Tuple elts kk tpos) (.Call (.Name "zip" p) [e, e2] [] pos) (iZipq X.K ta) := by
  refine ⟨fun pins s σ H R I h => ?_⟩
  refine Call_ (ld_blt I hg hm PyProof.Rows.boot_zip (PyProof.Rows.callWith_type1 (thn (ha.run pos pins s σ H _ I h) fun us s1 ⟨vs, H1, I1, r1, q1⟩ => ?_) hs hpl))
  obtain ⟨a, b, xs, ys, k, j, ex, hqx, hqy, q⟩ := q1
  subst ex
  cases r1 with
  | cons r rr =>
    cases rr with
    | cons r' rr =>
      cases rr
      cases r
      cases r'
      obtain ⟨its, rv, p1⟩ := inv_sq I1 hqx
      obtain ⟨its2, rv2, p2⟩ := inv_sq I1 hqy
      have la : a < s1.heap.objs.size := isSrc_lt p1
      have lb : b < s1.heap.objs.size := isSrc_lt p2
      refine zip_begins2 (begins_k k a its.toArray) (begins_k j b its2.toArray) p1 p2 fun h' hz hTI hTO h1 h2 hsz hk => wpAny_pyIter_zip hz ?_
      have I2 : Inv X pins σ H1 { s1 with heap := h' } := I1.kept (t' := s1.toks) hk
      refine ⟨s1.heap.objs.size + 4, [s1.heap.objs.size + 4, s1.heap.objs.size + 2, s1.heap.objs.size + 3, s1.heap.objs.size, s1.heap.objs.size + 1], _, _, H1, rfl, I2, turn_zipq k j (zip_sep2 (by simpa using la) (by simpa using lb)) (Nat.ne_of_lt la) (Nat.ne_of_lt (Nat.lt_succ_of_lt lb)), ⟨hz, hTI, ⟨_, _, hTO⟩, iterAt_new k h1, iterAt_new j h2⟩, fun c hcm => ?_, q⟩
      have e' : c = s1.heap.objs.size + 4 ∨ c = s1.heap.objs.size + 2 ∨ c = s1.heap.objs.size + 3 ∨ c = s1.heap.objs.size ∨ c = s1.heap.objs.size + 1 := by simpa using hcm
      have hle : s1.heap.objs.size ≤ c := by
        rcases e' with z | z | z | z | z
        · rw [z]; exact Nat.le_add_right _ _
        · rw [z]; exact Nat.le_add_right _ _
        · rw [z]; exact Nat.le_add_right _ _
        · rw [z]; exact Nat.le_refl _
        · rw [z]; exact Nat.le_add_right _ _
      exact I1.fpOk hle (I1.hok.fresh hle)
end Ip

set_option maxHeartbeats 4000000
/-! Ip6: targets, what is walked, comprehensions. -/
namespace Ip
open PySem PySem.Spec PyProof.Rows L2

/-! ### slots -/
def clear (ρ : En) : List Nat → En
  | [] => ρ
  | v :: vs => (clear ρ vs).del v
theorem En.put_len : ∀ (ρ : En) (i : Nat) (t : T), (ρ.put i t).length = ρ.length
  | [], _, _ => rfl
  | _ :: _, 0, _ => rfl
  | _ :: r, i + 1, t => by simp [En.put, En.put_len r i t]
theorem En.del_len : ∀ (ρ : En) (i : Nat), (ρ.del i).length = ρ.length
  | [], _ => rfl
  | _ :: _, 0 => rfl
  | _ :: r, i + 1 => by simp [En.del, En.del_len r i]
theorem En.get_put : ∀ (ρ : En) (i j : Nat) (t : T), (ρ.put i t).get j = if j = i then (if i < ρ.length then some t else none) else ρ.get j
  | [], i, j, t => by simp [En.put, En.get]
  | _ :: _, 0, 0, t => by simp [En.put, En.get]
  | _ :: _, 0, j + 1, t => by simp [En.put, En.get]
  | _ :: _, i + 1, 0, t => by simp [En.put, En.get]
  | _ :: r, i + 1, j + 1, t => by simp [En.put, En.get, En.get_put r i j t]
theorem En.get_del : ∀ (ρ : En) (i j : Nat), (ρ.del i).get j = if j = i then none else ρ.get j
  | [], i, j => by simp [En.del, En.get]
  | _ :: _, 0, 0 => by simp [En.del, En.get]
  | _ :: _, 0, j + 1 => by simp [En.del, En.get]
  | _ :: _, i + 1, 0 => by simp [En.del, En.get]
  | _ :: r, i + 1, j + 1 => by simp [En.del, En.get, En.get_del r i j]
theorem En.put_del : ∀ (ρ : En) (i : Nat) (t : T), (ρ.del i).put i t = ρ.put i t
  | [], _, _ => rfl
  | _ :: _, 0, _ => rfl
  | _ :: r, i + 1, t => by simp [En.put, En.del, En.put_del r i t]
theorem En.put_del_ne : ∀ (ρ : En) (i j : Nat) (t : T), i ≠ j → (ρ.del j).put i t = (ρ.put i t).del j
  | [], _, _, _, _ => rfl
  | _ :: _, 0, 0, _, h => absurd rfl h
  | _ :: _, 0, _ + 1, _, _ => by simp [En.put, En.del]
  | _ :: _, _ + 1, 0, _, _ => by simp [En.put, En.del]
  | _ :: r, i + 1, j + 1, t, h => by simp [En.put, En.del, En.put_del_ne r i j t (by omega)]
theorem put_clear (ρ : En) (i : Nat) (t : T) : ∀ vs : List Nat, (clear ρ vs).put i t = clear (ρ.put i t) (vs.filter (· != i))
  | [] => rfl
  | v :: vs => by
    show ((clear ρ vs).del v).put i t = _
    by_cases h : v = i
    · subst h
      rw [En.put_del, put_clear ρ v t vs]
      simp
    · rw [En.put_del_ne _ _ _ _ (fun e => h e.symm), put_clear ρ i t vs]
      have : (v :: vs).filter (· != i) = v :: vs.filter (· != i) := by simp [h]
      rw [this]; rfl
theorem clear_get (ρ : En) (j : Nat) (t : T) : ∀ {vs : List Nat}, (clear ρ vs).get j = some t → ρ.get j = some t ∧ j ∉ vs
  | [], h => ⟨h, by simp⟩
  | v :: vs, h => by
    have h : ((clear ρ vs).del v).get j = some t := h
    rw [En.get_del] at h
    split at h
    · cases h
    · rename_i n
      obtain ⟨h1, h2⟩ := clear_get ρ j t h
      exact ⟨h1, by simp [n, h2]⟩
theorem clear_len (ρ : En) : ∀ vs : List Nat, (clear ρ vs).length = ρ.length
  | [] => rfl
  | v :: vs => by show ((clear ρ vs).del v).length = _; rw [En.del_len, clear_len ρ vs]

mutual
def Tg.names : Tg → List Nat
  | .name i => [i]
  | .tup ts => Tg.namesL ts
def Tg.namesL : List Tg → List Nat
  | [] => []
  | t :: ts => Tg.names t ++ Tg.namesL ts
end
theorem filter_filter' (vs : List Nat) (p q : Nat → Bool) : (vs.filter p).filter q = vs.filter fun x => p x && q x := by
  rw [List.filter_filter]
  congr 1; funext x; exact Bool.and_comm _ _
theorem beq_eq_decide' (x i : Nat) : (x == i) = decide (x = i) := by
  by_cases h : x = i <;> simp [h]
mutual
theorem bind_clear : ∀ (tg : Tg) (t : T) (ρ ρ' : En) (vs : List Nat), bindT tg t ρ = some ρ' → bindT tg t (clear ρ vs) = some (clear ρ' (vs.filter fun x => !tg.names.contains x))
  | .name i, t, ρ, ρ', vs, h => by
    simp only [bindT] at h ⊢
    split at h
    · cases h
    · rename_i hn
      rw [if_neg hn]
      cases h
      rw [put_clear]
      congr 2
      congr 1; funext x
      simp [Tg.names, List.contains_cons, bne]
      exact beq_eq_decide' x i
  | .tup ts, t, ρ, ρ', vs, h => by
    simp only [bindT] at h ⊢
    split at h
    · exact bind_clears ts _ ρ ρ' vs h
    · cases h
theorem bind_clears : ∀ (tgs : List Tg) (ts : List T) (ρ ρ' : En) (vs : List Nat), bindTs tgs ts ρ = some ρ' → bindTs tgs ts (clear ρ vs) = some (clear ρ' (vs.filter fun x => !(Tg.namesL tgs).contains x))
  | [], [], ρ, ρ', vs, h => by
    simp only [bindTs, Option.some.injEq] at h ⊢
    subst h
    have : vs.filter (fun x => !(Tg.namesL []).contains x) = vs := List.filter_eq_self.mpr fun a _ => by simp [Tg.namesL]
    rw [this]
  | [], _ :: _, ρ, ρ', vs, h => by simp [bindTs] at h
  | g :: gs, [], ρ, ρ', vs, h => by simp [bindTs] at h
  | g :: gs, x :: xs, ρ, ρ', vs, h => by
    simp only [bindTs] at h ⊢
    split at h
    · rename_i ρ1 h1
      rw [bind_clear g x ρ ρ1 vs h1]
      dsimp only
      rw [bind_clears gs xs ρ1 ρ' _ h]
      congr 2
      rw [List.filter_filter]
      congr 1; funext y
      simp only [Tg.namesL]
      cases h1 : (Tg.names g).contains y <;> cases h2 : (Tg.namesL gs).contains y <;> simp_all [List.contains_iff_mem]
    · cases h
end
theorem bind_clear0 {tg : Tg} {t : T} {ρ ρ' : En} {vs : List Nat} (h : bindT tg t ρ = some ρ') (hv : ∀ v ∈ vs, v ∈ tg.names) : bindT tg t (clear ρ vs) = some ρ' := by
  rw [bind_clear tg t ρ ρ' vs h]
  have : vs.filter (fun x => !tg.names.contains x) = [] := by
    rw [List.filter_eq_nil_iff]
    intro v hm
    simp [hv v hm]
  rw [this]; rfl

section
variable {K : W.Frag} {f : Fm} {w : Wd} {σ : L2.St} {H H' : Hp} {ρ : En} {S S' : Store}
theorem SR.put {i : Nat} {t : T} {v : V} (s : SR K f w σ H ρ S) (r : Rep K H w.φ w.tot t v) : SR K f w (σ.set i (some v)) H (ρ.put i t) S := by
  refine ⟨s.st, s.pe, s.mnew, s.mE, s.minj, s.eE, s.pre, s.nφ, s.k0, by rw [List.length_set, En.put_len]; exact s.slen, fun j u h => ?_⟩
  rw [En.get_put] at h
  split at h
  · rename_i e
    subst e
    split at h
    · rename_i hl
      cases h
      refine ⟨v, by rw [List.getElem?_set_self (by rw [s.slen]; exact hl)], ?_⟩
      cases t with
      | own xs => simp only [Rep] at r
      | odct ks xs => simp only [Rep] at r
      | _ => exact r
    · cases h
  · rename_i e
    obtain ⟨x, h1, h2⟩ := s.slots j u h
    exact ⟨x, by rw [List.getElem?_set_ne (fun z => e z.symm)]; exact h1, h2⟩
theorem wipe_get {σ : L2.St} {i : Nat} {x : V} : ∀ {vs : List Nat}, σ[i]? = some (some x) → i ∉ vs → (wipe σ vs)[i]? = some (some x)
  | [], h, _ => h
  | v :: vs, h, hn => by
    simp only [List.mem_cons, not_or] at hn
    unfold wipe
    rw [List.getElem?_set_ne (fun z => hn.1 z.symm)]
    exact wipe_get h hn.2
theorem SR.wipe (s : SR K f w σ H ρ S) (vs : List Nat) : SR K f w (wipe σ vs) H (clear ρ vs) S := by
  refine ⟨s.st, s.pe, s.mnew, s.mE, s.minj, s.eE, s.pre, s.nφ, s.k0, by rw [wipe_length, clear_len]; exact s.slen, fun j u h => ?_⟩
  obtain ⟨h1, h2⟩ := clear_get ρ j u h
  obtain ⟨x, h3, h4⟩ := s.slots j u h1
  exact ⟨x, wipe_get h3 h2, h4⟩
/-- a list set apart -/
def Wd.apart (w : Wd) (D : Addr) : Wd := { w with E := plus1 w.E D }
theorem apart_tot {D a : Addr} : (w.apart D).tot a ↔ plus1 w.tot D a := by
  constructor
  · rintro ((h | h) | h)
    · exact .inl (.inl h)
    · exact .inr h
    · exact .inl (.inr h)
  · rintro ((h | h) | h)
    · exact .inl (.inl h)
    · exact .inr h
    · exact .inl (.inr h)
theorem reps_apart {D : Addr} {ts : List T} {vs : List V} (r : Reps K H w.φ (w.apart D).tot ts vs) : Reps K H w.φ (plus1 w.tot D) ts vs := r.grow (Grow.less fun a h => apart_tot.mpr h) (List.prefix_refl _) _ _
theorem SR.apart {D : Addr} {vs : List V} (s : SR K f w σ H ρ S) (h : H D = none) : SR K f (w.apart D) σ (upd H D (.lst vs)) ρ S := by
  have g : Grow H (upd H D (.lst vs)) w.tot (w.apart D).tot := by
    refine ⟨fun a xs e => by rw [upd_ne (ne_of_none e h)]; exact e, fun a o u e => by rw [upd_ne (ne_of_none e h)]; exact e, fun a xs e n => ⟨by rw [upd_ne (ne_of_none e h)]; exact e, fun z => ?_⟩, fun a xs e n => ⟨by rw [upd_ne (ne_of_none e h)]; exact e, fun z => ?_⟩, fun a p e => by rw [upd_ne (ne_of_none e h)]; exact e, fun a p e => by rw [upd_ne (ne_of_none e h)]; exact e⟩
    · rcases apart_tot.mp z with z | z
      · exact n z
      · exact ne_of_none e h z
    · rcases apart_tot.mp z with z | z
      · exact n z
      · exact ne_of_none e h z
  have kn : ∀ a, H a ≠ none → upd H D (.lst vs) a ≠ none := fun a e => by
    by_cases z : a = D
    · subst z; exact absurd h e
    · rw [upd_ne z]; exact e
  refine ⟨⟨s.st.len, s.st.nd, fun a ha => .inl (.inl (s.pe a ha)), fun a z => ?_, fun k t e => ?_, s.st.nl⟩, fun a ha => .inl (s.pe a ha), s.mnew, fun i a m z => ?_, s.minj, fun a e => .inl (s.eE a e), s.pre, s.nφ,
    ⟨fun a o e n => ?_, fun a e => kn a (s.k0.dom a e)⟩, s.slen, fun i t e => ?_⟩
  · rcases apart_tot.mp z with z | z
    · exact kn a (s.st.dom a z)
    · rw [z, upd_same]; simp
  · obtain ⟨a, h1, h2⟩ := s.st.obj k t e
    refine ⟨a, h1, ?_⟩
    cases t with
    | own xs =>
      simp only [ObjR] at h2 ⊢
      obtain ⟨ws, q, r⟩ := h2
      exact ⟨ws, by rw [upd_ne (ne_of_none q h)]; exact q, r.grow g (List.prefix_refl _) _ _⟩
    | _ => simp only [ObjR] at h2
  · rcases z with z | z
    · exact s.mE i a m z
    · exact s.st.dom a (.inr ⟨i, m⟩) (by rw [z]; exact h)
  · have e' := s.k0.keep a o e n
    rw [upd_ne (ne_of_none e' h)]; exact e'
  · obtain ⟨v, h1, h2⟩ := s.slots i t e
    refine ⟨v, h1, ?_⟩
    cases t with
    | own xs =>
      simp only [SlotR] at h2 ⊢
      obtain ⟨a, ws, e, m, q, r⟩ := h2
      exact ⟨a, ws, e, m, by rw [upd_ne (ne_of_none q h)]; exact q, r.grow g (List.prefix_refl _) _ _⟩
    | odct ks xs =>
      simp only [SlotR] at h2 ⊢
      obtain ⟨a, ws, e, m, q, hl, r⟩ := h2
      exact ⟨a, ws, e, m, by rw [upd_ne (ne_of_none q h)]; exact q, hl, r.grow g (List.prefix_refl _) _ _⟩
    | _ => simp only [SlotR] at h2 ⊢; exact Rep.grow g (List.prefix_refl _) _ _ h2
/-- a list that is set apart is changed -/
theorem SR.touch {D : Addr} {vs ws : List V} (s : SR K f w σ H ρ S) (hD : w.E D) (hn : D ∉ w.φ) (h0 : f.H0 D = none) (h : H D = some (.lst vs)) : SR K f w σ (upd H D (.lst ws)) ρ S := by
  have g : Grow H (upd H D (.lst ws)) w.tot w.tot := by
    refine ⟨fun a xs e => by rw [upd_ne (fun z => by rw [z, h] at e; cases e)]; exact e, fun a o u e => by rw [upd_ne (fun z => by rw [z, h] at e; cases e)]; exact e, fun a xs e n => ⟨by rw [upd_ne (fun z => n (by rw [z]; exact .inl hD))]; exact e, n⟩, fun a xs e n => ⟨by rw [upd_ne (fun z => n (by rw [z]; exact .inl hD))]; exact e, n⟩, fun a p e => by rw [upd_ne (fun z => by rw [z, h] at e; cases e)]; exact e, fun a p e => by rw [upd_ne (fun z => by rw [z, h] at e; cases e)]; exact e⟩
  have kn : ∀ a, H a ≠ none → upd H D (.lst ws) a ≠ none := fun a e => by
    by_cases z : a = D
    · subst z; rw [upd_same]; simp
    · rw [upd_ne z]; exact e
  refine ⟨⟨s.st.len, s.st.nd, s.st.pe, fun a z => kn a (s.st.dom a z), fun k t e => ?_, s.st.nl⟩, s.pe, s.mnew, s.mE, s.minj, s.eE, s.pre, s.nφ,
    ⟨fun a o e n => ?_, fun a e => kn a (s.k0.dom a e)⟩, s.slen, fun i t e => ?_⟩
  · obtain ⟨a, h1, h2⟩ := s.st.obj k t e
    refine ⟨a, h1, ?_⟩
    have ne : a ≠ D := fun z => hn (by rw [← z]; exact List.mem_of_getElem? h1)
    cases t with
    | own xs =>
      simp only [ObjR] at h2 ⊢
      obtain ⟨ws', q, r⟩ := h2
      exact ⟨ws', by rw [upd_ne ne]; exact q, r.grow g (List.prefix_refl _) _ _⟩
    | _ => simp only [ObjR] at h2
  · rw [upd_ne (fun z => by rw [z, h0] at e; cases e)]
    exact s.k0.keep a o e n
  · obtain ⟨v, h1, h2⟩ := s.slots i t e
    refine ⟨v, h1, ?_⟩
    cases t with
    | own xs =>
      simp only [SlotR] at h2 ⊢
      obtain ⟨a, ws', e, m, q, r⟩ := h2
      exact ⟨a, ws', e, m, by rw [upd_ne (fun z => s.mE i a m (by rw [z]; exact hD))]; exact q, r.grow g (List.prefix_refl _) _ _⟩
    | odct ks xs =>
      simp only [SlotR] at h2 ⊢
      obtain ⟨a, ws', e, m, q, hl, r⟩ := h2
      exact ⟨a, ws', e, m, by rw [upd_ne (fun z => s.mE i a m (by rw [z]; exact hD))]; exact q, hl, r.grow g (List.prefix_refl _) _ _⟩
    | _ => simp only [SlotR] at h2 ⊢; exact Rep.grow g (List.prefix_refl _) _ _ h2
end

/-! ### targets -/
def gT (K : W.Frag) (tg : Tg) : TG := fun v σ H Q => ∃ f w ρ S t ρ', SR K f w σ H ρ S ∧ Rep K H w.φ w.tot t v ∧ bindT tg t ρ = some ρ' ∧
  ∀ σ', SR K f w σ' H ρ' S → σ'.length = σ.length → (∀ j, j ∉ tg.names → σ'[j]? = σ[j]?) → Q σ' H
def gTs (K : W.Frag) (tgs : List Tg) : TGs := fun vs σ H Q => ∃ f w ρ S ts ρ', SR K f w σ H ρ S ∧ Reps K H w.φ w.tot ts vs ∧ bindTs tgs ts ρ = some ρ' ∧
  ∀ σ', SR K f w σ' H ρ' S → σ'.length = σ.length → (∀ j, j ∉ Tg.namesL tgs → σ'[j]? = σ[j]?) → Q σ' H
theorem _root_.L2.PG.mono {X : Cx} {e : Expr} {t t' : TG} (h : PG X e t) (m : ∀ v σ H Q, t' v σ H Q → t v σ H Q) : PG X e t' := ⟨fun pins s σ H v u Q I r q => h.run pins s σ H v u Q I r (m v σ H Q q)⟩
theorem _root_.L2.PGs.mono {X : Cx} {e : List Expr} {t t' : TGs} (h : PGs X e t) (m : ∀ v σ H Q, t' v σ H Q → t v σ H Q) : PGs X e t' := ⟨fun pins s σ H v u Q I r q => h.run pins s σ H v u Q I r (m v σ H Q q)⟩
section
variable {X : Cx} {pos : Pos}
theorem g_name {i : Nat} {x : Str} (hN : X.N.Nodup) (hi : X.N[i]? = some x) (hx : Loc X.env.scope x) (hf : X.fn x = true ∨ X.env.scope.names.lookup x = some .local) : PG X (.Name x pos) (gT X.K (.name i)) :=
  (pg_name hN hi hx hf).mono fun v σ H Q ⟨f, w, ρ, S, t, ρ', s, r, e, q⟩ => by
    simp only [bindT] at e
    split at e
    · cases e
    · cases e
      refine q _ (s.put r) (List.length_set ..) fun j hj => ?_
      simp only [Tg.names, List.mem_singleton] at hj
      rw [List.getElem?_set_ne (fun z => hj z.symm)]
theorem g_nil : PGs X [] (gTs X.K []) := (pgs_nil (X := X)).mono fun v σ H Q ⟨f, w, ρ, S, ts, ρ', s, r, e, q⟩ => by
  cases ts with
  | nil =>
    simp only [bindTs, Option.some.injEq] at e
    subst e
    simp only [Reps] at r
    exact ⟨r, q σ s rfl fun _ _ => rfl⟩
  | cons a b => simp [bindTs] at e
theorem assign_plain {e : Expr} {es : List Expr} {env : Env} (h : plainArg e = true) : assignEach (e :: es) env = (false, assign e env) :: assignEach es env := by
  cases e <;> first | rfl | cases h
theorem g_cons {e : Expr} {es : List Expr} {g : Tg} {gs : List Tg} (h1 : PG X e (gT X.K g)) (h2 : PGs X es (gTs X.K gs)) (hp : plainArg e = true) : PGs X (e :: es) (gTs X.K (g :: gs)) :=
  (pgs_cons h1 h2 (by rw [assign_plain hp]; rfl)).mono fun v σ H Q ⟨f, w, ρ, S, ts, ρ', s, r, e, q⟩ => by
    cases ts with
    | nil => simp [bindTs] at e
    | cons x xs =>
      simp only [bindTs] at e
      split at e
      · rename_i ρ1 e1
        simp only [Reps] at r
        obtain ⟨v1, r1, rfl, h1, h2⟩ := r
        refine ⟨v1, r1, rfl, f, w, ρ, S, x, ρ1, s, h1, e1, fun σ1 s1 l1 o1 => ⟨f, w, ρ1, S, xs, ρ', s1, h2, e, fun σ2 s2 l2 o2 => q σ2 s2 (l2.trans l1) fun j hj => ?_⟩⟩
        simp only [Tg.namesL, List.mem_append, not_or] at hj
        rw [o2 j hj.2, o1 j hj.1]
      · cases e
theorem assign_len : ∀ {es : List Expr} {env : Env}, es.all plainArg = true → (assignEach es env).length = es.length ∧ (assignEach es env).findIdx? (·.1) = none
  | [], _, _ => ⟨rfl, rfl⟩
  | e :: es, env, h => by
    simp only [List.all_cons, Bool.and_eq_true] at h
    obtain ⟨a, b⟩ := assign_len (es := es) (env := env) h.2
    rw [assign_plain h.1]
    exact ⟨by simp [a], by simp [List.findIdx?_cons, b]⟩
theorem bindTs_len : ∀ {gs : List Tg} {ts : List T} {ρ ρ' : En}, bindTs gs ts ρ = some ρ' → ts.length = gs.length
  | [], [], _, _, _ => rfl
  | [], _ :: _, _, _, e => by simp [bindTs] at e
  | _ :: _, [], _, _, e => by simp [bindTs] at e
  | g :: gs, x :: xs, ρ, ρ', e => by
    simp only [bindTs] at e
    split at e
    · simp [bindTs_len e]
    · cases e
theorem g_tup {es : List Expr} {k : Nat} {gs : List Tg} (hc : X.calm = true) (h : PGs X es (gTs X.K gs)) (hp : es.all plainArg = true) (hl : es.length = gs.length) : PG X (.Tuple es k pos) (gT X.K (.tup gs)) :=
  (pg_tup (n := es.length) hc h (assign_len hp).1 (assign_len hp).2).mono fun v σ H Q ⟨f, w, ρ, S, t, ρ', s, r, e, q⟩ => by
    simp only [bindT] at e
    split at e
    · rename_i xs
      simp only [Rep] at r
      obtain ⟨a, vs, rfl, ha, ra⟩ := r
      exact ⟨a, vs, rfl, SqT.of ha, by rw [← ra.len, bindTs_len e, hl], f, w, ρ, S, xs, ρ', s, ra, e, fun σ' s' l o => q σ' s' l o⟩
    · cases e
end

/-! ### what is walked -/
/-- the sequence at a -/
def Src (K : W.Frag) (A : List Addr) (E : Excl) (H : Hp) (k : Bool) (a : Addr) (vs : List V) : Prop := match k with
  | true => (H a = some (.lst vs) ∧ (a ∈ A ∨ ¬ E a)) ∨ FrzL K H a vs
  | false => SqT K H a vs
theorem Src.sq {K : W.Frag} {A : List Addr} {E : Excl} {H : Hp} {k : Bool} {a : Addr} {vs : List V} (h : Src K A E H k a vs) : Sq k K H a vs := by
  cases k with
  | true =>
    rcases h with ⟨h, _⟩ | h
    · exact SqL.of h
    · exact frzL_sq h
  | false => exact h
theorem Src.grow {K : W.Frag} {A : List Addr} {E E' : Excl} {H H' : Hp} {k : Bool} {a : Addr} {vs : List V} (g : Grow H H' E E') (hA : ∀ a ∈ A, ∀ xs, H a = some (.lst xs) → H' a = some (.lst xs)) (h : Src K A E H k a vs) : Src K A E' H' k a vs := by
  cases k with
  | true =>
    rcases h with ⟨h, h' | h'⟩ | h
    · exact .inl ⟨hA a h' vs h, .inl h'⟩
    · obtain ⟨h1, h2⟩ := g.lsts a vs h h'
      exact .inl ⟨h1, .inr h2⟩
    · exact .inr (frzL_grow g h)
  | false => exact sqT_grow g h
theorem Src.mono {K : W.Frag} {A A' : List Addr} {E : Excl} {H : Hp} {k : Bool} {a : Addr} {vs : List V} (hA : ∀ a ∈ A, a ∈ A') (h : Src K A E H k a vs) : Src K A' E H k a vs := by
  cases k with
  | true =>
    rcases h with ⟨h, h' | h'⟩ | h
    · exact .inl ⟨h, .inl (hA a h')⟩
    · exact .inl ⟨h, .inr h'⟩
    · exact .inr h
  | false => exact h
/-- the lists that must be kept from outside, where a slot's own list is walked -/
theorem src_of {K : W.Frag} {φ : List Addr} {E : Excl} {st : Bool} {Hb H : Hp} {t : T} {v : V} {xs : List T} (d : Dom φ E H) (e : ER K φ E st Hb H t v) (h : seqOf t = some xs) :
    ∃ a k vs A, v = .ref a ∧ Reps K H φ E xs vs ∧ Src K A E H k a vs ∧ (st = true → A = []) ∧ ∀ a ∈ A, a ∉ φ ∧ H a ≠ none := by
  cases e with
  | rep r =>
    cases t <;> simp only [seqOf, Option.some.injEq, reduceCtorEq] at h <;> subst h <;> simp only [Rep] at r
    · obtain ⟨a, vs, e, q, r⟩ := r
      exact ⟨a, false, vs, [], e, r, SqT.of q, fun _ => rfl, by simp⟩
    · obtain ⟨a, vs, e, n, q, r⟩ := r
      exact ⟨a, true, vs, [], e, r, .inl ⟨q, .inr n⟩, fun _ => rfl, by simp⟩
    · obtain ⟨a, e, q⟩ := r
      exact ⟨a, true, _, [], e, Reps.ints, .inr q, fun _ => rfl, by simp⟩
    · obtain ⟨a, vs, e, q, r⟩ := r
      exact ⟨a, false, vs, [], e, r, q, fun _ => rfl, by simp⟩
  | newd => simp only [seqOf, reduceCtorEq] at h
  | lookd => simp only [seqOf, reduceCtorEq] at h
  | @new xs' a vs n hb q r =>
    simp only [seqOf, Option.some.injEq] at h
    subst h
    exact ⟨a, true, vs, [], rfl, r.grow plus1_less (List.prefix_refl _) _ _, .inl ⟨q, .inr n⟩, fun _ => rfl, by simp⟩
  | @look xs' a vs h1 h2 q r =>
    simp only [seqOf, Option.some.injEq] at h
    subst h
    subst h1
    exact ⟨a, true, vs, [a], rfl, r, .inl ⟨q, .inl (by simp)⟩, fun z => absurd z (by simp), fun b hb => by
      have : b = a := by simpa using hb
      rw [this]
      exact ⟨h2, by rw [q]; simp⟩⟩
theorem Nw.grow {H H' : Hp} {E : Excl} (n : Nw H H') : Grow H H' E E := by
  rcases n with rfl | ⟨p, o, h, rfl⟩
  · exact Grow.refl _ _
  · exact ⟨fun a xs e => by rw [upd_ne (ne_of_none e h)]; exact e, fun a o u e => by rw [upd_ne (ne_of_none e h)]; exact e, fun a xs e n => ⟨by rw [upd_ne (ne_of_none e h)]; exact e, n⟩, fun a xs e n => ⟨by rw [upd_ne (ne_of_none e h)]; exact e, n⟩, fun a p e => by rw [upd_ne (ne_of_none e h)]; exact e, fun a p e => by rw [upd_ne (ne_of_none e h)]; exact e⟩
/-- J gives xs, one by one, while the lists of A stay -/
def WalkT (K : W.Frag) (A : List Addr) (φ : List Addr) (E : Excl) (xs : List T) (J : L2.It) (H : Hp) : Prop :=
  ∃ (G : List Addr → Excl → Hp → Prop) (Y : Nat → Hp → V → Hp → Prop), G φ E H ∧
    (∀ φ φ' E E' H H', G φ E H → Grow H H' E E' → φ <+: φ' → (∀ a ∈ A, ∀ vs, H a = some (.lst vs) → H' a = some (.lst vs)) → G φ' E' H') ∧
    Walk J xs.length (fun H => ∃ φ E, G φ E H) Y ∧
    ∀ i H x H' φ E, G φ E H → Y i H x H' → Nw H H' ∧ ∀ t, xs[i]? = some t → Rep K H' φ E t x
def strongI : It → Bool
  | .seq e => strong e
  | .rng1 _ => true
  | .rng2 _ _ => true
  | .rng3 _ _ _ => true
  | .enum e => strong e
  | .zip a b => strong a && strong b
def tI (K : W.Frag) (F : Fns) (it : It) : TI := fun σ H R => ∃ f w ρ S, SR K f w σ H ρ S ∧ ∃ xs S', evalI F ρ it S = .ok (xs, S') ∧
  ∀ J H' A, SR K f w σ H' ρ S' → Kp w.φ H H' → (strongI it = true → A = []) → (∀ a ∈ A, a ∉ w.φ ∧ H' a ≠ none) → WalkT K A w.φ w.tot xs J H' → R J H'
theorem _root_.L2.PI.mono {X : Cx} {tg e : Expr} {t t' : TI} (h : PI X tg e t) (m : ∀ σ H Q, t' σ H Q → t σ H Q) : PI X tg e t' := ⟨fun pins s σ H Q I q => h.run pins s σ H Q I (m σ H Q q)⟩

theorem enumT_len : ∀ (n : Nat) (xs : List T), (enumT n xs).length = xs.length
  | _, [] => rfl
  | n, x :: xs => by simp [enumT, enumT_len (n + 1) xs]
theorem enumT_get' : ∀ (n : Nat) (xs : List T) (i : Nat) (t : T), (enumT n xs)[i]? = some t → ∃ y, xs[i]? = some y ∧ t = .tup [.int ((n + i : Nat) : Int), y]
  | _, [], i, t, h => by simp [enumT] at h
  | n, x :: xs, 0, t, h => by
    simp only [enumT, List.getElem?_cons_zero, Option.some.injEq] at h
    exact ⟨x, rfl, by rw [← h]; simp⟩
  | n, x :: xs, i + 1, t, h => by
    simp only [enumT, List.getElem?_cons_succ] at h
    obtain ⟨y, h1, h2⟩ := enumT_get' (n + 1) xs i t h
    refine ⟨y, by simpa using h1, ?_⟩
    rw [h2]
    have : n + 1 + i = n + (i + 1) := by omega
    rw [this]
theorem enumT_get {xs : List T} {i : Nat} {t : T} (h : (enumT 0 xs)[i]? = some t) : ∃ y, xs[i]? = some y ∧ t = .tup [.int (i : Nat), y] := by
  obtain ⟨y, h1, h2⟩ := enumT_get' 0 xs i t h
  exact ⟨y, h1, by rw [h2]; simp⟩
theorem zipT_len : ∀ (xs ys : List T), (zipT xs ys).length = min xs.length ys.length
  | [], ys => by simp [zipT]
  | x :: xs, [] => by simp [zipT]
  | x :: xs, y :: ys => by simp [zipT, zipT_len xs ys]
theorem zipT_get : ∀ (xs ys : List T) (i : Nat) (t : T), (zipT xs ys)[i]? = some t → ∃ x y, xs[i]? = some x ∧ ys[i]? = some y ∧ t = .tup [x, y]
  | [], ys, i, t, h => by simp [zipT] at h
  | x :: xs, [], i, t, h => by simp [zipT] at h
  | x :: xs, y :: ys, 0, t, h => by
    simp only [zipT, List.getElem?_cons_zero, Option.some.injEq] at h
    exact ⟨x, y, rfl, rfl, h.symm⟩
  | x :: xs, y :: ys, i + 1, t, h => by
    simp only [zipT, List.getElem?_cons_succ] at h
    obtain ⟨u, v, h1, h2, h3⟩ := zipT_get xs ys i t h
    exact ⟨u, v, by simpa using h1, by simpa using h2, h3⟩
section
variable {X : Cx} {F : Fns} {a b c tg : Expr} {ca cb cc : CE} {pos : Pos}
theorem reps_getR {K : W.Frag} {H : Hp} {φ : List Addr} {E : Excl} {ts : List T} {vs : List V} {i : Nat} {t : T} {v : V} (r : Reps K H φ E ts vs) (h : ts[i]? = some t) (h' : vs[i]? = some v) : Rep K H φ E t v := by
  obtain ⟨u, h1, h2⟩ := r.get h
  rw [h1] at h'
  cases h'
  exact h2
theorem i_seq (ha : PE X a (tE X.K F ca)) : PI X tg a (tI X.K F (.seq ca)) :=
  (pi_seq ha).mono fun σ H Q ⟨f, w, ρ, S, s, xs, S', e, q⟩ => by
    simp only [evalI] at e
    obtain ⟨⟨x, S1⟩, e1, e⟩ := Res.bind_ok e
    obtain ⟨ys, e2, e⟩ := Res.bind_ok e
    cases e
    refine ⟨f, w, ρ, S, s, _, _, e1, fun v H1 s1 k1 r1 => ?_⟩
    obtain ⟨p, k, vs, A, rfl, rr, sq, st, hA⟩ := src_of s1.st.toDom r1 (Res.of_ok e2)
    refine ⟨p, k, rfl, ⟨vs, sq.sq⟩, q _ _ A s1 k1 st hA ⟨fun φ E H => Src X.K A E H k p vs ∧ Reps X.K H φ E xs vs, YAt vs, ⟨sq, rr⟩, ?_, ?_, ?_⟩⟩
    · rintro φ φ' E E' H H' ⟨g1, g2⟩ g pf hk
      exact ⟨g1.grow g hk, g2.grow g pf _ _⟩
    · rw [rr.len]
      exact (walk_q (K := X.K) (a := p) (xs := vs) k).mono (fun H ⟨φ, E, g⟩ => g.1.sq) fun i H x H' _ _ y => y
    · rintro i H x H' φ E ⟨g1, g2⟩ ⟨rfl, y⟩
      exact ⟨.inl rfl, fun t ht => reps_getR g2 ht y⟩
theorem i_enum {p epos tpos : Pos} {elts : List Expr} {kk : Nat} (hg : Gl X "enumerate") (hm : X.mg "enumerate" = none) (ha : PE X a (tE X.K F ca)) (hp : plainArg a = true) :
    PI X (.Tuple elts kk tpos) (.Call (.Name "enumerate" p) [a] [] epos) (tI X.K F (.enum ca)) :=
  (pi_enumq hg hm (pa_cons ha pa_nil (star_plain hp)) (star_plain hp)).mono fun σ H Q ⟨f, w, ρ, S, s, xs, S', e, q⟩ => by
    simp only [evalI] at e
    obtain ⟨⟨x, S1⟩, e1, e⟩ := Res.bind_ok e
    obtain ⟨ys, e2, e⟩ := Res.bind_ok e
    cases e
    refine ⟨f, w, ρ, S, s, _, _, e1, fun v H1 s1 k1 r1 => ?_⟩
    obtain ⟨p, k, vs, A, rfl, rr, sq, st, hA⟩ := src_of s1.st.toDom r1 (Res.of_ok e2)
    refine ⟨p, vs, k, rfl, sq.sq, q _ _ A s1 k1 st hA ⟨fun φ E H => Src X.K A E H k p vs ∧ Reps X.K H φ E ys vs, YPair (fun i => some (.int (i : Nat))) (fun i => vs[i]?), ⟨sq, rr⟩, ?_, ?_, ?_⟩⟩
    · rintro φ φ' E E' H H' ⟨g1, g2⟩ g pf hk
      exact ⟨g1.grow g hk, g2.grow g pf _ _⟩
    · rw [enumT_len, rr.len]
      exact (walk_enumq (K := X.K) (a := p) (xs := vs) k).mono (fun H ⟨φ, E, g⟩ => g.1.sq) fun i H x H' _ _ y => y
    · rintro i H x H' φ E ⟨g1, g2⟩ ⟨T', u, z, rfl, hn, rfl, hu, hz⟩
      have nw : Nw H (upd H T' (.tup [u, z])) := .inr ⟨T', _, hn, rfl⟩
      refine ⟨nw, fun t ht => ?_⟩
      obtain ⟨y, hy, rfl⟩ := enumT_get ht
      cases hu
      simp only [Rep]
      refine ⟨T', _, rfl, upd_same .., Reps.cons (by simp only [Rep]) (Reps.cons ?_ Reps.nil)⟩
      exact Rep.grow nw.grow (List.prefix_refl _) _ _ (reps_getR g2 hy hz)
theorem i_zip {p epos tpos : Pos} {elts : List Expr} {kk : Nat} (hg : Gl X "zip") (hm : X.mg "zip" = none) (ha : PE X a (tE X.K F ca)) (hp : plainArg a = true) (hb : PE X b (tE X.K F cb)) (hpb : plainArg b = true) :
    PI X (.Tuple elts kk tpos) (.Call (.Name "zip" p) [a, b] [] epos) (tI X.K F (.zip ca cb)) :=
  (pi_zipq hg hm (pa_cons ha (pa_cons hb pa_nil (star_plain hpb)) (star_plain hp)) (star_plain hp) (star_any (by simp [hpb]))).mono fun σ H Q ⟨f, w, ρ, S, s, xs, S', e, q⟩ => by
    simp only [evalI] at e
    obtain ⟨⟨x, S1⟩, e1, e⟩ := Res.bind_ok e
    obtain ⟨⟨y, S2⟩, e2, e⟩ := Res.bind_ok e
    obtain ⟨us, e3, e⟩ := Res.bind_ok e
    obtain ⟨ys, e4, e⟩ := Res.bind_ok e
    cases e
    refine ⟨f, w, ρ, S, s, _, _, e1, fun v H1 s1 k1 r1 => ⟨f, w, ρ, _, s1, _, _, e2, fun v2 H2 s2 k2 r2 => ?_⟩⟩
    obtain ⟨p, k, vs, A, rfl, rr, sq, st, hA⟩ := src_of s2.st.toDom (r1.after s1.st.toDom k2) (Res.of_ok e3)
    obtain ⟨p2, j, vs2, A2, rfl, rr2, sq2, st2, hA2⟩ := src_of s2.st.toDom r2 (Res.of_ok e4)
    refine ⟨p, p2, vs, vs2, k, j, rfl, sq.sq, sq2.sq, q _ _ (A ++ A2) s2 (k1.trans k2) (fun z => ?_) (fun x hx => ?_)
      ⟨fun φ E H => (Src X.K (A ++ A2) E H k p vs ∧ Reps X.K H φ E us vs) ∧ Src X.K (A ++ A2) E H j p2 vs2 ∧ Reps X.K H φ E ys vs2, YPair (fun i => vs[i]?) (fun i => vs2[i]?),
        ⟨⟨sq.mono fun _ h => List.mem_append_left _ h, rr⟩, sq2.mono fun _ h => List.mem_append_right _ h, rr2⟩, ?_, ?_, ?_⟩⟩
    · simp only [strongI, Bool.and_eq_true] at z
      rw [st z.1, st2 z.2]; rfl
    · rcases List.mem_append.mp hx with h | h
      · exact hA x h
      · exact hA2 x h
    · rintro φ φ' E E' H H' ⟨⟨g1, g2⟩, g3, g4⟩ g pf hk
      exact ⟨⟨g1.grow g hk, g2.grow g pf _ _⟩, g3.grow g hk, g4.grow g pf _ _⟩
    · rw [zipT_len, rr.len, rr2.len]
      exact (walk_zipq (K := X.K) (a := p) (b := p2) (xs := vs) (ys := vs2) k j).mono (fun H ⟨φ, E, g⟩ => ⟨g.1.1.sq, g.2.1.sq⟩) fun i H x H' _ _ y => y
    · rintro i H x H' φ E ⟨⟨g1, g2⟩, g3, g4⟩ ⟨T', u, z, rfl, hn, rfl, hu, hz⟩
      have nw : Nw H (upd H T' (.tup [u, z])) := .inr ⟨T', _, hn, rfl⟩
      refine ⟨nw, fun t ht => ?_⟩
      obtain ⟨x', y', hx, hy, rfl⟩ := zipT_get _ _ _ _ ht
      simp only [Rep]
      refine ⟨T', _, rfl, upd_same .., Reps.cons ?_ (Reps.cons ?_ Reps.nil)⟩
      · exact Rep.grow nw.grow (List.prefix_refl _) _ _ (reps_getR g2 hx hu)
      · exact Rep.grow nw.grow (List.prefix_refl _) _ _ (reps_getR g4 hy hz)
theorem walkT_fn {K : W.Frag} {φ : List Addr} {E : Excl} {H : Hp} {J : L2.It} {n : Nat} {g : Nat → Int} {xs : List T} (h : Walk J n (fun _ => True) (YFn fun i => V.int (g i))) (hl : xs.length = n) (hx : ∀ (i : Nat) (t : T), xs[i]? = some t → t = .int (g i)) : WalkT K [] φ E xs J H :=
  ⟨fun _ _ _ => True, YFn fun i => V.int (g i), trivial, fun _ _ _ _ _ _ _ _ _ _ => trivial, by rw [hl]; exact h.mono (fun _ _ => trivial) fun _ _ _ _ _ _ y => y, fun i H x H' φ E _ y => ⟨.inl y.1, fun t ht => by
    rw [hx i t ht]; simp only [Rep]; exact y.2⟩⟩
theorem rangeT_get {lo : Int} {n i : Nat} {t : T} (h : (rangeT lo n)[i]? = some t) : t = .int (lo + (i : Int)) := by
  simp only [rangeT, List.getElem?_map, Option.map_eq_some_iff] at h
  obtain ⟨j, h1, h2⟩ := h
  obtain ⟨hl, h1⟩ := List.getElem?_eq_some_iff.mp h1
  simp at h1
  subst h1
  exact h2.symm
theorem i_rng1 {p epos : Pos} (hg : Gl X "range") (hm : X.mg "range" = none) (ha : PE X a (tE X.K F ca)) (hp : plainArg a = true) :
    PI X tg (.Call (.Name "range" p) [a] [] epos) (tI X.K F (.rng1 ca)) :=
  (pi_range1 hg hm (pa_cons ha pa_nil (star_plain hp)) (star_plain hp)).mono fun σ H Q ⟨f, w, ρ, S, s, xs, S', e, q⟩ => by
    simp only [evalI] at e
    obtain ⟨⟨x, S1⟩, e1, e⟩ := Res.bind_ok e
    simp only at e
    split at e
    · rename_i j
      split at e
      · rename_i hj
        cases e
        refine ⟨f, w, ρ, S, s, _, _, e1, fun v H1 s1 k1 r1 => ⟨j, by rw [r1.lr.int], by omega, by omega, q _ _ [] s1 k1 (fun _ => rfl) (by simp) (walkT_fn walk_range (by simp [rangeT]) fun i t ht => rangeT_get ht)⟩⟩
      · cases e
    · cases e
theorem i_rng2 {p epos : Pos} (hg : Gl X "range") (hm : X.mg "range" = none) (ha : PE X a (tE X.K F ca)) (hp : plainArg a = true) (hb : PE X b (tE X.K F cb)) (hpb : plainArg b = true) :
    PI X tg (.Call (.Name "range" p) [a, b] [] epos) (tI X.K F (.rng2 ca cb)) :=
  (pi_range2 hg hm (pa_cons ha (pa_cons hb pa_nil (star_plain hpb)) (star_plain hp)) (by rw [star_plain hp, star_plain hpb]; rfl) (star_plain hpb)).mono fun σ H Q ⟨f, w, ρ, S, s, xs, S', e, q⟩ => by
    simp only [evalI] at e
    obtain ⟨⟨x, S1⟩, e1, e'⟩ := Res.bind_ok e
    obtain ⟨⟨y, S2⟩, e2, e''⟩ := Res.bind_ok e'
    clear e e'
    simp only at e''
    split at e''
    · rename_i i j
      split at e''
      · rename_i hj
        cases e''
        refine ⟨f, w, ρ, S, s, _, _, e1, fun v H1 s1 k1 r1 => ⟨f, w, ρ, _, s1, _, _, e2, fun v2 H2 s2 k2 r2 => ⟨i, j, by rw [r1.lr.int, r2.lr.int], ⟨by omega, by omega, by omega, by omega⟩, q _ _ [] s2 (k1.trans k2) (fun _ => rfl) (by simp) (walkT_fn walk_range (by simp [rangeT]) fun i t ht => rangeT_get ht)⟩⟩⟩
      · cases e''
    · cases e''
theorem reps_fn {K : W.Frag} {H : Hp} {φ : List Addr} {E : Excl} {f : Nat → T} {g : Nat → V} (h : ∀ i, Rep K H φ E (f i) (g i)) : ∀ L : List Nat, Reps K H φ E (L.map f) (L.map g)
  | [] => Reps.nil
  | i :: L => Reps.cons (h i) (reps_fn h L)
theorem reps_rg {K : W.Frag} {H : Hp} {φ : List Addr} {E : Excl} (i j : Int) : Reps K H φ E (rangeT i (j - i).toNat) (rgV i j) := reps_fn (fun k => by simp only [Rep]) _
theorem rg_fin {K : W.Frag} {H : Hp} {φ : List Addr} {E : Excl} {k : Bool} {i j : Int} {t : T} {Q : VK} (D : Dom φ E H) (e : rgT k i j = some t) (q : ∀ v H', Nw H H' → ER K φ E true H H' t v → Q v H') : RgOk i j ∧ ∀ p, H p = none → Q (.ref p) (upd H p (if k then .tup (rgV i j) else .lst (rgV i j))) := by
  unfold rgT at e
  split at e
  · rename_i c
    injection e with e
    refine ⟨⟨by omega, by omega, by omega, by omega, by omega⟩, fun p hp => ?_⟩
    cases k with
    | true =>
      simp only [if_true] at e ⊢
      subst e
      exact fin_tup D q hp (reps_rg i j)
    | false =>
      simp only [Bool.false_eq_true, if_false] at e ⊢
      subst e
      exact fin_own D q hp (reps_rg i j)
  · cases e
theorem s_rgL2 {p p' pos pos' : Pos} {k : Bool} {b : Expr} {cb : CE} (hc : X.calm = true) (hg : Gl X "range") (hm : X.mg "range" = none) (hgl : Gl X (Str.ofString (if k then "tuple" else "list"))) (hml : X.mg (Str.ofString (if k then "tuple" else "list")) = none) (ha : PE X a (tE X.K F ca)) (hp : plainArg a = true) (hb : PE X b (tE X.K F cb)) (hpb : plainArg b = true) :
    PE X (.Call (.Name (Str.ofString (if k then "tuple" else "list")) p') [.Call (.Name "range" p) [a, b] [] pos'] [] pos) (tE X.K F (.rgL2 k ca cb)) := by
  have hr := prg_2 (pos := pos') (p := p) hg hm ha hb (star_plain hp) (star_plain hpb) (star_any (by simp [hpb]))
  cases k with
  | true =>
    refine (pe_tupRg (p := p') (pos := pos) hc hgl hml hr).mono fun σ H Q ⟨f, w, ρ, S, s, t', S', e, q⟩ => ?_
    simp only [evalE] at e
    obtain ⟨⟨x, S1⟩, e1, e'⟩ := Res.bind_ok e
    obtain ⟨⟨y, S2⟩, e2, e''⟩ := Res.bind_ok e'
    clear e e'
    simp only at e''
    split at e''
    · rename_i i j
      obtain ⟨t, e3, e4⟩ := Res.bind_ok e''
      cases e4
      refine ⟨f, w, ρ, S, s, _, _, e1, fun v H1 s1 k1 r1 => ⟨f, w, ρ, _, s1, _, _, e2, fun v2 H2 s2 k2 r2 => ⟨i, j, r1.lr.int, r2.lr.int, ?_⟩⟩⟩
      exact rg_fin (k := true) s2.st.toDom (Res.of_ok e3) fun v H' n r => q v H' (s2.nw n) ((k1.trans k2).trans n.kp) (r.early (k1.trans k2).dom)
    · cases e''
  | false =>
    refine (pe_listRg (p := p') (pos := pos) hc hgl hml hr).mono fun σ H Q ⟨f, w, ρ, S, s, t', S', e, q⟩ => ?_
    simp only [evalE] at e
    obtain ⟨⟨x, S1⟩, e1, e'⟩ := Res.bind_ok e
    obtain ⟨⟨y, S2⟩, e2, e''⟩ := Res.bind_ok e'
    clear e e'
    simp only at e''
    split at e''
    · rename_i i j
      obtain ⟨t, e3, e4⟩ := Res.bind_ok e''
      cases e4
      refine ⟨f, w, ρ, S, s, _, _, e1, fun v H1 s1 k1 r1 => ⟨f, w, ρ, _, s1, _, _, e2, fun v2 H2 s2 k2 r2 => ⟨i, j, r1.lr.int, r2.lr.int, ?_⟩⟩⟩
      exact rg_fin (k := false) s2.st.toDom (Res.of_ok e3) fun v H' n r => q v H' (s2.nw n) ((k1.trans k2).trans n.kp) (r.early (k1.trans k2).dom)
    · cases e''
theorem s_rgL1 {p p' pos pos' : Pos} {k : Bool} (hc : X.calm = true) (hg : Gl X "range") (hm : X.mg "range" = none) (hgl : Gl X (Str.ofString (if k then "tuple" else "list"))) (hml : X.mg (Str.ofString (if k then "tuple" else "list")) = none) (ha : PE X a (tE X.K F ca)) (hp : plainArg a = true) :
    PE X (.Call (.Name (Str.ofString (if k then "tuple" else "list")) p') [.Call (.Name "range" p) [a] [] pos'] [] pos) (tE X.K F (.rgL1 k ca)) := by
  have hr := prg_1 (pos := pos') (p := p) hg hm ha (star_plain hp)
  cases k with
  | true =>
    refine (pe_tupRg (p := p') (pos := pos) hc hgl hml hr).mono fun σ H Q ⟨f, w, ρ, S, s, t', S', e, q⟩ => ?_
    simp only [evalE] at e
    obtain ⟨⟨x, S1⟩, e1, e⟩ := Res.bind_ok e
    simp only at e
    split at e
    · rename_i j
      obtain ⟨t, e3, e⟩ := Res.bind_ok e
      cases e
      refine ⟨f, w, ρ, S, s, _, _, e1, fun v H1 s1 k1 r1 => ⟨j, r1.lr.int, ?_⟩⟩
      exact rg_fin (k := true) s1.st.toDom (Res.of_ok e3) fun v H' n r => q v H' (s1.nw n) (k1.trans n.kp) (r.early k1.dom)
    · cases e
  | false =>
    refine (pe_listRg (p := p') (pos := pos) hc hgl hml hr).mono fun σ H Q ⟨f, w, ρ, S, s, t', S', e, q⟩ => ?_
    simp only [evalE] at e
    obtain ⟨⟨x, S1⟩, e1, e⟩ := Res.bind_ok e
    simp only at e
    split at e
    · rename_i j
      obtain ⟨t, e3, e⟩ := Res.bind_ok e
      cases e
      refine ⟨f, w, ρ, S, s, _, _, e1, fun v H1 s1 k1 r1 => ⟨j, r1.lr.int, ?_⟩⟩
      exact rg_fin (k := false) s1.st.toDom (Res.of_ok e3) fun v H' n r => q v H' (s1.nw n) (k1.trans n.kp) (r.early k1.dom)
    · cases e
theorem i_rng3 {p epos : Pos} (hg : Gl X "range") (hm : X.mg "range" = none) (ha : PE X a (tE X.K F ca)) (hp : plainArg a = true) (hb : PE X b (tE X.K F cb)) (hpb : plainArg b = true) (hc : PE X c (tE X.K F cc)) (hpc : plainArg c = true) :
    PI X tg (.Call (.Name "range" p) [a, b, c] [] epos) (tI X.K F (.rng3 ca cb cc)) :=
  (pi_range3 hg hm (pa_cons ha (pa_cons hb (pa_cons hc pa_nil (star_plain hpc)) (star_plain hpb)) (star_plain hp)) (star_plain hp) (star_any (by simp [hpb, hpc]))).mono fun σ H Q ⟨f, w, ρ, S, s, xs, S', e, q⟩ => by
    simp only [evalI] at e
    obtain ⟨⟨x, S1⟩, e1, e'⟩ := Res.bind_ok e
    obtain ⟨⟨y, S2⟩, e2, e''⟩ := Res.bind_ok e'
    obtain ⟨⟨z, S3⟩, e3, e'''⟩ := Res.bind_ok e''
    clear e e' e''
    simp only at e'''
    split at e'''
    · rename_i i j
      split at e'''
      · rename_i hj
        cases e'''
        refine ⟨f, w, ρ, S, s, _, _, e1, fun v H1 s1 k1 r1 => ⟨f, w, ρ, _, s1, _, _, e2, fun v2 H2 s2 k2 r2 => ⟨f, w, ρ, _, s2, _, _, e3, fun v3 H3 s3 k3 r3 => ⟨i, j, -1, _, by rw [r1.lr.int, r2.lr.int, r3.lr.int], RgC.neg (by omega) (by omega) (by omega) (by omega),
          q _ _ [] s3 ((k1.trans k2).trans k3) (fun _ => rfl) (by simp) (walkT_fn walk_rangeC (by simp) fun k t ht => ?_)⟩⟩⟩⟩
        simp only [List.getElem?_map, Option.map_eq_some_iff] at ht
        obtain ⟨m, h1, h2⟩ := ht
        obtain ⟨hl, h1⟩ := List.getElem?_eq_some_iff.mp h1
        simp at h1
        subst h1
        exact h2.symm
      · cases e'''
    · cases e'''

/-! ### comprehensions -/
def tCo (K : W.Frag) (F : Fns) (c : Option CE) : TT := fun σ H Q => ∃ f w ρ S, SR K f w σ H ρ S ∧ ∃ b S', evalC F ρ c S = .ok (b, S') ∧ ∀ H', SR K f w σ H' ρ S' → Kp w.φ H H' → Q b H'
theorem c_none : PTs X [] (tCo X.K F none) := ⟨fun pins s σ H Q I ⟨f, w, ρ, S, sr, b, S', e, q⟩ => by
  simp only [evalC, Res.ok.injEq, Prod.mk.injEq] at e
  obtain ⟨rfl, rfl⟩ := e
  exact pts_nil.run pins s σ H Q I (q H sr (Kp.refl _ _))⟩
theorem c_some (h : PT X c (tT X.K F cc)) : PTs X [c] (tCo X.K F (some cc)) := ⟨fun pins s σ H Q I ⟨f, w, ρ, S, sr, b, S', e, q⟩ => by
  simp only [evalC] at e
  obtain ⟨⟨t, S1⟩, e1, e⟩ := Res.bind_ok e
  obtain ⟨k, e2, e⟩ := Res.bind_ok e
  cases e
  exact (pts_one h).run pins s σ H Q I ⟨f, w, ρ, S, sr, t, _, e1, _, Res.of_ok e2, q⟩⟩
theorem StR.less {K : W.Frag} {φ : List Addr} {E E' : Excl} {H : Hp} {S : Store} (s : StR K φ E H S) (h : ∀ a, E' a → E a) (hp : ∀ a ∈ φ, E' a) : StR K φ E' H S := by
  refine ⟨s.len, s.nd, hp, fun a z => s.dom a (h a z), fun k t e => ?_, s.nl⟩
  obtain ⟨a, h1, h2⟩ := s.obj k t e
  refine ⟨a, h1, ?_⟩
  cases t with
  | own xs =>
    simp only [ObjR] at h2 ⊢
    obtain ⟨ws, q, r⟩ := h2
    exact ⟨ws, q, r.grow (Grow.less h) (List.prefix_refl _) _ _⟩
  | _ => simp only [ObjR] at h2
theorem wipe_ext {vs : List Nat} : ∀ {σ σ' : L2.St}, σ'.length = σ.length → (∀ j, j ∉ vs → σ'[j]? = σ[j]?) → wipe σ' vs = wipe σ vs := by
  intro σ σ' hl ho
  apply List.ext_getElem?
  intro j
  have key : ∀ (τ : L2.St) (vs : List Nat), (wipe τ vs)[j]? = if j ∈ vs ∧ j < τ.length then some none else τ[j]? := by
    intro τ vs
    induction vs with
    | nil => simp [wipe]
    | cons v vs ih =>
      simp only [wipe, List.getElem?_set, wipe_length]
      by_cases e : v = j
      · subst e
        by_cases hl : v < τ.length
        · simp [hl]
        · simp [hl]
      · rw [if_neg e, ih]
        have e' : j ≠ v := fun z => e z.symm
        simp [e']
  rw [key, key, hl]
  split
  · rfl
  · rename_i h
    by_cases hj : j ∈ vs
    · have : ¬ j < σ.length := fun z => h ⟨hj, z⟩
      rw [List.getElem?_eq_none (by omega), List.getElem?_eq_none (by omega)]
    · exact ho j hj
theorem drop_cons {α : Type} {xs : List α} {i : Nat} (h : i < xs.length) : xs.drop i = xs[i] :: xs.drop (i + 1) := by
  exact (List.getElem_cons_drop h).symm
theorem s_lc {own : List (Str × Nat)} {ctg : Tg} {cit : It} {cond : Option CE} {celt : CE} {σ : L2.St} {H : Hp} {Q : VK} (hst : strong celt = true)
    (h1 : ∀ v ∈ own.map (·.2), v ∈ ctg.names) (h2 : ∀ v ∈ ctg.names, v ∈ own.map (·.2)) {K : W.Frag}
    (h : tE K F (.comp celt ctg cit cond) σ H Q) : tLc (tI K F cit) (gT K ctg) (tCo K F cond) (tE K F celt) (own.map (·.2)) σ H Q := by
  obtain ⟨f, w, ρ, S, s, t, S', e, q⟩ := h
  simp only [evalE] at e
  obtain ⟨⟨xs, S1⟩, e1, e⟩ := Res.bind_ok e
  simp only at e
  split at e
  · rename_i hz
    obtain ⟨⟨ys, S2⟩, e2, e⟩ := Res.bind_ok e
    cases e
    refine ⟨f, w, ρ, S, s, xs, S1, e1, fun J H1 A s1 k1 _ hA ⟨G, Y, g0, gg, wk, yl⟩ D hD => ?_⟩
    generalize own.map (·.2) = vs at h1 h2 ⊢
    have nD : ¬ w.tot D := s1.free hD
    have nφ : D ∉ w.φ := fun z => nD (.inl (s1.pe D z))
    have sA := (s1.apart (vs := []) hD)
    have kA : Kp w.φ H1 (upd H1 D (.lst [])) := Kp.new hD
    have szle : xs.length ≤ 1000000 := by simpa [szOk] using hz
    have keepA : ∀ H', Kp w.φ H1 H' → ∀ a ∈ A, ∀ H2, Kp w.φ H' H2 → ∀ us, H' a = some (.lst us) → H2 a = some (.lst us) := fun H' k a ha H2 k2 us hu => k2.keep a _ hu (hA a ha).1
    have neA : ∀ a ∈ A, a ≠ D := fun a ha z => (hA a ha).2 (by rw [z]; exact hD)
    generalize hstep : (fun (x : T) (S : Store) => (Res.of (bindT ctg x ρ)).bind fun ρ' => do
      let (k, S) ← evalC F ρ' cond S
      if k then do
        let (y, S) ← evalE F ρ' celt S
        .ok (some y, S)
      else .ok (none, S)) = step at e2
    refine lc_it wk (fun i H => ∃ S3 acc vacc, SR K f (w.apart D) (wipe σ vs) H (clear ρ vs) S3 ∧ Kp w.φ H1 H ∧ G w.φ (w.apart D).tot H ∧ H D = some (.lst vacc) ∧ Reps K H w.φ (w.apart D).tot acc vacc ∧ acc.length ≤ i ∧
      ∃ rest, compL step (xs.drop i) S3 = .ok (rest, S2) ∧ ys = acc ++ rest) ?_ ?_ ?_ ?_
    · refine ⟨S1, [], [], sA.wipe vs, kA, gg _ _ _ _ _ _ g0 ⟨fun a us z => by rw [upd_ne (ne_of_none z hD)]; exact z, fun a o u z => by rw [upd_ne (ne_of_none z hD)]; exact z, fun a us z n => ⟨by rw [upd_ne (ne_of_none z hD)]; exact z, fun y => ?_⟩, fun a us z n => ⟨by rw [upd_ne (ne_of_none z hD)]; exact z, fun y => (apart_tot.mp y).elim n fun y => ne_of_none z hD y⟩, fun a p z => by rw [upd_ne (ne_of_none z hD)]; exact z, fun a p z => by rw [upd_ne (ne_of_none z hD)]; exact z⟩ (List.prefix_refl _) fun a ha us z => by rw [upd_ne (neA a ha)]; exact z, upd_same .., Reps.nil, Nat.le_refl _, ys, by rw [List.drop_zero]; exact e2, rfl⟩
      rcases apart_tot.mp y with y | y
      · exact n y
      · exact ne_of_none z hD y
    · rintro i H2 hi ⟨S3, acc, vacc, _, _, g, _⟩
      exact ⟨_, _, g⟩
    · rintro i x H2 H3 hi ⟨S3, acc, vacc, s3, k3, g3, d3, r3, l3, rest, e3, ey⟩ y3
      obtain ⟨nw, hr⟩ := yl i H2 x H3 _ _ g3 y3
      have hx := hr xs[i] (by simp [hi])
      rw [drop_cons hi] at e3
      simp only [compL] at e3
      obtain ⟨⟨o, S4⟩, e4, e3⟩ := Res.bind_ok e3
      obtain ⟨⟨zs, S5⟩, e5, e3⟩ := Res.bind_ok e3
      rw [← hstep] at e4
      obtain ⟨ρ', e6, e4⟩ := Res.bind_ok e4
      obtain ⟨⟨k, S6⟩, e7, e4⟩ := Res.bind_ok e4
      have e6' := bind_clear0 (Res.of_ok e6) h1
      have s3' := s3.nw nw
      -- behind the turn, with H4 and S4
      have fin : ∀ H4, Kp w.φ H2 H4 → StR K w.φ (w.apart D).tot H4 S4 → SR K f (w.apart D) (wipe σ vs) H4 (clear ρ vs) S4 ∧ Kp w.φ H1 H4 ∧ G w.φ (w.apart D).tot H4 ∧ H4 D = some (.lst vacc) ∧ Reps K H4 w.φ (w.apart D).tot acc vacc := fun H4 k4 st4 =>
        have gr := s3.grow k4
        ⟨s3.after k4 st4, k3.trans k4, gg _ _ _ _ _ _ g3 gr (List.prefix_refl _) fun a ha us z => k4.keep a _ z (hA a ha).1, k4.keep D _ d3 nφ, r3.grow gr (List.prefix_refl _) _ _⟩
      refine ⟨f, w.apart D, clear ρ vs, S3, xs[i], ρ', s3', hx, e6', fun σ2 s4 l4 o4 => ⟨?_, f, w.apart D, ρ', S3, s4, k, S6, e7, fun H5 s5 k5 => ?_⟩⟩
      · have : wipe σ2 vs = wipe (wipe σ vs) vs := wipe_ext l4 fun j hj => o4 j fun z => hj (h2 j z)
        rw [this]
        exact wipe_ext (wipe_length σ vs) fun j hj => by
          have key : ∀ us : List Nat, j ∉ us → (wipe σ us)[j]? = σ[j]? := by
            intro us
            induction us with
            | nil => intro _; rfl
            | cons v us ih =>
              intro hn
              simp only [List.mem_cons, not_or] at hn
              simp only [wipe]
              rw [List.getElem?_set_ne (fun z => hn.1 z.symm)]
              exact ih hn.2
          exact key vs hj
      · have k25 : Kp w.φ H2 H5 := nw.kp.trans k5
        cases k with
        | true =>
          show tE K F celt σ2 H5 _
          simp only [if_true] at e4
          obtain ⟨⟨y, S7⟩, e8, e4⟩ := Res.bind_ok e4
          cases e4
          simp only at e3
          cases e3
          refine ⟨f, w.apart D, ρ', S6, s5, y, _, e8, fun v H6 s6 k6 r6 => ?_⟩
          rw [hst] at r6
          obtain ⟨q1, q2, q3, q4, q5⟩ := fin H6 (k25.trans k6) s6.st
          have ED : (w.apart D).E D := .inr rfl
          have gt : Grow H6 (upd H6 D (.lst (vacc ++ [v]))) (w.apart D).tot (w.apart D).tot :=
            ⟨fun a us z => by rw [upd_ne (fun y => by rw [y, q4] at z; cases z)]; exact z, fun a o u z => by rw [upd_ne (fun y => by rw [y, q4] at z; cases z)]; exact z, fun a us z n => ⟨by rw [upd_ne (fun y => n (by rw [y]; exact .inl ED))]; exact z, n⟩, fun a us z n => ⟨by rw [upd_ne (fun y => n (by rw [y]; exact .inl ED))]; exact z, n⟩, fun a p z => by rw [upd_ne (fun y => by rw [y, q4] at z; cases z)]; exact z, fun a p z => by rw [upd_ne (fun y => by rw [y, q4] at z; cases z)]; exact z⟩
          refine ⟨vacc, q4, ?_, S7, acc ++ [y.view], vacc ++ [v], q1.touch ED nφ (s1.dom0 hD) q4, ⟨fun a o z n => ?_, fun a z => ?_⟩, gg _ _ _ _ _ _ q3 gt (List.prefix_refl _) fun a ha us z => by rw [upd_ne (neA a ha)]; exact z, upd_same .., (q5.append (Reps.cons r6.view Reps.nil)).grow gt (List.prefix_refl _) _ _, by simp; omega, zs, e5, by rw [ey]; simp⟩
          · rw [← q5.len, sizeLine_eq]; omega
          · rw [upd_ne (ne_of_none z hD)]
            exact q2.keep a o z n
          · by_cases y : a = D
            · rw [y, upd_same]; simp
            · rw [upd_ne y]; exact q2.dom a z
        | false =>
          refine iteF ?_
          simp only [Bool.false_eq_true, if_false] at e4
          cases e4
          simp only at e3
          cases e3
          obtain ⟨q1, q2, q3, q4, q5⟩ := fin H5 k25 s5.st
          exact ⟨_, acc, vacc, q1, q2, q3, q4, q5, by omega, rest, e5, ey⟩
    · rintro H2 ⟨S3, acc, vacc, s3, k3, g3, d3, r3, l3, rest, e3, ey⟩
      rw [List.drop_length] at e3
      simp only [compL, Res.ok.injEq, Prod.mk.injEq] at e3
      obtain ⟨rfl, rfl⟩ := e3
      rw [List.append_nil] at ey
      subst ey
      refine q _ _ (s1.after k3 (s3.st.less (fun a z => apart_tot.mpr (.inl z)) fun a ha => .inl (s1.pe a ha))) (k1.trans k3) (.new nD ?_ d3 (reps_apart r3))
      cases z : H D with
      | none => rfl
      | some o => exact absurd hD (k1.dom D (by rw [z]; simp))
  · cases e
theorem s_comp {elt tg iter : Expr} {ifs : List Expr} {scope : Scope} {own : List (Str × Nat)} {ctg : Tg} {cit : It} {cond : Option CE} {celt : CE} (hst : strong celt = true)
    (h1 : ∀ v ∈ own.map (·.2), v ∈ ctg.names) (h2 : ∀ v ∈ ctg.names, v ∈ own.map (·.2)) (hc : X.calm = true) (hN : X.N.Nodup) (hi : PI X tg iter (tI X.K F cit)) (ok : BlkOk X.N X.env.scope scope own)
    (hg : ∀ (s : Shared) (H : Hp) (C : Addr) (cl : List (Str × Addr)) (fp : List Addr), PG (X.blk s H scope (compEnvC scope cl C X.env) fp) tg (gT X.K ctg)) (ht : ∀ (s : Shared) (H : Hp) (C : Addr) (cl : List (Str × Addr)) (fp : List Addr), PTs (X.blk s H scope (compEnvC scope cl C X.env) fp) ifs (tCo X.K F cond))
    (he : ∀ (s : Shared) (H : Hp) (C : Addr) (cl : List (Str × Addr)) (fp : List Addr), PE (X.blk s H scope (compEnvC scope cl C X.env) fp) elt (tE X.K F celt)) (hs : ∀ x, foldedSetIterable iter X.env x = pure x) :
    PE X (.ListComp elt [⟨tg, iter, ifs, 0⟩] scope pos) (tE X.K F (.comp celt ctg cit cond)) :=
  (pe_lc hc hN hi ok hg ht he hs).mono fun σ H Q h => s_lc hst h1 h2 h
end
end Ip

set_option maxHeartbeats 4000000
/-! Ip7: statements. -/
namespace Ip
open PySem PySem.Spec PyProof.Rows L2

section
variable {K : W.Frag} {H H' H1 : Hp} {φ : List Addr} {E E' : Excl} {S S1 S' : Store} {f : Fm} {w : Wd} {σ : L2.St} {ρ : En}
mutual
theorem Rep.ex : ∀ (t : T) (v : V), nl t = true → Rep K H φ E t v → Rep K H φ E' t v
  | .non, v, _, h => by simp only [Rep] at h ⊢; exact h
  | .bl b, v, _, h => by simp only [Rep] at h ⊢; exact h
  | .int i, v, _, h => by simp only [Rep] at h ⊢; exact h
  | .str s, v, _, h => by simp only [Rep] at h ⊢; exact h
  | .tup xs, v, n, h => by
    simp only [Rep] at h ⊢
    obtain ⟨a, vs, e, s, r⟩ := h
    exact ⟨a, vs, e, s, Reps.ex xs vs (by simpa only [nl] using n) r⟩
  | .lst xs, v, n, h => by simp [nl] at n
  | .frz ns, v, _, h => by simp only [Rep] at h ⊢; exact h
  | .ref k, v, _, h => by simp only [Rep] at h ⊢; exact h
  | .own _, v, _, h => by simp only [Rep] at h
  | .fn _ _, v, _, h => by simp only [Rep] at h ⊢; exact h
  | .exv _ _, v, _, h => by simp only [Rep] at h ⊢; exact h
  | .dct _ _ _, v, n, h => by simp [nl] at n
  | .ctup _, v, n, h => by simp [nl] at n
  | .odct _ _ _, v, _, h => by simp only [Rep] at h
theorem Reps.ex : ∀ (ts : List T) (vs : List V), nls ts = true → Reps K H φ E ts vs → Reps K H φ E' ts vs
  | [], vs, _, h => by simp only [Reps] at h ⊢; exact h
  | x :: xs, vs, n, h => by
    simp only [nls, Bool.and_eq_true] at n
    simp only [Reps] at h ⊢
    obtain ⟨v, r, e, h1, h2⟩ := h
    exact ⟨v, r, e, Rep.ex x v n.1 h1, Reps.ex xs r n.2 h2⟩
end
theorem StR.ex (s : StR K φ E H S) (hp : ∀ a ∈ φ, E' a) (hd : ∀ a, E' a → H a ≠ none) : StR K φ E' H S := by
  refine ⟨s.len, s.nd, hp, hd, fun k t e => ?_, s.nl⟩
  obtain ⟨a, h1, h2⟩ := s.obj k t e
  refine ⟨a, h1, ?_⟩
  cases t with
  | own xs =>
    simp only [ObjR] at h2 ⊢
    obtain ⟨ws, q, r⟩ := h2
    exact ⟨ws, q, r.ex _ _ (s.nl k xs e)⟩
  | _ => simp only [ObjR] at h2

/-! ### lists set apart -/
def Wd.aparts (w : Wd) (L : List Addr) : Wd := { w with E := fun b => w.E b ∨ b ∈ L }
theorem aparts_nil : w.aparts [] = w := by
  unfold Wd.aparts
  simp
theorem aparts_cons (a : Addr) (L : List Addr) : (w.apart a).aparts L = w.aparts (a :: L) := by
  unfold Wd.aparts Wd.apart plus1
  congr 1
  funext b
  apply propext
  simp only [List.mem_cons]
  exact or_assoc
theorem aparts_tot {L : List Addr} {a : Addr} : (w.aparts L).tot a ↔ w.tot a ∨ a ∈ L := by
  constructor
  · rintro ((h | h) | h)
    · exact .inl (.inl h)
    · exact .inr h
    · exact .inl (.inr h)
  · rintro ((h | h) | h)
    · exact .inl (.inl h)
    · exact .inr h
    · exact .inl (.inr h)
theorem SR.fresh {a : Addr} (s : SR K f w σ H ρ S) (k : Kp w.φ H H1) (st : StR K w.φ w.tot H1 S1) (ha : H a = none) (h1 : H1 a ≠ none) : SR K f (w.apart a) σ H1 ρ S1 := by
  have g : Grow H H1 w.tot (w.apart a).tot := by
    have g := s.grow k
    refine ⟨g.tups, g.frzs, fun b xs e n => ⟨(g.lsts b xs e n).1, fun z => ?_⟩, fun b xs e n => ⟨(g.dcts b xs e n).1, fun z => ?_⟩, g.exts, g.xds⟩
    · rcases apart_tot.mp z with z | z
      · exact n z
      · rw [z, ha] at e; cases e
    · rcases apart_tot.mp z with z | z
      · exact n z
      · rw [z, ha] at e; cases e
  have s1 := s.after k st
  refine ⟨st.ex (fun b hb => .inl (.inl (s.pe b hb))) fun b z => ?_, fun b hb => .inl (s.pe b hb), s.mnew, fun i b m z => ?_, s.minj, fun b e => .inl (s.eE b e), s.pre, s.nφ, s1.k0, s.slen, fun i t e => ?_⟩
  · rcases apart_tot.mp z with z | z
    · exact st.dom b z
    · rw [z]; exact h1
  · rcases z with z | z
    · exact s.mE i b m z
    · exact s.st.dom b (.inr ⟨i, m⟩) (by rw [z]; exact ha)
  · obtain ⟨v, h1, h2⟩ := s.slots i t e
    refine ⟨v, h1, ?_⟩
    cases t with
    | own xs =>
      simp only [SlotR] at h2 ⊢
      obtain ⟨b, ws, e, m, q, r⟩ := h2
      exact ⟨b, ws, e, m, k.keep b _ q (s.muφ m), r.grow g (List.prefix_refl _) _ _⟩
    | odct ks xs =>
      simp only [SlotR] at h2 ⊢
      obtain ⟨b, ws, e, m, q, hl, r⟩ := h2
      exact ⟨b, ws, e, m, k.keep b _ q (s.muφ m), hl, r.grow g (List.prefix_refl _) _ _⟩
    | _ => simp only [SlotR] at h2 ⊢; exact Rep.grow g (List.prefix_refl _) _ _ h2
/-- other exclusions, fewer of them -/
theorem SR.re (s : SR K f w σ H ρ S) (w' : Wd) (hφ : w'.φ = w.φ) (ht : ∀ a, w'.tot a → w.tot a) (hpe : ∀ a ∈ w.φ, w'.E a) (hn : ∀ i a, w'.μ i = some a → f.H0 a = none) (hE : ∀ i a, w'.μ i = some a → ¬ w'.E a)
    (hi : ∀ i j a, w'.μ i = some a → w'.μ j = some a → i = j) (he : ∀ a, f.E0 a → w'.E a) (hμ : ∀ i t, ρ.get i = some t → w'.μ i = w.μ i ∨ t.isOwn = false) : SR K f w' σ H ρ S := by
  refine ⟨by rw [hφ]; exact s.st.less ht fun a ha => .inl (hpe a ha), by rw [hφ]; exact hpe, hn, hE, hi, he, by rw [hφ]; exact s.pre, by rw [hφ]; exact s.nφ, s.k0, s.slen, fun i t e => ?_⟩
  obtain ⟨v, h1, h2⟩ := s.slots i t e
  refine ⟨v, h1, ?_⟩
  have g : Grow H H w.tot w'.tot := Grow.less ht
  cases t with
  | own xs =>
    simp only [SlotR] at h2 ⊢
    obtain ⟨b, ws, e', m, q, r⟩ := h2
    rw [hφ]
    rcases hμ i _ e with hm | hm
    · exact ⟨b, ws, e', by rw [hm]; exact m, q, r.grow g (List.prefix_refl _) _ _⟩
    · cases hm
  | odct ks xs =>
    simp only [SlotR] at h2 ⊢
    obtain ⟨b, ws, e', m, q, hl, r⟩ := h2
    rw [hφ]
    rcases hμ i _ e with hm | hm
    · exact ⟨b, ws, e', by rw [hm]; exact m, q, hl, r.grow g (List.prefix_refl _) _ _⟩
    · cases hm
  | _ => simp only [SlotR] at h2 ⊢; rw [hφ]; exact Rep.grow g (List.prefix_refl _) _ _ h2
theorem SR.del (s : SR K f w σ H ρ S) (i : Nat) : SR K f w σ H (ρ.del i) S := by
  refine ⟨s.st, s.pe, s.mnew, s.mE, s.minj, s.eE, s.pre, s.nφ, s.k0, by rw [En.del_len]; exact s.slen, fun j t e => ?_⟩
  rw [En.get_del] at e
  split at e
  · cases e
  · exact s.slots j t e
theorem SR.putO {i : Nat} {a : Addr} {xs : List T} {vs : List V} (s : SR K f w σ H ρ S) (m : w.μ i = some a) (h : H a = some (.lst vs)) (r : Reps K H w.φ w.tot xs vs) : SR K f w (σ.set i (some (.ref a))) H (ρ.put i (.own xs)) S := by
  refine ⟨s.st, s.pe, s.mnew, s.mE, s.minj, s.eE, s.pre, s.nφ, s.k0, by rw [List.length_set, En.put_len]; exact s.slen, fun j u e => ?_⟩
  rw [En.get_put] at e
  split at e
  · rename_i z
    subst z
    split at e
    · rename_i hl
      cases e
      refine ⟨.ref a, by rw [List.getElem?_set_self (by rw [s.slen]; exact hl)], ?_⟩
      simp only [SlotR]
      exact ⟨a, vs, rfl, m, h, r⟩
    · cases e
  · rename_i z
    obtain ⟨x, h1, h2⟩ := s.slots j u e
    exact ⟨x, by rw [List.getElem?_set_ne (fun y => z y.symm)]; exact h1, h2⟩
theorem SR.putOD {i : Nat} {a : Addr} {mm : Option Bool} {ks : List (List L2.Key)} {xs : List T} {vs : List V} (s : SR K f w σ H ρ S) (m : w.μ i = some a) (h : H a = some (dOb a mm ks vs)) (hl : DL mm ks xs) (r : Reps K H w.φ w.tot xs vs) : SR K f w (σ.set i (some (.ref a))) H (ρ.put i (.odct ks xs mm)) S := by
  refine ⟨s.st, s.pe, s.mnew, s.mE, s.minj, s.eE, s.pre, s.nφ, s.k0, by rw [List.length_set, En.put_len]; exact s.slen, fun j u e => ?_⟩
  rw [En.get_put] at e
  split at e
  · rename_i z
    subst z
    split at e
    · rename_i hl'
      cases e
      refine ⟨.ref a, by rw [List.getElem?_set_self (by rw [s.slen]; exact hl')], ?_⟩
      simp only [SlotR]
      exact ⟨a, vs, rfl, m, h, hl, r⟩
    · cases e
  · rename_i z
    obtain ⟨x, h1, h2⟩ := s.slots j u e
    exact ⟨x, by rw [List.getElem?_set_ne (fun y => z y.symm)]; exact h1, h2⟩
def Wd.setμ (w : Wd) (i : Nat) (a : Addr) : Wd := { w with μ := fun j => if j = i then some a else w.μ j }
/-- a list set apart is given to a slot -/
theorem SR.give {i : Nat} {a : Addr} {L : List Addr} {xs : List T} {vs : List V} (s : SR K f (w.aparts (a :: L)) σ H ρ S) (n : ¬ w.tot a) (nL : a ∉ L) (h0 : f.H0 a = none) (h : H a = some (.lst vs)) (r : Reps K H w.φ (w.aparts (a :: L)).tot xs vs)
    (pe : ∀ b ∈ w.φ, w.E b) (eE : ∀ b, f.E0 b → w.E b) : SR K f ((w.setμ i a).aparts L) (σ.set i (some (.ref a))) H (ρ.put i (.own xs)) S := by
  have tt : ∀ b, ((w.setμ i a).aparts L).tot b → (w.aparts (a :: L)).tot b := by
    intro b z
    rw [aparts_tot] at z ⊢
    rcases z with (z | ⟨j, z⟩) | z
    · exact .inl (.inl z)
    · simp only [Wd.setμ] at z
      split at z
      · cases z; exact .inr (by simp)
      · exact .inl (.inr ⟨j, z⟩)
    · exact .inr (by simp [z])
  have s2 : SR K f ((w.setμ i a).aparts L) σ H (ρ.del i) S := by
    refine (s.del i).re _ rfl tt (fun b hb => .inl (pe b hb)) (fun j b m => ?_) (fun j b m z => ?_) (fun j j' b m m' => ?_) (fun b e => .inl (eE b e)) fun j ys e => ?_
    · simp only [Wd.setμ, Wd.aparts] at m
      split at m
      · cases m; exact h0
      · exact s.mnew j b m
    · simp only [Wd.setμ, Wd.aparts] at m z
      split at m
      · cases m
        rcases z with z | z
        · exact n (.inl z)
        · exact nL z
      · rcases z with z | z
        · exact s.mE j b m (.inl z)
        · exact s.mE j b m (.inr (by simp [z]))
    · simp only [Wd.setμ, Wd.aparts] at m m'
      split at m
      · rename_i e
        split at m'
        · rename_i e'; rw [e, e']
        · cases m; exact absurd (.inr ⟨j', m'⟩) n
      · split at m'
        · cases m'; exact absurd (.inr ⟨j, m⟩) n
        · exact s.minj j j' b m m'
    · rw [En.get_del] at e
      split at e
      · cases e
      · rename_i ne
        simp only [Wd.setμ, Wd.aparts]
        rw [if_neg ne]
        exact .inl rfl
  rw [← En.put_del]
  refine s2.putO (by simp [Wd.setμ, Wd.aparts]) h (r.grow (Grow.less tt) (List.prefix_refl _) _ _)
/-- a list set apart is given to a slot -/
theorem SR.giveD {i : Nat} {a : Addr} {L : List Addr} {mm : Option Bool} {ks : List (List L2.Key)} {xs : List T} {vs : List V} (s : SR K f (w.aparts (a :: L)) σ H ρ S) (n : ¬ w.tot a) (nL : a ∉ L) (h0 : f.H0 a = none) (h : H a = some (dOb a mm ks vs)) (hl : DL mm ks xs) (r : Reps K H w.φ (w.aparts (a :: L)).tot xs vs)
    (pe : ∀ b ∈ w.φ, w.E b) (eE : ∀ b, f.E0 b → w.E b) : SR K f ((w.setμ i a).aparts L) (σ.set i (some (.ref a))) H (ρ.put i (.odct ks xs mm)) S := by
  have tt : ∀ b, ((w.setμ i a).aparts L).tot b → (w.aparts (a :: L)).tot b := by
    intro b z
    rw [aparts_tot] at z ⊢
    rcases z with (z | ⟨j, z⟩) | z
    · exact .inl (.inl z)
    · simp only [Wd.setμ] at z
      split at z
      · cases z; exact .inr (by simp)
      · exact .inl (.inr ⟨j, z⟩)
    · exact .inr (by simp [z])
  have s2 : SR K f ((w.setμ i a).aparts L) σ H (ρ.del i) S := by
    refine (s.del i).re _ rfl tt (fun b hb => .inl (pe b hb)) (fun j b m => ?_) (fun j b m z => ?_) (fun j j' b m m' => ?_) (fun b e => .inl (eE b e)) fun j ys e => ?_
    · simp only [Wd.setμ, Wd.aparts] at m
      split at m
      · cases m; exact h0
      · exact s.mnew j b m
    · simp only [Wd.setμ, Wd.aparts] at m z
      split at m
      · cases m
        rcases z with z | z
        · exact n (.inl z)
        · exact nL z
      · rcases z with z | z
        · exact s.mE j b m (.inl z)
        · exact s.mE j b m (.inr (by simp [z]))
    · simp only [Wd.setμ, Wd.aparts] at m m'
      split at m
      · rename_i e
        split at m'
        · rename_i e'; rw [e, e']
        · cases m; exact absurd (.inr ⟨j', m'⟩) n
      · split at m'
        · cases m'; exact absurd (.inr ⟨j, m⟩) n
        · exact s.minj j j' b m m'
    · rw [En.get_del] at e
      split at e
      · cases e
      · rename_i ne
        simp only [Wd.setμ, Wd.aparts]
        rw [if_neg ne]
        exact .inl rfl
  rw [← En.put_del]
  refine s2.putOD (by simp [Wd.setμ, Wd.aparts]) h hl (r.grow (Grow.less tt) (List.prefix_refl _) _ _)
/-- .. is kept as a plain one -/
theorem SR.plain {i : Nat} {a : Addr} {L : List Addr} {xs : List T} {vs : List V} (s : SR K f (w.aparts (a :: L)) σ H ρ S) (n : ¬ w.tot a) (nL : a ∉ L) (h : H a = some (.lst vs)) (r : Reps K H w.φ (w.aparts (a :: L)).tot xs vs)
    (pe : ∀ b ∈ w.φ, w.E b) (eE : ∀ b, f.E0 b → w.E b) : SR K f (w.aparts L) (σ.set i (some (.ref a))) H (ρ.put i (.lst xs)) S := by
  have tt : ∀ b, (w.aparts L).tot b → (w.aparts (a :: L)).tot b := by
    intro b z
    rw [aparts_tot] at z ⊢
    rcases z with z | z
    · exact .inl z
    · exact .inr (by simp [z])
  have s2 : SR K f (w.aparts L) σ H ρ S := by
    refine s.re _ rfl tt (fun b hb => .inl (pe b hb)) s.mnew (fun j b m z => ?_) s.minj (fun b e => .inl (eE b e)) fun j ys e => .inl rfl
    rcases z with z | z
    · exact s.mE j b m (.inl z)
    · exact s.mE j b m (.inr (by simp [z]))
  refine s2.put ?_
  simp only [Rep]
  refine ⟨a, vs, rfl, fun z => ?_, h, r.grow (Grow.less tt) (List.prefix_refl _) _ _⟩
  rcases aparts_tot.mp z with z | z
  · exact n z
  · exact nL z
theorem SR.plainD {i : Nat} {a : Addr} {L : List Addr} {mm : Option Bool} {ks : List (List L2.Key)} {xs : List T} {vs : List V} (s : SR K f (w.aparts (a :: L)) σ H ρ S) (n : ¬ w.tot a) (nL : a ∉ L) (h : H a = some (dOb a mm ks vs)) (hl : DL mm ks xs) (r : Reps K H w.φ (w.aparts (a :: L)).tot xs vs)
    (pe : ∀ b ∈ w.φ, w.E b) (eE : ∀ b, f.E0 b → w.E b) : SR K f (w.aparts L) (σ.set i (some (.ref a))) H (ρ.put i (.dct ks xs mm)) S := by
  have tt : ∀ b, (w.aparts L).tot b → (w.aparts (a :: L)).tot b := by
    intro b z
    rw [aparts_tot] at z ⊢
    rcases z with z | z
    · exact .inl z
    · exact .inr (by simp [z])
  have s2 : SR K f (w.aparts L) σ H ρ S := by
    refine s.re _ rfl tt (fun b hb => .inl (pe b hb)) s.mnew (fun j b m z => ?_) s.minj (fun b e => .inl (eE b e)) fun j ys e => .inl rfl
    rcases z with z | z
    · exact s.mE j b m (.inl z)
    · exact s.mE j b m (.inr (by simp [z]))
  refine s2.put ?_
  simp only [Rep]
  refine ⟨a, vs, rfl, fun z => ?_, h, hl, r.grow (Grow.less tt) (List.prefix_refl _) _ _⟩
  rcases aparts_tot.mp z with z | z
  · exact n z
  · exact nL z
end

/-! ### readings of statements -/
def Ext (w w' : Wd) (H H' : Hp) : Prop := Grow H H' w.tot w'.tot ∧ w.φ <+: w'.φ
theorem Ext.refl (w : Wd) (H : Hp) : Ext w w H H := ⟨Grow.refl _ _, List.prefix_refl _⟩
theorem Ext.trans {w w1 w2 : Wd} {H H1 H2 : Hp} (a : Ext w w1 H H1) (b : Ext w1 w2 H1 H2) : Ext w w2 H H2 := ⟨a.1.trans b.1, a.2.trans b.2⟩
def EndOf (K : W.Frag) (f : Fm) (w : Wd) (H : Hp) (D : Ends) (Wx : WX) : Fl → Prop
  | .nx ρ S => ∀ w' σ' H', SR K f w' σ' H' ρ S → Ext w w' H H' → D.nx σ' H'
  | .bk ρ S => ∀ w' σ' H', SR K f w' σ' H' ρ S → Ext w w' H H' → D.bk σ' H'
  | .ct ρ S => ∀ w' σ' H', SR K f w' σ' H' ρ S → Ext w w' H H' → D.ct σ' H'
  | .rt t S => ∀ v w' σ' ρ' H', SR K f w' σ' H' ρ' S → ER K w'.φ w'.tot true f.H0 H' t v → D.rt v H'
  | .xc c as ρ S => ∀ cls d w' σ' H', SR K f w' σ' H' ρ S → Ext w w' H H' → XR K H' c as cls d → Wx cls d σ' H'
def tS (K : W.Frag) (F : Fns) (Wx : WX) (c : CS) : TS := fun D σ H => ∃ f w ρ S, SR K f w σ H ρ S ∧ ∃ r, evalS F c ρ S = .ok r ∧ EndOf K f w H D Wx r
def tSs (K : W.Frag) (F : Fns) (Wx : WX) (c : List CS) : TS := fun D σ H => ∃ f w ρ S, SR K f w σ H ρ S ∧ ∃ r, evalSs F c ρ S = .ok r ∧ EndOf K f w H D Wx r
theorem _root_.L2.PS.mono {X : Cx} {e : Stmt} {t t' : TS} (h : PS X e t) (m : ∀ D σ H, t' D σ H → t D σ H) : PS X e t' := ⟨fun pins s σ H Q I q => h.run pins s σ H Q I (m Q σ H q)⟩
theorem _root_.L2.PSs.mono {X : Cx} {e : List Stmt} {t t' : TS} (h : PSs X e t) (m : ∀ D σ H, t' D σ H → t D σ H) : PSs X e t' := ⟨fun pins s σ H Q I q => h.run pins s σ H Q I (m Q σ H q)⟩
section
variable {K : W.Frag} {F : Fns} {f : Fm} {w w' : Wd} {σ : L2.St} {H H' H1 : Hp} {ρ : En} {S S' S1 : Store} {D : Ends} {r : Fl}
theorem EndOf.weak {Wx : WX} {w1 : Wd} (h : EndOf K f w H D Wx r) (e : Ext w w1 H H1) : EndOf K f w1 H1 D Wx r := by
  cases r with
  | nx ρ S => exact fun w' σ' H' s e' => h w' σ' H' s (e.trans e')
  | bk ρ S => exact fun w' σ' H' s e' => h w' σ' H' s (e.trans e')
  | ct ρ S => exact fun w' σ' H' s e' => h w' σ' H' s (e.trans e')
  | rt t S => exact h
  | xc c as ρ S => exact fun cls d w' σ' H' s e' => h cls d w' σ' H' s (e.trans e')
theorem SR.ext (s : SR K f w σ H ρ S) (k : Kp w.φ H H') : Ext w w H H' := ⟨s.grow k, List.prefix_refl _⟩
theorem SR.base (s : SR K f w σ H ρ S) {st : Bool} {t : T} {v : V} {φ : List Addr} {E : Excl} (e : ER K φ E st H H' t v) : ER K φ E st f.H0 H' t v := e.early fun a h => s.k0.dom a h
end

section
variable {X : Cx} {F : Fns} {Wx : WX} {e : Expr} {c : CE} {st : Stmt} {pos : Pos}
/-- target = e -/
theorem p_setP {ctg : Tg} {g : TG} (h : PS X st (tAsg (tE X.K F c) g)) (hg : ∀ v σ H Q, gT X.K ctg v σ H Q → g v σ H Q) (hs : strong c = true) : PS X st (tS X.K F Wx (.setP ctg c)) :=
  h.mono fun D σ H ⟨f, w, ρ, S, s, r, ev, q⟩ => by
    simp only [evalS] at ev
    obtain ⟨⟨t, S1⟩, e1, ev⟩ := Res.bind_ok ev
    obtain ⟨ρ', e2, ev⟩ := Res.bind_ok ev
    cases ev
    refine ⟨f, w, ρ, S, s, t, S1, e1, fun v H1 s1 k1 r1 => hg _ _ _ _ ⟨f, w, ρ, S1, t.view, ρ', s1, ?_, Res.of_ok e2, fun σ' s' _ _ => q _ _ _ s' (s.ext k1)⟩⟩
    rw [hs] at r1
    exact r1.view
theorem gName_of {i : Nat} : ∀ v σ H Q, gT X.K (.name i) v σ H Q → gName i v σ H Q := fun v σ H Q ⟨f, w, ρ, S, t, ρ', s, r, e, q⟩ => by
  simp only [bindT] at e
  split at e
  · cases e
  · cases e
    refine q _ (s.put r) (List.length_set ..) fun j hj => ?_
    simp only [Tg.names, List.mem_singleton] at hj
    rw [List.getElem?_set_ne (fun z => hj z.symm)]
theorem p_setO {i : Nat} (h : PS X st (tAsg (tE X.K F c) (gName i))) (hs : strong c = true) : PS X st (tS X.K F Wx (.setO i c)) :=
  h.mono fun D σ H ⟨f, w, ρ, S, s, r, ev, q⟩ => by
    simp only [evalS] at ev
    obtain ⟨⟨t, S1⟩, e1, ev⟩ := Res.bind_ok ev
    simp only at ev
    split at ev
    · rename_i xs
      cases ev
      refine ⟨f, w, ρ, S, s, _, S1, e1, fun v H1 s1 k1 r1 => ?_⟩
      rw [hs] at r1
      cases r1 with
      | rep r => simp only [Rep] at r
      | @new _ a vs n hb ha ra =>
        have sf : SR X.K f (w.aparts [a]) σ H1 ρ S1 := by
          rw [← aparts_cons, aparts_nil]
          exact s.fresh k1 s1.st hb (by rw [ha]; simp)
        have sg := sf.give n (by simp) (s.dom0 hb) ha (ra.grow (Grow.less fun b z => by
          rcases aparts_tot.mp z with z | z
          · exact .inl z
          · exact .inr (by simpa using z)) (List.prefix_refl _) _ _) s.pe s.eE (i := i)
        rw [aparts_nil] at sg
        refine q _ _ _ sg ⟨⟨(s.grow k1).tups, (s.grow k1).frzs, fun b us z nz => ⟨((s.grow k1).lsts b us z nz).1, fun y => ?_⟩, fun b us z nz => ⟨((s.grow k1).dcts b us z nz).1, fun y => ?_⟩, (s.grow k1).exts, (s.grow k1).xds⟩, List.prefix_refl _⟩
        · rcases y with y | ⟨j, y⟩
          · exact nz (.inl y)
          · simp only [Wd.setμ] at y
            split at y
            · cases y; rw [hb] at z; cases z
            · exact nz (.inr ⟨j, y⟩)
        · rcases y with y | ⟨j, y⟩
          · exact nz (.inl y)
          · simp only [Wd.setμ] at y
            split at y
            · cases y; rw [hb] at z; cases z
            · exact nz (.inr ⟨j, y⟩)
    · rename_i ks xs mm
      cases ev
      refine ⟨f, w, ρ, S, s, _, S1, e1, fun v H1 s1 k1 r1 => ?_⟩
      rw [hs] at r1
      cases r1 with
      | rep r => simp only [Rep] at r
      | @newd _ _ _ a vs n hb ha hl ra =>
        have sf : SR X.K f (w.aparts [a]) σ H1 ρ S1 := by
          rw [← aparts_cons, aparts_nil]
          exact s.fresh k1 s1.st hb (by rw [ha]; simp)
        have sg := sf.giveD n (by simp) (s.dom0 hb) ha hl (ra.grow (Grow.less fun b z => by
          rcases aparts_tot.mp z with z | z
          · exact .inl z
          · exact .inr (by simpa using z)) (List.prefix_refl _) _ _) s.pe s.eE (i := i)
        rw [aparts_nil] at sg
        refine q _ _ _ sg ⟨⟨(s.grow k1).tups, (s.grow k1).frzs, fun b us z nz => ⟨((s.grow k1).lsts b us z nz).1, fun y => ?_⟩, fun b us z nz => ⟨((s.grow k1).dcts b us z nz).1, fun y => ?_⟩, (s.grow k1).exts, (s.grow k1).xds⟩, List.prefix_refl _⟩
        · rcases y with y | ⟨j, y⟩
          · exact nz (.inl y)
          · simp only [Wd.setμ] at y
            split at y
            · cases y; rw [hb] at z; cases z
            · exact nz (.inr ⟨j, y⟩)
        · rcases y with y | ⟨j, y⟩
          · exact nz (.inl y)
          · simp only [Wd.setμ] at y
            split at y
            · cases y; rw [hb] at z; cases z
            · exact nz (.inr ⟨j, y⟩)
    · cases ev
theorem p_setR {i : Nat} (h : PS X st (tAsg (tE X.K F c) (gName i))) (hs : strong c = true) : PS X st (tS X.K F Wx (.setR i c)) :=
  h.mono fun D σ H ⟨f, w, ρ, S, s, r, ev, q⟩ => by
    simp only [evalS] at ev
    obtain ⟨⟨t, S1⟩, e1, ev⟩ := Res.bind_ok ev
    simp only at ev
    split at ev
    · rename_i xs
      split at ev
      · rename_i hn
        cases ev
        refine ⟨f, w, ρ, S, s, _, S1, e1, fun v H1 s1 k1 r1 => ?_⟩
        rw [hs] at r1
        cases r1 with
        | rep r => simp only [Rep] at r
        | @new _ a vs n hz ha ra =>
          have sf : SR X.K f (w.apart a) σ H1 ρ S1 := s.fresh k1 s1.st hz (by rw [ha]; simp)
          have nφ : a ∉ w.φ := fun z => n (.inl (s.pe a z))
          have gr : Grow H1 H1 (w.apart a).tot (w.apart a).tot := Grow.refl _ _
          have sn : SR X.K f ⟨w.φ ++ [a], (w.apart a).E, w.μ⟩ σ H1 ρ (S1 ++ [.own xs]) := by
            have st := sf.st
            refine ⟨⟨by simp [st.len, Wd.apart] at *; exact s1.st.len, ?_, fun b hb => ?_, sf.st.dom, fun k t hk => ?_, fun k ys hk => ?_⟩, fun b hb => ?_, sf.mnew, sf.mE, sf.minj, sf.eE, s.pre.trans (List.prefix_append _ _), fun b hb => ?_, sf.k0, sf.slen, fun j u ej => ?_⟩
            · rw [List.nodup_append]
              exact ⟨s.st.nd, by simp, fun x hx y hy z => by
                have : y = a := by simpa using hy
                exact nφ (by rw [← this, ← z]; exact hx)⟩
            · rcases List.mem_append.mp hb with h | h
              · exact .inl (.inl (s.pe b h))
              · exact .inl (.inr (by simpa using h))
            · rw [List.getElem?_append] at hk
              split at hk
              · obtain ⟨b, h1, h2⟩ := sf.st.obj k t hk
                refine ⟨b, get_pre (List.prefix_append _ _) h1, ?_⟩
                cases t with
                | own ys =>
                  simp only [ObjR] at h2 ⊢
                  obtain ⟨ws, q, r⟩ := h2
                  exact ⟨ws, q, r.grow gr (List.prefix_append _ _) _ _⟩
                | _ => simp only [ObjR] at h2
              · rename_i hl
                have hk' := List.getElem?_eq_some_iff.mp hk
                obtain ⟨hk1, hk2⟩ := hk'
                simp at hk1 hk2
                have hk3 : k = S1.length := by omega
                subst hk2
                refine ⟨a, by rw [hk3, ← s1.st.len]; simp, vs, ha, ?_⟩
                exact ra.grow (Grow.less fun b z => by
                  rcases z with (z | z) | z
                  · exact .inl (.inl z)
                  · exact .inr z
                  · exact .inl (.inr z)) (List.prefix_append _ _) _ _
            · rw [List.getElem?_append] at hk
              split at hk
              · exact sf.st.nl k ys hk
              · obtain ⟨hk1, hk2⟩ := List.getElem?_eq_some_iff.mp hk
                simp at hk1 hk2
                rw [← hk2]; exact hn
            · rcases List.mem_append.mp hb with h | h
              · exact .inl (s.pe b h)
              · exact .inr (by simpa using h)
            · rcases List.mem_append.mp hb with h | h
              · exact s.nφ b h
              · have : b = a := by simpa using h
                rw [this]; exact .inr (s.dom0 hz)
            · obtain ⟨x, h1, h2⟩ := sf.slots j u ej
              refine ⟨x, h1, ?_⟩
              cases u with
              | own ys =>
                simp only [SlotR] at h2 ⊢
                obtain ⟨b, ws, e', m, q, r⟩ := h2
                exact ⟨b, ws, e', m, q, r.grow gr (List.prefix_append _ _) _ _⟩
              | odct ks ys =>
                simp only [SlotR] at h2 ⊢
                obtain ⟨b, ws, e', m, q, hl, r⟩ := h2
                exact ⟨b, ws, e', m, q, hl, r.grow gr (List.prefix_append _ _) _ _⟩
              | _ => simp only [SlotR] at h2 ⊢; exact Rep.grow gr (List.prefix_append _ _) _ _ h2
          have sp := sn.put (i := i) (t := .ref S1.length) (v := .ref a) (by simp only [Rep]; exact ⟨a, rfl, by rw [← s1.st.len]; simp⟩)
          refine q _ _ _ sp ⟨⟨(s.grow k1).tups, (s.grow k1).frzs, fun b us z nz => ⟨((s.grow k1).lsts b us z nz).1, fun y => ?_⟩, fun b us z nz => ⟨((s.grow k1).dcts b us z nz).1, fun y => ?_⟩, (s.grow k1).exts, (s.grow k1).xds⟩, List.prefix_append _ _⟩
          · rcases y with (y | y) | y
            · exact nz (.inl y)
            · rw [y, hz] at z; cases z
            · exact nz (.inr y)
          · rcases y with (y | y) | y
            · exact nz (.inl y)
            · rw [y, hz] at z; cases z
            · exact nz (.inr y)
      · cases ev
    · cases ev
end
end Ip

set_option maxHeartbeats 4000000
/-! Ip8: statements that write; control. -/
namespace Ip
open PySem PySem.Spec PyProof.Rows L2

section
variable {K : W.Frag} {H H' H1 : Hp} {S S1 S' : Store} {f : Fm} {w : Wd} {σ : L2.St} {ρ : En}
theorem En.put_self : ∀ {ρ : En} {i : Nat} {t u : T}, ρ.get i = some u → ∃ r, ρ.put i t = r ∧ r.length = ρ.length
  | ρ, i, t, u, _ => ⟨_, rfl, En.put_len ρ i t⟩
/-- what stands where a slot's list is changed -/
structure Wr (K : W.Frag) (f : Fm) (w : Wd) (σ : L2.St) (H : Hp) (ρ : En) (S : Store) (i : Nat) (xs : List T) (a : Addr) (vs : List V) : Prop where
  at_ : σ[i]? = some (some (.ref a))
  lst : H a = some (.lst vs)
  rep : Reps K H w.φ w.tot xs vs
  tot : w.tot a
  go : ∀ (ys : List T) (ws : List V), Reps K H w.φ w.tot ys ws → (∀ k, ρ.get i = some (.ref k) → nls ys = true) → SR K f w σ (upd H a (.lst ws)) (putOwn ρ S i ys).1 (putOwn ρ S i ys).2
theorem SR.write {i : Nat} {xs : List T} (s : SR K f w σ H ρ S) (h : ownOf ρ S i = some xs) : ∃ a vs, Wr K f w σ H ρ S i xs a vs := by
  have upG : ∀ {a : Addr} {vs ws : List V}, H a = some (.lst vs) → w.tot a → Grow H (upd H a (.lst ws)) w.tot w.tot := by
    intro a vs ws ha hE
    exact ⟨fun b us e => by rw [upd_ne (fun z => by rw [z, ha] at e; cases e)]; exact e, fun b o u e => by rw [upd_ne (fun z => by rw [z, ha] at e; cases e)]; exact e, fun b us e n => ⟨by rw [upd_ne (fun z => n (by rw [z]; exact hE))]; exact e, n⟩, fun b us e n => ⟨by rw [upd_ne (fun z => n (by rw [z]; exact hE))]; exact e, n⟩, fun b p e => by rw [upd_ne (fun z => by rw [z, ha] at e; cases e)]; exact e, fun b p e => by rw [upd_ne (fun z => by rw [z, ha] at e; cases e)]; exact e⟩
  have upN : ∀ {a : Addr} {ws : List V} (b : Addr), H b ≠ none → upd H a (.lst ws) b ≠ none := fun {a ws} b e => by
    by_cases z : b = a
    · subst z; rw [upd_same]; simp
    · rw [upd_ne z]; exact e
  unfold ownOf at h
  split at h
  · rename_i ys ei
    cases h
    obtain ⟨v, h1, h2⟩ := s.slots i _ ei
    simp only [SlotR] at h2
    obtain ⟨a, vs, rfl, m, ha, ra⟩ := h2
    have hE : w.tot a := .inr ⟨i, m⟩
    refine ⟨a, vs, h1, ha, ra, hE, fun ys ws ry _ => ?_⟩
    have e1 : putOwn ρ S i ys = (ρ.put i (.own ys), S) := by unfold putOwn; rw [ei]
    rw [e1]
    have g : Grow H (upd H a (.lst ws)) w.tot w.tot := upG ha hE
    refine ⟨⟨s.st.len, s.st.nd, s.st.pe, fun b z => upN b (s.st.dom b z), fun k t e => ?_, s.st.nl⟩, s.pe, s.mnew, s.mE, s.minj, s.eE, s.pre, s.nφ, ⟨fun b o e n => ?_, fun b e => upN b (s.k0.dom b e)⟩, by rw [En.put_len]; exact s.slen, fun j t e => ?_⟩
    · obtain ⟨b, h1, h2⟩ := s.st.obj k t e
      refine ⟨b, h1, ?_⟩
      have ne : b ≠ a := fun z => s.muφ m (by rw [← z]; exact List.mem_of_getElem? h1)
      cases t with
      | own us =>
        simp only [ObjR] at h2 ⊢
        obtain ⟨ws', q, r⟩ := h2
        exact ⟨ws', by rw [upd_ne ne]; exact q, r.grow g (List.prefix_refl _) _ _⟩
      | _ => simp only [ObjR] at h2
    · rw [upd_ne (fun z => by rw [z, s.mnew i a m] at e; cases e)]
      exact s.k0.keep b o e n
    · rw [En.get_put] at e
      split at e
      · rename_i z
        subst z
        split at e
        · cases e
          refine ⟨.ref a, h1, ?_⟩
          simp only [SlotR]
          exact ⟨a, ws, rfl, m, upd_same .., ry.grow g (List.prefix_refl _) _ _⟩
        · cases e
      · rename_i z
        obtain ⟨v, h1, h2⟩ := s.slots j t e
        refine ⟨v, h1, ?_⟩
        cases t with
        | own us =>
          simp only [SlotR] at h2 ⊢
          obtain ⟨b, ws', e', m', q, r⟩ := h2
          exact ⟨b, ws', e', m', by rw [upd_ne (fun y => z (s.minj j i a (by rw [← y]; exact m') m))]; exact q, r.grow g (List.prefix_refl _) _ _⟩
        | odct ks us =>
          simp only [SlotR] at h2 ⊢
          obtain ⟨b, ws', e', m', q, hl, r⟩ := h2
          exact ⟨b, ws', e', m', by rw [upd_ne (fun y => z (s.minj j i a (by rw [← y]; exact m') m))]; exact q, hl, r.grow g (List.prefix_refl _) _ _⟩
        | _ => simp only [SlotR] at h2 ⊢; exact Rep.grow g (List.prefix_refl _) _ _ h2
  · rename_i k ei
    split at h
    · rename_i ys ek
      cases h
      obtain ⟨v, h1, h2⟩ := s.slots i _ ei
      simp only [SlotR, Rep] at h2
      obtain ⟨a, rfl, hk⟩ := h2
      obtain ⟨a', h3, h4⟩ := s.st.obj k _ ek
      rw [hk] at h3
      cases h3
      simp only [ObjR] at h4
      obtain ⟨vs, ha, ra⟩ := h4
      have aφ : a ∈ w.φ := List.mem_of_getElem? hk
      have hE : w.tot a := s.st.pe a aφ
      refine ⟨a, vs, h1, ha, ra, hE, fun ys ws ry hn => ?_⟩
      have e1 : putOwn ρ S i ys = (ρ, S.set k (.own ys)) := by unfold putOwn; rw [ei]
      rw [e1]
      have g : Grow H (upd H a (.lst ws)) w.tot w.tot := upG ha hE
      refine ⟨⟨by rw [List.length_set]; exact s.st.len, s.st.nd, s.st.pe, fun b z => upN b (s.st.dom b z), fun k' t e => ?_, fun k' us e => ?_⟩, s.pe, s.mnew, s.mE, s.minj, s.eE, s.pre, s.nφ, ⟨fun b o e n => ?_, fun b e => upN b (s.k0.dom b e)⟩, s.slen, fun j t e => ?_⟩
      · rw [List.getElem?_set] at e
        split at e
        · rename_i z
          subst z
          split at e
          · cases e
            refine ⟨a, hk, ?_⟩
            simp only [ObjR]
            exact ⟨ws, upd_same .., ry.grow g (List.prefix_refl _) _ _⟩
          · cases e
        · rename_i z
          obtain ⟨b, h5, h2⟩ := s.st.obj k' t e
          refine ⟨b, h5, ?_⟩
          have ne : b ≠ a := fun y => by
            subst y
            obtain ⟨hl, e1⟩ := List.getElem?_eq_some_iff.mp hk
            obtain ⟨hl', e2⟩ := List.getElem?_eq_some_iff.mp h5
            exact z ((List.getElem_inj s.st.nd).mp (e1.trans e2.symm))
          cases t with
          | own us =>
            simp only [ObjR] at h2 ⊢
            obtain ⟨ws', q, r⟩ := h2
            exact ⟨ws', by rw [upd_ne ne]; exact q, r.grow g (List.prefix_refl _) _ _⟩
          | _ => simp only [ObjR] at h2
      · rw [List.getElem?_set] at e
        split at e
        · split at e
          · cases e; exact hn k ei
          · cases e
        · exact s.st.nl k' us e
      · rw [upd_ne (fun z => ?_)]
        · exact s.k0.keep b o e n
        · subst z
          rcases s.nφ b aφ with q | q
          · exact n q
          · rw [q] at e; cases e
      · obtain ⟨v, h1, h2⟩ := s.slots j t e
        refine ⟨v, h1, ?_⟩
        cases t with
        | own us =>
          simp only [SlotR] at h2 ⊢
          obtain ⟨b, ws', e', m', q, r⟩ := h2
          exact ⟨b, ws', e', m', by rw [upd_ne (fun y => s.muφ m' (by rw [y]; exact aφ))]; exact q, r.grow g (List.prefix_refl _) _ _⟩
        | odct ks us =>
          simp only [SlotR] at h2 ⊢
          obtain ⟨b, ws', e', m', q, hl, r⟩ := h2
          exact ⟨b, ws', e', m', by rw [upd_ne (fun y => s.muφ m' (by rw [y]; exact aφ))]; exact q, hl, r.grow g (List.prefix_refl _) _ _⟩
        | _ => simp only [SlotR] at h2 ⊢; exact Rep.grow g (List.prefix_refl _) _ _ h2
    · cases h
  · cases h
/-- a slot's own dict is changed -/
theorem SR.writeD {i : Nat} {mm : Option Bool} {ks : List (List L2.Key)} {xs : List T} (s : SR K f w σ H ρ S) (ei : ρ.get i = some (.odct ks xs mm)) : ∃ a vs, σ[i]? = some (some (.ref a)) ∧ H a = some (dOb a mm ks vs) ∧ DL mm ks xs ∧ Reps K H w.φ w.tot xs vs ∧
    ∀ (ks' : List (List L2.Key)) (ys : List T) (ws : List V), DL mm ks' ys → Reps K H w.φ w.tot ys ws → SR K f w σ (upd H a (dOb a mm ks' ws)) (ρ.put i (.odct ks' ys mm)) S ∧ Ext w w H (upd H a (dOb a mm ks' ws)) := by
  obtain ⟨v, h1, h2⟩ := s.slots i _ ei
  simp only [SlotR] at h2
  obtain ⟨a, vs, rfl, m, ha, hl, ra⟩ := h2
  have hE : w.tot a := .inr ⟨i, m⟩
  refine ⟨a, vs, h1, ha, hl, ra, fun ks' ys ws hl' ry => ?_⟩
  have g : Grow H (upd H a (dOb a mm ks' ws)) w.tot w.tot :=
    ⟨fun b us e => by rw [upd_ne (fun z => by rw [z, ha] at e; exact dOb_tup (Option.some.inj e))]; exact e, fun b o u e => by rw [upd_ne (fun z => by rw [z, ha] at e; exact dOb_frz (Option.some.inj e))]; exact e, fun b us e n => ⟨by rw [upd_ne (fun z => n (by rw [z]; exact hE))]; exact e, n⟩, fun b us e n => ⟨by rw [upd_ne (fun z => n (by rw [z]; exact hE))]; exact e, n⟩, fun b p e => by rw [upd_ne (fun z => by subst z; rw [ha] at e; exact dOb_exh (Option.some.inj e))]; exact e, fun b p e => by rw [upd_ne (fun z => by rw [z, ha] at e; exact dOb_xd (Option.some.inj e))]; exact e⟩
  have upN : ∀ (b : Addr), H b ≠ none → upd H a (dOb a mm ks' ws) b ≠ none := fun b e => by
    by_cases z : b = a
    · subst z; rw [upd_same]; simp
    · rw [upd_ne z]; exact e
  refine ⟨⟨⟨s.st.len, s.st.nd, s.st.pe, fun b z => upN b (s.st.dom b z), fun k t e => ?_, s.st.nl⟩, s.pe, s.mnew, s.mE, s.minj, s.eE, s.pre, s.nφ, ⟨fun b o e n => ?_, fun b e => upN b (s.k0.dom b e)⟩, by rw [En.put_len]; exact s.slen, fun j t e => ?_⟩, g, List.prefix_refl _⟩
  · obtain ⟨b, h1, h2⟩ := s.st.obj k t e
    refine ⟨b, h1, ?_⟩
    have ne : b ≠ a := fun z => s.muφ m (by rw [← z]; exact List.mem_of_getElem? h1)
    cases t with
    | own us =>
      simp only [ObjR] at h2 ⊢
      obtain ⟨ws', q, r⟩ := h2
      exact ⟨ws', by rw [upd_ne ne]; exact q, r.grow g (List.prefix_refl _) _ _⟩
    | _ => simp only [ObjR] at h2
  · rw [upd_ne (fun z => by rw [z, s.mnew i a m] at e; cases e)]
    exact s.k0.keep b o e n
  · rw [En.get_put] at e
    split at e
    · rename_i z
      subst z
      split at e
      · cases e
        refine ⟨.ref a, h1, ?_⟩
        simp only [SlotR]
        exact ⟨a, ws, rfl, m, upd_same .., hl', ry.grow g (List.prefix_refl _) _ _⟩
      · cases e
    · rename_i z
      obtain ⟨v, h1, h2⟩ := s.slots j t e
      refine ⟨v, h1, ?_⟩
      cases t with
      | own us =>
        simp only [SlotR] at h2 ⊢
        obtain ⟨b, ws', e', m', q, r⟩ := h2
        exact ⟨b, ws', e', m', by rw [upd_ne (fun y => z (s.minj j i a (by rw [← y]; exact m') m))]; exact q, r.grow g (List.prefix_refl _) _ _⟩
      | odct ks us =>
        simp only [SlotR] at h2 ⊢
        obtain ⟨b, ws', e', m', q, hl, r⟩ := h2
        exact ⟨b, ws', e', m', by rw [upd_ne (fun y => z (s.minj j i a (by rw [← y]; exact m') m))]; exact q, hl, r.grow g (List.prefix_refl _) _ _⟩
      | _ => simp only [SlotR] at h2 ⊢; exact Rep.grow g (List.prefix_refl _) _ _ h2
theorem dput_zip {K : W.Frag} {H : Hp} {φ : List Addr} {E : Excl} {key : List L2.Key} {t : T} {v : V} (rt : Rep K H φ E t v) {ks : List (List L2.Key)} {xs : List T} {vs : List V} (hl : ks.length = xs.length) (r : Reps K H φ E xs vs) :
    ∃ ws, putK (ks.zip vs) key v = (dputK ks key).zip ws ∧ (dputK ks key).length = (dputV ks xs key t).length ∧ Reps K H φ E (dputV ks xs key t) ws := by
  have hvl := r.len
  have h1 : ∀ {ks : List (List L2.Key)} {xs : List T} {vs : List V}, ks.length = xs.length → Reps K H φ E xs vs → (ks.zip vs).map (fun kv => if kv.1 = key then (kv.1, v) else kv) = ks.zip (List.zipWith (fun k' u => if k' = key then v else u) ks vs) ∧
      Reps K H φ E (List.zipWith (fun k' x => if k' = key then t else x) ks xs) (List.zipWith (fun k' u => if k' = key then v else u) ks vs) := by
    intro ks
    induction ks with
    | nil => intro xs vs _ _; exact ⟨rfl, Reps.nil⟩
    | cons k ks ih =>
      intro xs vs hl r
      cases xs with
      | nil => simp at hl
      | cons x xs =>
        simp only [Reps] at r
        obtain ⟨u, us, rfl, ru, rus⟩ := r
        obtain ⟨e1, e2⟩ := ih (xs := xs) (vs := us) (by simpa using hl) rus
        rw [List.zip_cons_cons, List.map_cons, List.zipWith_cons_cons, List.zipWith_cons_cons, List.zip_cons_cons, e1]
        by_cases c : k = key
        · simp only [c, if_true]
          exact ⟨trivial, Reps.cons rt (by simpa only [c] using e2)⟩
        · simp only [c, if_false]
          exact ⟨trivial, Reps.cons ru e2⟩
  have hz : ∀ {ks : List (List L2.Key)} {vs : List V}, ks.length = vs.length → ((ks.zip vs).any fun kv => decide (kv.1 = key)) = ks.any fun k' => decide (k' = key) := by
    intro ks
    induction ks with
    | nil => intro vs _; rfl
    | cons k ks ih =>
      intro vs hl
      cases vs with
      | nil => simp at hl
      | cons u us => rw [List.zip_cons_cons, List.any_cons, List.any_cons, ih (by simpa using hl)]
  have happ : ∀ {ks : List (List L2.Key)} {vs : List V}, ks.length = vs.length → (ks ++ [key]).zip (vs ++ [v]) = ks.zip vs ++ [(key, v)] := by
    intro ks
    induction ks with
    | nil =>
      intro vs hl
      cases vs with
      | nil => rfl
      | cons u us => simp at hl
    | cons k ks ih =>
      intro vs hl
      cases vs with
      | nil => simp at hl
      | cons u us => rw [List.cons_append, List.cons_append, List.zip_cons_cons, ih (by simpa using hl), List.zip_cons_cons, List.cons_append]
  unfold putK dputK dputV
  rw [hz (by omega)]
  by_cases c : (ks.any fun k' => decide (k' = key)) = true
  · rw [if_pos c, if_pos c, if_pos c]
    obtain ⟨e1, e2⟩ := h1 hl r
    exact ⟨_, e1, by rw [List.length_zipWith, hl, Nat.min_self], e2⟩
  · rw [if_neg c, if_neg c, if_neg c]
    exact ⟨vs ++ [v], (happ (by omega)).symm, by rw [List.length_append, List.length_append, hl]; rfl, r.append (Reps.cons rt Reps.nil)⟩
theorem zip_hd : ∀ (ks : List (List L2.Key)) (vs : List V), (ks.map hdK).zip vs = (ks.zip vs).map fun kv => (hdK kv.1, kv.2)
  | [], _ => rfl
  | _ :: _, [] => rfl
  | k :: ks, v :: vs => by rw [List.map_cons, List.zip_cons_cons, List.zip_cons_cons, List.map_cons, zip_hd ks vs]
theorem putK_hd {q : L2.Key} {v : V} {l : List (List L2.Key × V)} (h : ∀ kv ∈ l, ∃ p, kv.1 = [p]) : putK (l.map fun kv => (hdK kv.1, kv.2)) q v = (putK l [q] v).map fun kv => (hdK kv.1, kv.2) := by
  have e : ∀ kv ∈ l, (hdK kv.1 = q) ↔ (kv.1 = [q]) := fun kv hkv => by
    obtain ⟨p, hp⟩ := h kv hkv
    rw [hp]
    show p = q ↔ [p] = [q]
    constructor
    · rintro rfl; rfl
    · intro z; injection z
  have ea : ((l.map fun kv => (hdK kv.1, kv.2)).any fun kv => decide (kv.1 = q)) = l.any fun kv => decide (kv.1 = [q]) := by
    rw [List.any_map]
    refine Bool.eq_iff_iff.mpr ?_
    simp only [List.any_eq_true, Function.comp, decide_eq_true_eq]
    constructor
    · rintro ⟨kv, h1, h2⟩; exact ⟨kv, h1, (e kv h1).mp h2⟩
    · rintro ⟨kv, h1, h2⟩; exact ⟨kv, h1, (e kv h1).mpr h2⟩
  unfold putK
  rw [ea]
  by_cases c : (l.any fun kv => decide (kv.1 = [q])) = true
  · rw [if_pos c, if_pos c, List.map_map, List.map_map]
    refine List.map_congr_left fun kv hkv => ?_
    simp only [Function.comp]
    by_cases z : kv.1 = [q]
    · rw [if_pos z, if_pos ((e kv hkv).mpr z)]
    · rw [if_neg z, if_neg (fun y => z ((e kv hkv).mp y))]
  · rw [if_neg c, if_neg c, List.map_append]
    rfl
/-- a store into a dict -/
theorem dput_of {K : W.Frag} {H : Hp} {φ : List Addr} {E : Excl} {a : Addr} {mm : Bool} {key : List L2.Key} {t kt : T} {v y : V} {ks : List (List L2.Key)} {xs : List T} {vs : List V} (ha : H a = some (dOb a (some mm) ks vs)) (hl : DL (some mm) ks xs) (r : Reps K H φ E xs vs) (rt : Rep K H φ E t v) (ly : LR K φ E H kt y) (hk : keyO (some mm) kt = some key) (hz : ks.length ≤ 1000000) :
    ∃ ws, DPut H a y v (upd H a (dOb a (some mm) (dputK ks key) ws)) ∧ DL (some mm) (dputK ks key) (dputV ks xs key t) ∧ Reps K H φ E (dputV ks xs key t) ws := by
  obtain ⟨ws, e3, e4, e5⟩ := dput_zip (key := key) rt hl.1 r
  cases mm with
  | false =>
    cases kt with
    | tup kts =>
      obtain ⟨b, us, rfl, hb, rb⟩ := ly.tupS
      obtain ⟨hw, _⟩ := reps_keys rb hk
      subst hw
      have g := DPut.t (k := key) (v := v) ha hb (by rw [List.length_zip, sizeLine_eq]; omega)
      rw [e3] at g
      exact ⟨ws, g, ⟨e4, fun z => (by cases z), fun z => (by cases z)⟩, e5⟩
    | _ => cases hk
  | true =>
    have hs := hl.2.1 rfl
    have go : ∀ q, key = [q] → y = kV q → ∃ ws, DPut H a y v (upd H a (dOb a (some true) (dputK ks key) ws)) ∧ DL (some true) (dputK ks key) (dputV ks xs key t) ∧ Reps K H φ E (dputV ks xs key t) ws := by
      rintro q rfl rfl
      have g := DPut.k (k := q) (v := v) ha (by rw [List.length_zip, List.length_map, sizeLine_eq]; omega)
      rw [zip_hd, putK_hd (fun kv hkv => hs kv.1 (List.of_mem_zip hkv).1), e3, ← zip_hd] at g
      refine ⟨ws, g, ⟨e4, fun _ k hk => ?_, fun z => (by cases z)⟩, e5⟩
      unfold dputK at hk
      split at hk
      · exact hs k hk
      · rcases List.mem_append.mp hk with hk | hk
        · exact hs k hk
        · exact ⟨q, List.mem_singleton.mp hk⟩
    cases kt with
    | int i =>
      cases hk
      exact go _ rfl ly.int
    | str i =>
      cases hk
      exact go _ rfl ly.str
    | _ => cases hk
theorem DN.snoc {q : List L2.Key} {x : T} (hx : ∃ ts n, x = .tup ts ∧ nksT ts = some n ∧ (NestedKey.tup n).depth ≤ 8 ∧ q = encK (.tup n)) : ∀ {ks : List (List L2.Key)} {xs : List T}, ks.length = xs.length → DN ks xs → DN (ks ++ [q]) (xs ++ [x])
  | [], [], _, _ => ⟨hx, trivial⟩
  | [], _ :: _, h, _ => by cases h
  | _ :: _, [], h, _ => by cases h
  | k :: ks, y :: xs, h, d => ⟨d.1, DN.snoc hx (by simpa using h) d.2⟩
theorem dput_ofN {K : W.Frag} {H : Hp} {φ : List Addr} {E : Excl} {a : Addr} {key : List L2.Key} {kt : T} {y : V} {ks : List (List L2.Key)} {xs : List T} {vs : List V} (ha : H a = some (dOb a none ks vs)) (hl : DL none ks xs) (r : Reps K H φ E xs vs) (ly : LR K φ E H kt y) (hk : keyO none kt = some key) (hz : ks.length ≤ 1000000) :
    ∃ b kvs k ws, y = .ref b ∧ H a = some (nOb a kvs) ∧ NKs H kvs ∧ NR H k (.ref b) ∧ k.depth ≤ 8 ∧ nfree k = true ∧ kvs.length < sizeLine ∧ nOb a (nPut kvs k b) = dOb a none (dputK ks key) ws ∧
      DL none (dputK ks key) (if ks.any (fun k' => decide (k' = key)) then xs else xs ++ [kt]) ∧ Reps K H φ E (if ks.any (fun k' => decide (k' = key)) then xs else xs ++ [kt]) ws := by
  obtain ⟨ts, n, b, rfl, hn, rfl, n1, n2, n3, rfl, rk⟩ := nkey_of hk ly
  obtain ⟨k1, k2, k3, k4⟩ := nkeys hl.1 (hl.2.2 rfl) r
  have c2 := k2 _ n3
  have lv := r.len
  by_cases c : (ks.any fun k' => decide (k' = encK (.tup n))) = true
  · refine ⟨b, _, .tup n, vs, rfl, ha, k1, n1, n2, n3, by rw [k3, sizeLine_eq]; omega, ?_, ?_, ?_⟩
    · unfold nPut dputK
      rw [c2, if_pos c, if_pos c]
      rfl
    · unfold dputK
      rw [if_pos c, if_pos c]
      exact hl
    · rw [if_pos c]
      exact r
  · refine ⟨b, _, .tup n, vs ++ [.ref b], rfl, ha, k1, n1, n2, n3, by rw [k3, sizeLine_eq]; omega, ?_, ?_, ?_⟩
    · unfold nPut dputK
      rw [c2, if_neg c, if_neg c]
      have : (((ks ++ [encK (.tup n)]).map decK).zip ((vs ++ [V.ref b]).map refA)) = (ks.map decK).zip (vs.map refA) ++ [(.tup n, b)] := by
        rw [List.map_append, List.map_append, List.zip_append (by rw [List.length_map, List.length_map, hl.1, ← lv])]
        show _ ++ [(decK (encK (.tup n)), b)] = _
        rw [decK_enc n3]
      show nOb a _ = nOb a _
      rw [this]
    · unfold dputK
      rw [if_neg c, if_neg c]
      exact ⟨by rw [List.length_append, List.length_append, hl.1]; rfl, fun z => (by cases z), fun _ => DN.snoc ⟨ts, n, rfl, hn, n2, rfl⟩ hl.1 (hl.2.2 rfl)⟩
    · rw [if_neg c]
      exact r.append (Reps.cons rk Reps.nil)
theorem Wr.ext {i : Nat} {xs : List T} {a : Addr} {vs ws : List V} (r : Wr K f w σ H ρ S i xs a vs) : Ext w w H (upd H a (.lst ws)) :=
  ⟨⟨fun b us e => by rw [upd_ne (fun z => by rw [z, r.lst] at e; cases e)]; exact e, fun b o u e => by rw [upd_ne (fun z => by rw [z, r.lst] at e; cases e)]; exact e, fun b us e n => ⟨by rw [upd_ne (fun z => n (by rw [z]; exact r.tot))]; exact e, n⟩, fun b us e n => ⟨by rw [upd_ne (fun z => n (by rw [z]; exact r.tot))]; exact e, n⟩, fun b p e => by rw [upd_ne (fun z => by rw [z, r.lst] at e; cases e)]; exact e, fun b p e => by rw [upd_ne (fun z => by rw [z, r.lst] at e; cases e)]; exact e⟩, List.prefix_refl _⟩
theorem nls_set {xs : List T} {x : T} (h : nls xs = true) (hx : nl x = true) : ∀ j, nls (xs.set j x) = true := by
  induction xs with
  | nil => intro j; simpa using h
  | cons y ys ih =>
    simp only [nls, Bool.and_eq_true] at h
    intro j
    cases j with
    | zero => simp [nls, hx, h.2]
    | succ j => simp [nls, h.1, ih h.2 j]
theorem nls_append {xs ys : List T} (h : nls xs = true) (hy : nls ys = true) : nls (xs ++ ys) = true := by
  induction xs with
  | nil => simpa using hy
  | cons x xs ih =>
    simp only [nls, Bool.and_eq_true] at h
    simp [nls, h.1, ih h.2]
theorem nls_dropLast {xs : List T} (h : nls xs = true) : nls xs.dropLast = true := by
  induction xs with
  | nil => simpa using h
  | cons x xs ih =>
    simp only [nls, Bool.and_eq_true] at h
    cases xs with
    | nil => simp [nls]
    | cons y ys =>
      rw [List.dropLast_cons₂]
      simp [nls, h.1, ih h.2]
theorem nl_view {t : T} (h : nl t = true) : nl t.view = true := by
  cases t <;> first | exact h | simp [nl] at h
theorem own_nls {i k : Nat} {xs : List T} (s : SR K f w σ H ρ S) (h : ownOf ρ S i = some xs) (e : ρ.get i = some (.ref k)) : nls xs = true := by
  unfold ownOf at h
  rw [e] at h
  simp only at h
  split at h
  · rename_i ys ek
    cases h
    exact s.st.nl k _ ek
  · cases h
theorem wr_nl {i k : Nat} {t : T} (h : wrOk ρ i t = true) (e : ρ.get i = some (.ref k)) : nl t = true := by
  unfold wrOk at h
  rw [e] at h
  exact h
end

section
variable {X : Cx} {F : Fns} {Wx : WX} {e ix : Expr} {c cx : CE} {st : Stmt} {pos : Pos} {i : Nat}
theorem p_setI (h : PS X st (tAsg (tE X.K F c) (gSub (tVar i) (tE X.K F cx) rSetL))) (hs : strong c = true) : PS X st (tS X.K F Wx (.setI i cx c)) :=
  h.mono fun D σ H ⟨f, w, ρ, S, s, r, ev, q⟩ => by
    simp only [evalS] at ev
    obtain ⟨⟨t, S1⟩, e1, ev⟩ := Res.bind_ok ev
    obtain ⟨⟨k, S2⟩, e2, ev⟩ := Res.bind_ok ev
    simp only at ev
    split at ev
    · rename_i xs k' eo
      split at ev
      · rename_i j ej
        split at ev
        · rename_i hw
          cases ev
          refine ⟨f, w, ρ, S, s, t, S1, e1, fun v H1 s1 k1 r1 => ?_⟩
          rw [hs] at r1
          have rv := r1.view
          have hx : ∃ x, σ[i]? = some (some x) := by
            unfold ownOf at eo
            split at eo
            · rename_i ys ei; obtain ⟨x, h1, _⟩ := s1.slots i _ ei; exact ⟨x, h1⟩
            · rename_i n ei; obtain ⟨x, h1, _⟩ := s1.slots i _ ei; exact ⟨x, h1⟩
            · cases eo
          obtain ⟨x, hx⟩ := hx
          refine ⟨x, hx, f, w, ρ, S1, s1, _, S2, e2, fun v2 H2 s2 k2 r2 => ?_⟩
          obtain ⟨a, vs, W⟩ := s2.write eo
          have := W.at_
          rw [hx] at this
          cases this
          have rl := W.rep.len
          refine ⟨a, vs, k', j, rfl, r2.lr.int, W.lst, by rw [← rl]; exact ej, ?_⟩
          have rv2 : Rep X.K H2 w.φ w.tot t.view v := Rep.grow (s1.grow k2) (List.prefix_refl _) _ _ rv
          exact q _ _ _ (W.go _ _ (Reps.set rv2 j W.rep) fun k ek => nls_set (own_nls s2 eo ek) (nl_view (wr_nl hw ek)) j) ((s.ext (k1.trans k2)).trans W.ext)
        · cases ev
      · cases ev
    · cases ev
def rGetL (K : PySem.W.Frag) : V → V → Hp → VK → Prop := fun o i H Q => ∃ p xs k v, o = .ref p ∧ i = .int k ∧ SqL K H p xs ∧ atI xs k = some v ∧ Q v H
theorem get_list : PGet X (rGetL X.K) := by
  intro pins s σ H o k ov kv Q I ro rk h
  obtain ⟨p, xs, i, z, rfl, rfl, hq, he, q⟩ := h
  cases ro
  obtain ⟨t, rfl⟩ := rk
  obtain ⟨its, r, pl, hz⟩ := I.list hq
  obtain ⟨j, h1, h2, h3, h4, h5⟩ := atI_get he
  obtain ⟨u, eu, ru⟩ := r.get h2
  have hl := r.length
  have hn := line63
  have fin : EP X pins σ Q u s := ⟨z, H, I, ru, q⟩
  by_cases h0 : 0 ≤ i
  · have hj : i.toNat = j := by
      rw [seqIndex_of h0 h5] at h1
      exact Option.some.inj h1
    exact wpAny_getItem_list pl.isList h0 (by omega) (by rw [hj]; simpa using eu) fin
  · have hj : (i + (its.toArray.size : Int)).toNat = j := by
      rw [seqIndex_neg (by omega) h4] at h1
      rw [List.size_toArray, ← hl]
      exact Option.some.inj h1
    exact wpAny_getItem_list_neg pl.isList (by omega) (by rw [List.size_toArray] <;> omega) (by omega) (by rw [hj]; simpa using eu) fin
theorem slot_of {K : W.Frag} {f : Fm} {w : Wd} {σ : L2.St} {H : Hp} {ρ : En} {S : Store} {i : Nat} {xs : List T} (s : SR K f w σ H ρ S) (eo : ownOf ρ S i = some xs) : ∃ x, σ[i]? = some (some x) := by
  obtain ⟨a, vs, W⟩ := s.write eo
  exact ⟨_, W.at_⟩
theorem get_get {ρ : En} {S S' : Store} {i : Nat} {xs : List T} (eo : ownOf ρ S i = some xs) : ∃ t, ρ.get i = some t := by
  unfold ownOf at eo
  split at eo
  · rename_i ys ei; exact ⟨_, ei⟩
  · rename_i n ei; exact ⟨_, ei⟩
  · cases eo
def bopOk : BO → Bool
  | .add => true
  | .sub => true
  | _ => false
theorem p_augI {o : BO} (ho : bopOk o = true) (h : PS X st (tAugS (tVar i) (tE X.K F cx) (tE X.K F c) (rGetL X.K) (ipI fun x y => (bopI o x y).getD 0) rSetL)) : PS X st (tS X.K F Wx (.augI i o cx c)) :=
  h.mono fun D σ H ⟨f, w, ρ, S, s, r, ev, q⟩ => by
    simp only [evalS] at ev
    obtain ⟨⟨k, S1⟩, e1, ev⟩ := Res.bind_ok ev
    simp only at ev
    split at ev
    · rename_i xs k' eo
      split at ev
      · rename_i j ej
        split at ev
        · rename_i a0 ea
          obtain ⟨⟨y, S2⟩, e2, ev⟩ := Res.bind_ok ev
          simp only at ev
          split at ev
          · rename_i b0
            obtain ⟨c0, e3, ev⟩ := Res.bind_ok ev
            split at ev
            · rename_i xs2 eo2
              split at ev
              · rename_i j2 ej2
                cases ev
                have hx : ∃ x, σ[i]? = some (some x) := by
                  obtain ⟨t, et⟩ := get_get (S' := S) eo
                  obtain ⟨x, h1, _⟩ := s.slots i t et
                  exact ⟨x, h1⟩
                obtain ⟨x, hx⟩ := hx
                refine ⟨x, hx, f, w, ρ, S, s, _, S1, e1, fun v2 H2 s2 k2 r2 => ?_⟩
                obtain ⟨a, vs, W⟩ := s2.write eo
                have := W.at_
                rw [hx] at this
                cases this
                obtain ⟨u, hu, ru⟩ := W.rep.get ea
                simp only [Rep] at ru
                subst ru
                have hat : atI vs k' = some (.int a0) := by
                  have hl := W.rep.len
                  have : ixN vs.length k' = some j := by rw [← hl]; exact ej
                  unfold atI; rw [this]; exact hu
                refine ⟨a, vs, k', .int a0, rfl, r2.lr.int, SqL.of W.lst, hat, f, w, ρ, S1, s2, _, S2, e2, fun v3 H3 s3 k3 r3 => ?_⟩
                refine ⟨a0, b0, rfl, r3.lr.int, ?_⟩
                have hc : (bopI o a0 b0).getD 0 = c0 := by rw [Res.of_ok e3]; rfl
                show rSetL (V.ref a) v2 (V.int ((bopI o a0 b0).getD 0)) H3 fun H6 => D.nx σ H6
                rw [hc]
                obtain ⟨a', vs', W'⟩ := s3.write eo2
                have := W'.at_
                rw [hx] at this
                cases this
                refine ⟨a, vs', k', j2, rfl, r2.lr.int, W'.lst, by rw [← W'.rep.len]; exact ej2, ?_⟩
                exact q _ _ _ (W'.go _ _ (Reps.set (by simp only [Rep]) j2 W'.rep) fun k ek => nls_set (own_nls s3 eo2 ek) rfl j2) ((s.ext (k2.trans k3)).trans W'.ext)
              · cases ev
            · cases ev
          · cases ev
        · cases ev
      · cases ev
    · cases ev
end
end Ip

set_option maxHeartbeats 4000000
/-! Ip9: append, pop, parallel assignment, control. -/
namespace Ip
open PySem PySem.Spec PyProof.Rows L2

section
variable {X : Cx} {F : Fns} {Wx : WX} {e ix : Expr} {c cx : CE} {st : Stmt} {pos : Pos} {i : Nat}
theorem p_app (h : PS X st (tDrop (tBM X.K "list" rAppend (tVar i) (tA X.K F [c])))) : PS X st (tS X.K F Wx (.app i c)) :=
  h.mono fun D σ H ⟨f, w, ρ, S, s, r, ev, q⟩ => by
    simp only [evalS] at ev
    obtain ⟨⟨t, S1⟩, e1, ev⟩ := Res.bind_ok ev
    simp only at ev
    split at ev
    · rename_i xs eo
      split at ev
      · rename_i hz
        cases ev
        simp only [Bool.and_eq_true] at hz
        obtain ⟨z1, z2⟩ := hz
        obtain ⟨x, hx⟩ : ∃ x, σ[i]? = some (some x) := by
          obtain ⟨u, et⟩ := get_get (S' := S) eo
          obtain ⟨x, h1, _⟩ := s.slots i u et
          exact ⟨x, h1⟩
        have hl : ∃ l vs, x = .ref l ∧ H l = some (.lst vs) := by
          unfold ownOf at eo
          split at eo
          · rename_i ys ei
            obtain ⟨y, h1, h2⟩ := s.slots i _ ei
            rw [hx] at h1
            cases h1
            simp only [SlotR] at h2
            obtain ⟨a, vs, e, _, q, _⟩ := h2
            exact ⟨a, vs, e, q⟩
          · rename_i k ei
            obtain ⟨y, h1, h2⟩ := s.slots i _ ei
            rw [hx] at h1
            cases h1
            simp only [SlotR, Rep] at h2
            obtain ⟨a, e, q⟩ := h2
            obtain ⟨vs, h⟩ := s.st.atφ (List.mem_of_getElem? q)
            exact ⟨a, vs, e, h⟩
          · cases eo
        obtain ⟨l, us, rfl, hl⟩ := hl
        refine ⟨.ref l, hx, .inl ⟨rfl, us, SqL.of hl⟩, f, w, ρ, S, s, [t.view], S1, by simp only [evalEs, e1, Res.ok_bind], fun vs H1 s1 k1 r1 => ?_⟩
        obtain ⟨a, ws, W⟩ := s1.write eo
        have := W.at_
        rw [hx] at this
        cases this
        simp only [Reps] at r1
        obtain ⟨v, vs', rfl, rv, rfl⟩ := r1
        have hz1 : xs.length ≤ 1000000 := by simpa [szOk] using z1
        refine ⟨l, ws, v, rfl, rfl, W.lst, by rw [← W.rep.len, sizeLine_eq]; omega, ?_⟩
        exact q _ _ _ (W.go _ _ (W.rep.append (Reps.cons rv Reps.nil)) fun k ek => nls_append (own_nls s1 eo ek) (by simp [nls, nl_view (wr_nl z2 ek)])) ((s.ext k1).trans W.ext)
      · cases ev
    · cases ev
theorem getLast_ix {α : Type} {xs : List α} {x : α} (h : xs.getLast? = some x) : xs[xs.length - 1]? = some x := by
  rw [List.getLast?_eq_getElem?] at h; exact h
theorem p_pop {ctg : Tg} {g : TG} (h : PS X st (tAsg (tBM0 X.K "list" rPop (tVar i)) g)) (hg : ∀ v σ H Q, gT X.K ctg v σ H Q → g v σ H Q) : PS X st (tS X.K F Wx (.pop ctg i)) :=
  h.mono fun D σ H ⟨f, w, ρ, S, s, r, ev, q⟩ => by
    simp only [evalS] at ev
    split at ev
    · rename_i xs eo
      split at ev
      · rename_i t et
        obtain ⟨ρ', e2, ev⟩ := Res.bind_ok ev
        cases ev
        obtain ⟨a, vs, W⟩ := s.write eo
        obtain ⟨v, hv, rv⟩ := W.rep.get (getLast_ix et)
        have s2 := W.go xs.dropLast vs.dropLast W.rep.dropLast fun k ek => nls_dropLast (own_nls s eo ek)
        have gr := (W.ext (ws := vs.dropLast)).1
        refine ⟨.ref a, W.at_, .inl ⟨rfl, vs, SqL.of W.lst⟩, a, vs, v, rfl, rfl, W.lst, by rw [← W.rep.len]; exact hv, ?_⟩
        exact hg _ _ _ _ ⟨f, w, _, _, t, ρ', s2, Rep.grow gr (List.prefix_refl _) _ _ rv, Res.of_ok e2, fun σ' s' _ _ => q _ _ _ s' W.ext⟩
      · cases ev
    · cases ev
theorem p_augP {o : BO} {j : Nat} (h : PS X st (tAug i (tE X.K F c) (ipI fun x y => (bopI o x y).getD 0))) : PS X st (tS X.K F Wx (.augP i o c)) :=
  h.mono fun D σ H ⟨f, w, ρ, S, s, r, ev, q⟩ => by
    simp only [evalS] at ev
    split at ev
    · rename_i x ex
      obtain ⟨⟨y, S1⟩, e1, ev'⟩ := Res.bind_ok ev
      clear ev
      simp only at ev'
      split at ev'
      · rename_i a b
        obtain ⟨c0, e2, ev⟩ := Res.bind_ok ev'
        cases ev
        obtain ⟨v, h1, h2⟩ := s.slots i _ ex
        simp only [SlotR, Rep] at h2
        subst h2
        refine ⟨_, h1, f, w, ρ, S, s, _, _, e1, fun v2 H2 s2 k2 r2 => ⟨a, b, rfl, r2.lr.int, ?_⟩⟩
        have hc : (bopI o a b).getD 0 = c0 := by rw [Res.of_ok e2]; rfl
        show D.nx (σ.set i (some (V.int ((bopI o a b).getD 0)))) H2
        rw [hc]
        exact q _ _ _ (s2.put (by simp only [Rep])) (s.ext k2)
      · cases ev'
    · cases ev
theorem p_expr (h : PS X st (tDrop (tE X.K F c))) : PS X st (tS X.K F Wx (.expr c)) :=
  h.mono fun D σ H ⟨f, w, ρ, S, s, r, ev, q⟩ => by
    simp only [evalS] at ev
    obtain ⟨⟨t, S1⟩, e1, ev⟩ := Res.bind_ok ev
    cases ev
    exact ⟨f, w, ρ, S, s, t, S1, e1, fun v H1 s1 k1 r1 => q _ _ _ s1 (s.ext k1)⟩
theorem p_ifs {a b : List Stmt} {ca cb : List CS} (hc : PT X e (tT X.K F c)) (ha : PSs X a (tSs X.K F Wx ca)) (hb : PSs X b (tSs X.K F Wx cb)) : PS X (.If e a b pos) (tS X.K F Wx (.ifs c ca cb)) :=
  (ps_if hc ha hb).mono fun D σ H ⟨f, w, ρ, S, s, r, ev, q⟩ => by
    simp only [evalS] at ev
    obtain ⟨⟨t, S1⟩, e1, ev⟩ := Res.bind_ok ev
    obtain ⟨k, e2, ev⟩ := Res.bind_ok ev
    refine ⟨f, w, ρ, S, s, t, S1, e1, k, Res.of_ok e2, fun H1 s1 k1 => ?_⟩
    cases k with
    | true => exact iteT ⟨f, w, ρ, S1, s1, r, ev, q.weak (s.ext k1)⟩
    | false => exact iteF ⟨f, w, ρ, S1, s1, r, ev, q.weak (s.ext k1)⟩
theorem p_ret (he : PE X e (tE X.K F c)) (hs : strong c = true) : PS X (.Return (some e) pos) (tS X.K F Wx (.ret c)) :=
  (ps_ret he).mono fun D σ H ⟨f, w, ρ, S, s, r, ev, q⟩ => by
    simp only [evalS] at ev
    obtain ⟨⟨t, S1⟩, e1, ev⟩ := Res.bind_ok ev
    cases ev
    refine ⟨f, w, ρ, S, s, t, S1, e1, fun v H1 s1 k1 r1 => q v w σ ρ H1 s1 ?_⟩
    rw [hs] at r1
    exact s.base r1
theorem p_retN : PS X (.Return none pos) (tS X.K F Wx .retN) :=
  (ps_retN).mono fun D σ H ⟨f, w, ρ, S, s, r, ev, q⟩ => by
    simp only [evalS, Res.ok.injEq] at ev
    subst ev
    exact q .non w σ ρ H s (.rep (by simp only [Rep]))
theorem p_dput (h : PS X st (tAsg (tE X.K F c) (gSub (tVar i) (tE X.K F cx) rSetA))) (hs : strong c = true) : PS X st (tS X.K F Wx (.dput i cx c)) :=
  h.mono fun D σ H ⟨f, w, ρ, S, s, r, ev, q⟩ => by
    simp only [evalS] at ev
    obtain ⟨⟨t, S1⟩, e1, ev⟩ := Res.bind_ok ev
    obtain ⟨⟨kt, S2⟩, e2, ev⟩ := Res.bind_ok ev
    simp only at ev
    split at ev
    · rename_i ks xs mm ei
      split at ev
      · rename_i key hk
        split at ev
        · rename_i hz
          cases ev
          refine ⟨f, w, ρ, S, s, t, S1, e1, fun v H1 s1 k1 r1 => ?_⟩
          rw [hs] at r1
          have rv := r1.view
          obtain ⟨a, vs, hx, _⟩ := s1.writeD ei
          refine ⟨.ref a, hx, f, w, ρ, S1, s1, _, S2, e2, fun v2 H2 s2 k2 r2 => ?_⟩
          obtain ⟨a', us, hx', ha, hl, ra, go⟩ := s2.writeD ei
          rw [hx] at hx'
          cases hx'
          have rv2 : Rep X.K H2 w.φ w.tot t.view v := Rep.grow (s1.grow k2) (List.prefix_refl _) _ _ rv
          have hz1 : ks.length ≤ 1000000 := by simpa [szOk] using hz
          obtain ⟨ws, dp, dl, e5⟩ := dput_of ha hl ra rv2 r2.lr hk hz1
          obtain ⟨sg, eg⟩ := go _ _ _ dl e5
          exact .inl ⟨a, _, rfl, dp, q _ _ _ sg ((s.ext (k1.trans k2)).trans eg)⟩
        · cases ev
      · cases ev
    · rename_i ks xs ei
      cases hk : keyO none kt with
      | none => rw [hk] at ev; cases ev
      | some key =>
        rw [hk] at ev
        have ht : t = .bl true := by
          cases t with
          | bl b =>
            cases b with
            | true => rfl
            | false => cases ev
          | _ => cases ev
        subst ht
        simp only at ev
        split at ev
        · rename_i hz
          cases ev
          refine ⟨f, w, ρ, S, s, .bl true, S1, e1, fun v H1 s1 k1 r1 => ?_⟩
          obtain rfl := r1.lr.bl
          obtain ⟨a, vs, hx, _⟩ := s1.writeD ei
          refine ⟨.ref a, hx, f, w, ρ, S1, s1, _, S2, e2, fun v2 H2 s2 k2 r2 => ?_⟩
          obtain ⟨a', us, hx', ha, hl, ra, go⟩ := s2.writeD ei
          rw [hx] at hx'
          cases hx'
          have hz1 : ks.length ≤ 1000000 := by simpa [szOk] using hz
          obtain ⟨b, kvs, k, ws, rfl, h1, h2, h3, h4, h5, h6, h7, dl, e5⟩ := dput_ofN ha hl ra r2.lr hk hz1
          obtain ⟨sg, eg⟩ := go _ _ _ dl e5
          rw [← h7] at sg eg
          exact .inr ⟨a, b, kvs, k, rfl, rfl, rfl, h1, h2, h3, h4, h5, h6, q _ _ _ sg ((s.ext (k1.trans k2)).trans eg)⟩
        · cases ev
    · cases ev
theorem p_retO (he : PE X e (tVar i)) : PS X (.Return (some e) pos) (tS X.K F Wx (.retO i)) :=
  (ps_ret he).mono fun D σ H ⟨f, w, ρ, S, s, r, ev, q⟩ => by
    simp only [evalS] at ev
    split at ev
    · rename_i xs ex
      cases ev
      obtain ⟨v, h1, h2⟩ := s.slots i _ ex
      simp only [SlotR] at h2
      obtain ⟨a, vs, rfl, m, ha, ra⟩ := h2
      refine ⟨_, h1, ?_⟩
      have tt : ∀ b, (Wd.tot { w with μ := fun j => if j = i then none else w.μ j }) b → w.tot b := by
        rintro b (z | ⟨j, z⟩)
        · exact .inl z
        · dsimp only at z
          split at z
          · cases z
          · exact .inr ⟨j, z⟩
      have s2 : SR X.K f { w with μ := fun j => if j = i then none else w.μ j } σ H (ρ.del i) S := by
        refine (s.del i).re _ rfl tt s.pe (fun j b z => ?_) (fun j b z => ?_) (fun j j' b z z' => ?_) s.eE fun j ys ej => ?_
        · dsimp only at z
          split at z
          · cases z
          · exact s.mnew j b z
        · dsimp only at z
          split at z
          · cases z
          · exact s.mE j b z
        · dsimp only at z z'
          split at z
          · cases z
          · split at z'
            · cases z'
            · exact s.minj j j' b z z'
        · rw [En.get_del] at ej
          split at ej
          · cases ej
          · rename_i ne
            dsimp only
            rw [if_neg ne]
            exact .inl rfl
      refine q _ _ _ _ _ s2 (.new ?_ (s.mnew i a m) ha (ra.grow (Grow.less fun b z => ?_) (List.prefix_refl _) _ _))
      · rintro (z | ⟨j, z⟩)
        · exact s.mE i a m z
        · dsimp only at z
          split at z
          · cases z
          · rename_i ne
            exact ne (s.minj j i a z m)
      · rcases z with z | z
        · exact tt b z
        · rw [z]; exact .inr ⟨i, m⟩
    · rename_i ks xs ex
      cases ev
      obtain ⟨v, h1, h2⟩ := s.slots i _ ex
      simp only [SlotR] at h2
      obtain ⟨a, vs, rfl, m, ha, hl, ra⟩ := h2
      refine ⟨_, h1, ?_⟩
      have tt : ∀ b, (Wd.tot { w with μ := fun j => if j = i then none else w.μ j }) b → w.tot b := by
        rintro b (z | ⟨j, z⟩)
        · exact .inl z
        · dsimp only at z
          split at z
          · cases z
          · exact .inr ⟨j, z⟩
      have s2 : SR X.K f { w with μ := fun j => if j = i then none else w.μ j } σ H (ρ.del i) S := by
        refine (s.del i).re _ rfl tt s.pe (fun j b z => ?_) (fun j b z => ?_) (fun j j' b z z' => ?_) s.eE fun j ys ej => ?_
        · dsimp only at z
          split at z
          · cases z
          · exact s.mnew j b z
        · dsimp only at z
          split at z
          · cases z
          · exact s.mE j b z
        · dsimp only at z z'
          split at z
          · cases z
          · split at z'
            · cases z'
            · exact s.minj j j' b z z'
        · rw [En.get_del] at ej
          split at ej
          · cases ej
          · rename_i ne
            dsimp only
            rw [if_neg ne]
            exact .inl rfl
      refine q _ _ _ _ _ s2 (.newd ?_ (s.mnew i a m) ha hl (ra.grow (Grow.less fun b z => ?_) (List.prefix_refl _) _ _))
      · rintro (z | ⟨j, z⟩)
        · exact s.mE i a m z
        · dsimp only at z
          split at z
          · cases z
          · rename_i ne
            exact ne (s.minj j i a z m)
      · rcases z with z | z
        · exact tt b z
        · rw [z]; exact .inr ⟨i, m⟩
    · cases ev
theorem p_pass (h : PS X st tNext) : PS X st (tS X.K F Wx .pass) :=
  h.mono fun D σ H ⟨f, w, ρ, S, s, r, ev, q⟩ => by
    simp only [evalS, Res.ok.injEq] at ev
    subst ev
    exact q w σ H s (Ext.refl _ _)
theorem p_brk : PS X (.Break pos) (tS X.K F Wx .brk) :=
  (ps_break).mono fun D σ H ⟨f, w, ρ, S, s, r, ev, q⟩ => by
    simp only [evalS, Res.ok.injEq] at ev
    subst ev
    exact q w σ H s (Ext.refl _ _)
theorem p_cont : PS X (.Continue pos) (tS X.K F Wx .cont) :=
  (ps_continue).mono fun D σ H ⟨f, w, ρ, S, s, r, ev, q⟩ => by
    simp only [evalS, Res.ok.injEq] at ev
    subst ev
    exact q w σ H s (Ext.refl _ _)
theorem ss_nil : PSs X [] (tSs X.K F Wx []) :=
  (pss_nil).mono fun D σ H ⟨f, w, ρ, S, s, r, ev, q⟩ => by
    simp only [evalSs, Res.ok.injEq] at ev
    subst ev
    exact q w σ H s (Ext.refl _ _)
theorem ss_cons {ss : List Stmt} {cs : CS} {css : List CS} (h : PS X st (tS X.K F Wx cs)) (hs : PSs X ss (tSs X.K F Wx css)) : PSs X (st :: ss) (tSs X.K F Wx (cs :: css)) :=
  (pss_cons h hs).mono fun D σ H ⟨f, w, ρ, S, s, r, ev, q⟩ => by
    simp only [evalSs] at ev
    obtain ⟨r1, e1, ev⟩ := Res.bind_ok ev
    refine ⟨f, w, ρ, S, s, r1, e1, ?_⟩
    cases r1 with
    | nx ρ1 S1 => exact fun w' σ' H' s' x => ⟨f, w', ρ1, S1, s', r, ev, q.weak x⟩
    | bk ρ1 S1 => cases ev; exact q
    | ct ρ1 S1 => cases ev; exact q
    | rt t S1 => cases ev; exact q
    | xc k as ρ1 S1 => cases ev; exact q
/-- a slot's own list is changed no more -/
theorem ss_frz {ss : List Stmt} {css : List CS} (hs : PSs X ss (tSs X.K F Wx css)) : PSs X ss (tSs X.K F Wx (.frz i :: css)) :=
  hs.mono fun D σ H ⟨f, w, ρ, S, s, r, ev, q⟩ => by
    simp only [evalSs] at ev
    obtain ⟨r1, e1, ev⟩ := Res.bind_ok ev
    simp only [evalS] at e1
    split at e1
    · rename_i xs ex
      cases e1
      obtain ⟨v, h1, h2⟩ := s.slots i _ ex
      simp only [SlotR] at h2
      obtain ⟨a, vs, rfl, m, ha, ra⟩ := h2
      have tt : ∀ b, (Wd.tot { w with μ := fun j => if j = i then none else w.μ j }) b → w.tot b := by
        rintro b (z | ⟨j, z⟩)
        · exact .inl z
        · dsimp only at z
          split at z
          · cases z
          · exact .inr ⟨j, z⟩
      have s2 : SR X.K f { w with μ := fun j => if j = i then none else w.μ j } σ H (ρ.del i) S := by
        refine (s.del i).re _ rfl tt s.pe (fun j b z => ?_) (fun j b z => ?_) (fun j j' b z z' => ?_) s.eE fun j ys ej => ?_
        · dsimp only at z
          split at z
          · cases z
          · exact s.mnew j b z
        · dsimp only at z
          split at z
          · cases z
          · exact s.mE j b z
        · dsimp only at z z'
          split at z
          · cases z
          · split at z'
            · cases z'
            · exact s.minj j j' b z z'
        · rw [En.get_del] at ej
          split at ej
          · cases ej
          · rename_i ne
            dsimp only
            rw [if_neg ne]
            exact .inl rfl
      have rl : Rep X.K H (Wd.φ { w with μ := fun j => if j = i then none else w.μ j }) (Wd.tot { w with μ := fun j => if j = i then none else w.μ j }) (.lst xs) (.ref a) := by
        simp only [Rep]
        refine ⟨a, vs, rfl, ?_, ha, ra.grow (Grow.less tt) (List.prefix_refl _) _ _⟩
        rintro (z | ⟨j, z⟩)
        · exact s.mE i a m z
        · dsimp only at z
          split at z
          · cases z
          · rename_i ne
            exact ne (s.minj j i a z m)
      have s3 := s2.put (i := i) rl
      have eσ : σ.set i (some (.ref a)) = σ := by
        apply List.ext_getElem?
        intro j
        rw [List.getElem?_set]
        split
        · rename_i z
          subst z
          rw [h1]
          have := (List.getElem?_eq_some_iff.mp h1).1
          rw [if_pos this]
        · rfl
      rw [eσ, En.put_del] at s3
      exact ⟨f, _, _, S, s3, r, ev, q.weak ⟨Grow.less tt, List.prefix_refl _⟩⟩
    · rename_i ks xs mm ex
      cases e1
      obtain ⟨v, h1, h2⟩ := s.slots i _ ex
      simp only [SlotR] at h2
      obtain ⟨a, vs, rfl, m, ha, hl, ra⟩ := h2
      have tt : ∀ b, (Wd.tot { w with μ := fun j => if j = i then none else w.μ j }) b → w.tot b := by
        rintro b (z | ⟨j, z⟩)
        · exact .inl z
        · dsimp only at z
          split at z
          · cases z
          · exact .inr ⟨j, z⟩
      have s2 : SR X.K f { w with μ := fun j => if j = i then none else w.μ j } σ H (ρ.del i) S := by
        refine (s.del i).re _ rfl tt s.pe (fun j b z => ?_) (fun j b z => ?_) (fun j j' b z z' => ?_) s.eE fun j ys ej => ?_
        · dsimp only at z
          split at z
          · cases z
          · exact s.mnew j b z
        · dsimp only at z
          split at z
          · cases z
          · exact s.mE j b z
        · dsimp only at z z'
          split at z
          · cases z
          · split at z'
            · cases z'
            · exact s.minj j j' b z z'
        · rw [En.get_del] at ej
          split at ej
          · cases ej
          · rename_i ne
            dsimp only
            rw [if_neg ne]
            exact .inl rfl
      have rl : Rep X.K H (Wd.φ { w with μ := fun j => if j = i then none else w.μ j }) (Wd.tot { w with μ := fun j => if j = i then none else w.μ j }) (.dct ks xs mm) (.ref a) := by
        simp only [Rep]
        refine ⟨a, vs, rfl, ?_, ha, hl, ra.grow (Grow.less tt) (List.prefix_refl _) _ _⟩
        rintro (z | ⟨j, z⟩)
        · exact s.mE i a m z
        · dsimp only at z
          split at z
          · cases z
          · rename_i ne
            exact ne (s.minj j i a z m)
      have s3 := s2.put (i := i) rl
      have eσ : σ.set i (some (.ref a)) = σ := by
        apply List.ext_getElem?
        intro j
        rw [List.getElem?_set]
        split
        · rename_i z
          subst z
          rw [h1]
          have := (List.getElem?_eq_some_iff.mp h1).1
          rw [if_pos this]
        · rfl
      rw [eσ, En.put_del] at s3
      exact ⟨f, _, _, S, s3, r, ev, q.weak ⟨Grow.less tt, List.prefix_refl _⟩⟩
    · cases e1
      exact ⟨f, w, ρ, S, s, r, ev, q⟩

/-! ### loops -/
theorem p_for {tg it : Expr} {ctg : Tg} {cit : It} {b : List Stmt} {cb : List CS} (hp : PassesOwn (model X.prog X.w) X.A X.env X.xe) (hc : X.calm = true) (hi : PI X tg it (tI X.K F cit)) (hst : strongI cit = true) (hg : PG X tg (gT X.K ctg)) (hb : PSs X b (tSs X.K F Wx cb))
    (hs : ∀ x, foldedSetIterable it X.env x = pure x) : PS X (.For tg it b [] pos) (tS X.K F Wx (.for ctg cit cb)) :=
  (ps_for hp hc hi hg hb hs).mono fun D σ H ⟨f, w, ρ, S, s, r, ev, q⟩ => by
    simp only [evalS] at ev
    obtain ⟨⟨xs, S1⟩, e1, ev⟩ := Res.bind_ok ev
    simp only at ev
    refine ⟨f, w, ρ, S, s, xs, S1, e1, fun J H1 A s1 k1 hA _ ⟨G, Y, g0, gg, wk, yl⟩ => ?_⟩
    have eA := hA hst
    subst eA
    have x1 : Ext w w H H1 := s.ext k1
    refine for_it wk (fun i σ' H' => ∃ w' ρ' S', SR X.K f w' σ' H' ρ' S' ∧ Ext w w' H H' ∧ G w'.φ w'.tot H' ∧ forL ctg (evalSs F cb) (xs.drop i) ρ' S' = .ok r) ?_ ?_ ?_ ?_
    · exact ⟨w, ρ, S1, s1, x1, g0, by rw [List.drop_zero]; exact ev⟩
    · rintro i σ' H' hi ⟨w', ρ', S', _, _, g, _⟩
      exact ⟨_, _, g⟩
    · rintro i x σ' H' H2 hi ⟨w', ρ', S', s', x', g, e'⟩ y
      obtain ⟨nw, hr⟩ := yl i H' x H2 _ _ g y
      have rx := hr xs[i] (by simp [hi])
      rw [drop_cons hi] at e'
      simp only [forL] at e'
      obtain ⟨ρ2, e2, e'⟩ := Res.bind_ok e'
      obtain ⟨fl, e3, e'⟩ := Res.bind_ok e'
      have s2 := s'.nw nw
      have g2 : G w'.φ w'.tot H2 := gg _ _ _ _ _ _ g nw.grow (List.prefix_refl _) fun a ha => by cases ha
      have x2 : Ext w w' H H2 := x'.trans ⟨nw.grow, List.prefix_refl _⟩
      refine ⟨f, w', ρ', S', xs[i], ρ2, s2, rx, Res.of_ok e2, fun σ3 s3 _ _ => ⟨f, w', ρ2, S', s3, fl, e3, ?_⟩⟩
      cases fl with
      | nx ρ3 S3 => exact fun w3 σ4 H4 s4 x4 => ⟨w3, ρ3, S3, s4, x2.trans x4, gg _ _ _ _ _ _ g2 x4.1 x4.2 fun a ha => (by cases ha), e'⟩
      | ct ρ3 S3 => exact fun w3 σ4 H4 s4 x4 => ⟨w3, ρ3, S3, s4, x2.trans x4, gg _ _ _ _ _ _ g2 x4.1 x4.2 fun a ha => (by cases ha), e'⟩
      | bk ρ3 S3 =>
        cases e'
        exact fun w3 σ4 H4 s4 x4 => q w3 σ4 H4 s4 (x2.trans x4)
      | rt t S3 =>
        cases e'
        exact q
      | xc k as ρ3 S3 =>
        cases e'
        exact fun cls d w3 σ4 H4 s4 x4 => q cls d w3 σ4 H4 s4 (x2.trans x4)
    · rintro σ' H' ⟨w', ρ', S', s', x', g, e'⟩
      rw [List.drop_length] at e'
      simp only [forL, Res.ok.injEq] at e'
      subst e'
      exact q w' σ' H' s' x'
theorem p_while {b : List Stmt} {cb : List CS} (hp : PassesOwn (model X.prog X.w) X.A X.env X.xe) (hc : PT X e (tT X.K F c)) (hb : PSs X b (tSs X.K F Wx cb)) : PS X (.While e b [] pos) (tS X.K F Wx (.while c cb)) :=
  (ps_while hp hc hb).mono fun D σ H ⟨f, w, ρ, S, s, r, ev, q⟩ => by
    simp only [evalS] at ev
    refine ⟨fun m σ' H' => ∃ w' ρ' S', SR X.K f w' σ' H' ρ' S' ∧ Ext w w' H H' ∧ whileL (fun ρ S => do
      let (t, S) ← evalE F ρ c S
      (Res.of (truth t)).bind fun k => .ok (k, S)) (evalSs F cb) m ρ' S' = .ok r, ⟨wf, w, ρ, S, s, Ext.refl _ _, ev⟩, ?_⟩
    rintro m σ1 H1 ⟨w1, ρ1, S1, s1, x1, e1⟩
    cases m with
    | zero => simp only [whileL] at e1; cases e1
    | succ m =>
      simp only [whileL] at e1
      obtain ⟨⟨k, S2⟩, e2, e1⟩ := Res.bind_ok e1
      obtain ⟨⟨t, S3⟩, e3, e2⟩ := Res.bind_ok e2
      obtain ⟨k', e4, e2⟩ := Res.bind_ok e2
      cases e2
      refine ⟨f, w1, ρ1, S1, s1, t, _, e3, k, Res.of_ok e4, fun H2 s2 k2 => ?_⟩
      have x2 : Ext w w1 H H2 := x1.trans (s1.ext k2)
      cases k with
      | true =>
        refine iteT ⟨fun σ' H' => ∃ w' ρ' S', SR X.K f w' σ' H' ρ' S' ∧ Ext w w' H H' ∧ whileL (fun ρ S => do
          let (t, S) ← evalE F ρ c S
          (Res.of (truth t)).bind fun k => .ok (k, S)) (evalSs F cb) m ρ' S' = .ok r, fun σ' H' h => ⟨m, Nat.lt_succ_self _, h⟩, ?_⟩
        simp only [if_true] at e1
        obtain ⟨fl, e5, e1⟩ := Res.bind_ok e1
        refine ⟨f, w1, ρ1, _, s2, fl, e5, ?_⟩
        cases fl with
        | nx ρ3 S3 => exact fun w3 σ4 H4 s4 x4 => ⟨w3, ρ3, S3, s4, x2.trans x4, e1⟩
        | ct ρ3 S3 => exact fun w3 σ4 H4 s4 x4 => ⟨w3, ρ3, S3, s4, x2.trans x4, e1⟩
        | bk ρ3 S3 =>
          cases e1
          exact fun w3 σ4 H4 s4 x4 => q w3 σ4 H4 s4 (x2.trans x4)
        | rt t S3 =>
          cases e1
          exact q
        | xc k as ρ3 S3 =>
          cases e1
          exact fun cls d w3 σ4 H4 s4 x4 => q cls d w3 σ4 H4 s4 (x2.trans x4)
      | false =>
        simp only [Bool.false_eq_true, if_false, Res.ok.injEq] at e1
        subst e1
        exact iteF (q w1 σ1 H2 s2 x2)
end
end Ip

set_option maxHeartbeats 4000000
/-! Ip10: parallel assignment; what is never come to. -/
namespace Ip
open PySem PySem.Spec PyProof.Rows L2

section
variable {K : W.Frag} {H H' H1 : Hp} {φ : List Addr} {E E' : Excl} {S S1 S' : Store} {f : Fm} {w : Wd} {σ : L2.St} {ρ : En}
/-- several values, the new lists among them at L -/
def Pars (K : W.Frag) (H : Hp) (φ : List Addr) (E : Excl) : List Addr → List T → List V → Prop
  | L, [], vs => L = [] ∧ vs = []
  | L, t :: ts, vs => ∃ v r, vs = v :: r ∧ match t with
    | .own xs => ∃ a L' ws, L = a :: L' ∧ v = .ref a ∧ H a = some (.lst ws) ∧ Reps K H φ E xs ws ∧ Pars K H φ E L' ts r
    | .odct ks xs m => ∃ a L' ws, L = a :: L' ∧ v = .ref a ∧ H a = some (dOb a m ks ws) ∧ DL m ks xs ∧ Reps K H φ E xs ws ∧ Pars K H φ E L' ts r
    | t => Rep K H φ E t.view v ∧ Pars K H φ E L ts r
def tPa (K : W.Frag) (F : Fns) (cs : List CE) : TA := fun σ H Q => ∃ f w ρ S, SR K f w σ H ρ S ∧ ∃ ts S', evalPar F ρ cs S = .ok (ts, S') ∧
  ∀ vs H' L, SR K f (w.aparts L) σ H' ρ S' → Kp w.φ H H' → L.Nodup → (∀ a ∈ L, H a = none) → Pars K H' w.φ (w.aparts L).tot L ts vs → Q vs H'
theorem Pars.len : ∀ {L : List Addr} {ts : List T} {vs : List V}, Pars K H φ E L ts vs → ts.length = vs.length
  | L, [], vs, h => by obtain ⟨_, rfl⟩ := h; rfl
  | L, t :: ts, vs, h => by
    obtain ⟨v, r, rfl, h⟩ := h
    cases t with
    | own xs =>
      obtain ⟨a, L', ws, _, _, _, _, h⟩ := h
      simp [Pars.len h]
    | odct ks xs m =>
      obtain ⟨a, L', ws, _, _, _, _, _, h⟩ := h
      simp [Pars.len h]
    | _ => simp [Pars.len h.2]
theorem Pars.grow (g : Grow H H' E E') (kp : ∀ a o, H a = some o → H' a = some o) : ∀ {L : List Addr} {ts : List T} {vs : List V}, Pars K H φ E L ts vs → Pars K H' φ E' L ts vs
  | L, [], vs, h => h
  | L, t :: ts, vs, h => by
    obtain ⟨v, r, rfl, h⟩ := h
    refine ⟨v, r, rfl, ?_⟩
    cases t with
    | own ys =>
      obtain ⟨b, M', ws, h1, h2, h3, h4, h5⟩ := h
      exact ⟨b, M', ws, h1, h2, kp _ _ h3, h4.grow g (List.prefix_refl _) _ _, Pars.grow g kp h5⟩
    | odct ks ys m =>
      obtain ⟨b, M', ws, h1, h2, h3, hl, h4, h5⟩ := h
      exact ⟨b, M', ws, h1, h2, kp _ _ h3, hl, h4.grow g (List.prefix_refl _) _ _, Pars.grow g kp h5⟩
    | _ => exact ⟨Rep.grow g (List.prefix_refl _) _ _ h.1, Pars.grow g kp h.2⟩
theorem growL {L : List Addr} (s : SR K f w σ H ρ S) (k : Kp w.φ H H') (n : ∀ a ∈ L, H a = none) : Grow H H' w.tot (w.aparts L).tot := by
  have g := s.grow k
  refine ⟨g.tups, g.frzs, fun a xs e z => ⟨(g.lsts a xs e z).1, fun y => ?_⟩, fun a xs e z => ⟨(g.dcts a xs e z).1, fun y => ?_⟩, g.exts, g.xds⟩
  · rcases aparts_tot.mp y with y | y
    · exact z y
    · rw [n a y] at e; cases e
  · rcases aparts_tot.mp y with y | y
    · exact z y
    · rw [n a y] at e; cases e
theorem a_pnil {X : Cx} {F : Fns} : PA X [] (tPa X.K F []) := pa_nil.mono fun σ H Q ⟨f, w, ρ, S, s, t', S', e, q⟩ => by
  simp only [evalPar, Res.ok.injEq, Prod.mk.injEq] at e
  obtain ⟨rfl, rfl⟩ := e
  exact q [] H [] (by rw [aparts_nil]; exact s) (Kp.refl _ _) List.nodup_nil (by simp) ⟨rfl, rfl⟩
theorem a_pcons {X : Cx} {F : Fns} {e : Expr} {es : List Expr} {c : CE} {cs : List CE} (ha : PE X e (tE X.K F c)) (hs : strong c = true) (hr : PA X es (tPa X.K F cs)) (hp : plainArg e = true) : PA X (e :: es) (tPa X.K F (c :: cs)) :=
  (pa_cons ha hr (star_plain hp)).mono fun σ H Q ⟨f, w, ρ, S, s, t', S', e, q⟩ => by
    simp only [evalPar] at e
    obtain ⟨⟨x, S1⟩, e1, e⟩ := Res.bind_ok e
    obtain ⟨⟨y, S2⟩, e2, e⟩ := Res.bind_ok e
    cases e
    refine ⟨f, w, ρ, S, s, _, _, e1, fun v H1 s1 k1 r1 => ?_⟩
    rw [hs] at r1
    have old : ∀ L : List Addr, (∀ a ∈ L, H1 a = none) → ∀ a ∈ L, H a = none := fun L hl a ha => by
      cases z : H a with
      | none => rfl
      | some o => exact absurd (hl a ha) (k1.dom a (by rw [z]; simp))
    cases r1 with
    | rep r =>
      refine ⟨f, w, ρ, S1, s1, y, _, e2, fun vs H2 L s2 k2 nd nn ps => q _ _ L s2 (k1.trans k2) nd (old L nn) ⟨v, vs, rfl, ?_⟩⟩
      have r2 := Rep.grow (growL s1 k2 nn) (List.prefix_refl _) _ _ r
      cases x with
      | own xs => simp only [Rep] at r
      | odct ks xs => simp only [Rep] at r
      | _ => exact ⟨r2, ps⟩
    | @newd mm ks xs a ws n hz ha hl ra =>
      have sf : SR X.K f (w.apart a) σ H1 ρ S1 := s.fresh k1 s1.st hz (by rw [ha]; simp)
      have nφ : a ∉ w.φ := fun z => n (.inl (s.pe a z))
      refine ⟨f, w.apart a, ρ, S1, sf, y, _, e2, fun vs H2 L s2 k2 nd nn ps => ?_⟩
      rw [aparts_cons] at s2 ps
      have aL : a ∉ L := fun z => by have := nn a z; rw [ha] at this; cases this
      refine q _ _ (a :: L) s2 (k1.trans k2) (List.nodup_cons.mpr ⟨aL, nd⟩) (fun b hb => ?_) ⟨.ref a, vs, rfl, a, L, ws, rfl, rfl, k2.keep a _ ha nφ, hl, ?_, ps⟩
      · rcases List.mem_cons.mp hb with z | z
        · rw [z]; exact hz
        · exact old L nn b z
      · have g := growL sf k2 nn
        rw [aparts_cons] at g
        refine ra.grow ⟨g.tups, g.frzs, fun b us z y => g.lsts b us z fun y' => y ?_, fun b us z y => g.dcts b us z fun y' => y ?_, g.exts, g.xds⟩ (List.prefix_refl _) _ _
        · rcases apart_tot.mp y' with y' | y'
          · exact .inl y'
          · exact .inr y'
        · rcases apart_tot.mp y' with y' | y'
          · exact .inl y'
          · exact .inr y'
    | lookd z => cases z
    | @new xs a ws n hz ha ra =>
      have sf : SR X.K f (w.apart a) σ H1 ρ S1 := s.fresh k1 s1.st hz (by rw [ha]; simp)
      have nφ : a ∉ w.φ := fun z => n (.inl (s.pe a z))
      refine ⟨f, w.apart a, ρ, S1, sf, y, _, e2, fun vs H2 L s2 k2 nd nn ps => ?_⟩
      rw [aparts_cons] at s2 ps
      have aL : a ∉ L := fun z => by have := nn a z; rw [ha] at this; cases this
      refine q _ _ (a :: L) s2 (k1.trans k2) (List.nodup_cons.mpr ⟨aL, nd⟩) (fun b hb => ?_) ⟨.ref a, vs, rfl, a, L, ws, rfl, rfl, k2.keep a _ ha nφ, ?_, ps⟩
      · rcases List.mem_cons.mp hb with z | z
        · rw [z]; exact hz
        · exact old L nn b z
      · have g := growL sf k2 nn
        rw [aparts_cons] at g
        refine ra.grow ⟨g.tups, g.frzs, fun b us z y => g.lsts b us z fun y' => y ?_, fun b us z y => g.dcts b us z fun y' => y ?_, g.exts, g.xds⟩ (List.prefix_refl _) _ _
        · rcases apart_tot.mp y' with y' | y'
          · exact .inl y'
          · exact .inr y'
        · rcases apart_tot.mp y' with y' | y'
          · exact .inl y'
          · exact .inr y'
    | look z => cases z
def setAll (σ : L2.St) : List Nat → List V → L2.St
  | i :: is, v :: vs => setAll (σ.set i (some v)) is vs
  | _, _ => σ
theorem setParts_ok : ∀ {is : List (Nat × Bool)} {ts : List T} {vs : List V} {L : List Addr} {w : Wd} {σ : L2.St} {ρ ρ' : En}, setParts is ts ρ = some ρ' → SR K f (w.aparts L) σ H ρ S → L.Nodup → (∀ a ∈ L, ¬ w.tot a ∧ f.H0 a = none) →
    Pars K H w.φ (w.aparts L).tot L ts vs → (∀ b ∈ w.φ, w.E b) → (∀ b, f.E0 b → w.E b) → ∃ w', SR K f w' (setAll σ (is.map (·.1)) vs) H ρ' S ∧ w'.φ = w.φ ∧ ∀ a, w'.tot a → (w.aparts L).tot a
  | [], ts, vs, L, w, σ, ρ, ρ', e, s, nd, hn, ps, pe, eE => by
    cases ts with
    | nil =>
      simp only [setParts, Option.some.injEq] at e
      subst e
      obtain ⟨rfl, rfl⟩ := ps
      exact ⟨_, s, rfl, fun a h => h⟩
    | cons t ts => simp [setParts] at e
  | (i, o) :: is, [], vs, L, w, σ, ρ, ρ', e, s, nd, hn, ps, pe, eE => by simp [setParts] at e
  | (i, o) :: is, t :: ts, vs, L, w, σ, ρ, ρ', e, s, nd, hn, ps, pe, eE => by
    obtain ⟨v, r, rfl, ps⟩ := ps
    simp only [setParts] at e
    simp only [List.map_cons, setAll]
    have lift : ∀ {a : Addr} {L' : List Addr} {xs : List T} {ws : List V}, Reps K H w.φ (w.aparts (a :: L')).tot xs ws → Reps K H w.φ (w.aparts (a :: L')).tot xs ws := fun h => h
    have isOwn : ∀ {a : Addr} {L' : List Addr} {xs : List T} {ws : List V}, t = .own xs → L = a :: L' → v = .ref a → H a = some (.lst ws) → Reps K H w.φ (w.aparts L).tot xs ws → Pars K H w.φ (w.aparts L).tot L' ts r →
        ∃ w', SR K f w' (setAll (σ.set i (some v)) (is.map (·.1)) r) H ρ' S ∧ w'.φ = w.φ ∧ ∀ a, w'.tot a → (w.aparts L).tot a := by
      intro a L' xs ws et eL ev ha ra pr
      subst et eL ev
      obtain ⟨na, nd'⟩ := List.nodup_cons.mp nd
      obtain ⟨n1, n2⟩ := hn a (by simp)
      cases o with
      | true =>
        simp only [if_true] at e
        have sg := s.give (i := i) n1 na n2 ha ra pe eE
        have tt : ∀ b, ((w.setμ i a).aparts L').tot b → (w.aparts (a :: L')).tot b := fun b z => by
          rw [aparts_tot] at z ⊢
          rcases z with (z | ⟨j, z⟩) | z
          · exact .inl (.inl z)
          · simp only [Wd.setμ] at z
            split at z
            · cases z; exact .inr (by simp)
            · exact .inl (.inr ⟨j, z⟩)
          · exact .inr (by simp [z])
        have prG : ∀ {M : List Addr} {us : List T} {vs : List V}, Pars K H w.φ (w.aparts (a :: L')).tot M us vs → Pars K H w.φ ((w.setμ i a).aparts L').tot M us vs := by
          intro M us
          induction us generalizing M with
          | nil => intro vs h; exact h
          | cons u us ih =>
            intro vs h
            obtain ⟨v, r, rfl, h⟩ := h
            refine ⟨v, r, rfl, ?_⟩
            cases u with
            | own ys =>
              obtain ⟨b, M', ws, h1, h2, h3, h4, h5⟩ := h
              exact ⟨b, M', ws, h1, h2, h3, h4.grow (Grow.less tt) (List.prefix_refl _) _ _, ih h5⟩
            | odct ks ys m =>
              obtain ⟨b, M', ws, h1, h2, h3, hl, h4, h5⟩ := h
              exact ⟨b, M', ws, h1, h2, h3, hl, h4.grow (Grow.less tt) (List.prefix_refl _) _ _, ih h5⟩
            | _ => exact ⟨Rep.grow (Grow.less tt) (List.prefix_refl _) _ _ h.1, ih h.2⟩
        have hn' : ∀ b ∈ L', ¬ (w.setμ i a).tot b ∧ f.H0 b = none := fun b hb => ⟨fun y => by
          rcases y with z | ⟨j, z⟩
          · exact (hn b (by simp [hb])).1 (.inl z)
          · simp only [Wd.setμ] at z
            split at z
            · cases z; exact na hb
            · exact (hn b (by simp [hb])).1 (.inr ⟨j, z⟩), (hn b (by simp [hb])).2⟩
        obtain ⟨w', h1, h2, h3⟩ := setParts_ok (is := is) (w := w.setμ i a) e sg nd' hn' (prG pr) pe eE
        exact ⟨w', h1, h2, fun b z => tt b (h3 b z)⟩
      | false =>
        simp only [Bool.false_eq_true, if_false] at e
        have sg := s.plain (i := i) n1 na ha ra pe eE
        have tt : ∀ b, (w.aparts L').tot b → (w.aparts (a :: L')).tot b := fun b z => by
          rw [aparts_tot] at z ⊢
          rcases z with z | z
          · exact .inl z
          · exact .inr (by simp [z])
        have prG : ∀ {M : List Addr} {us : List T} {vs : List V}, Pars K H w.φ (w.aparts (a :: L')).tot M us vs → Pars K H w.φ (w.aparts L').tot M us vs := by
          intro M us
          induction us generalizing M with
          | nil => intro vs h; exact h
          | cons u us ih =>
            intro vs h
            obtain ⟨v, r, rfl, h⟩ := h
            refine ⟨v, r, rfl, ?_⟩
            cases u with
            | own ys =>
              obtain ⟨b, M', ws, h1, h2, h3, h4, h5⟩ := h
              exact ⟨b, M', ws, h1, h2, h3, h4.grow (Grow.less tt) (List.prefix_refl _) _ _, ih h5⟩
            | odct ks ys m =>
              obtain ⟨b, M', ws, h1, h2, h3, hl, h4, h5⟩ := h
              exact ⟨b, M', ws, h1, h2, h3, hl, h4.grow (Grow.less tt) (List.prefix_refl _) _ _, ih h5⟩
            | _ => exact ⟨Rep.grow (Grow.less tt) (List.prefix_refl _) _ _ h.1, ih h.2⟩
        obtain ⟨w', h1, h2, h3⟩ := setParts_ok (is := is) (w := w) e sg nd' (fun b hb => hn b (by simp [hb])) (prG pr) pe eE
        exact ⟨w', h1, h2, fun b z => tt b (h3 b z)⟩
    have isOwnD : ∀ {a : Addr} {L' : List Addr} {mm : Option Bool} {ks : List (List L2.Key)} {xs : List T} {ws : List V}, t = .odct ks xs mm → L = a :: L' → v = .ref a → H a = some (dOb a mm ks ws) → DL mm ks xs → Reps K H w.φ (w.aparts L).tot xs ws → Pars K H w.φ (w.aparts L).tot L' ts r →
        ∃ w', SR K f w' (setAll (σ.set i (some v)) (is.map (·.1)) r) H ρ' S ∧ w'.φ = w.φ ∧ ∀ a, w'.tot a → (w.aparts L).tot a := by
      intro a L' mm ks xs ws et eL ev ha hld ra pr
      subst et eL ev
      obtain ⟨na, nd'⟩ := List.nodup_cons.mp nd
      obtain ⟨n1, n2⟩ := hn a (by simp)
      cases o with
      | true =>
        simp only [if_true] at e
        have sg := s.giveD (i := i) n1 na n2 ha hld ra pe eE
        have tt : ∀ b, ((w.setμ i a).aparts L').tot b → (w.aparts (a :: L')).tot b := fun b z => by
          rw [aparts_tot] at z ⊢
          rcases z with (z | ⟨j, z⟩) | z
          · exact .inl (.inl z)
          · simp only [Wd.setμ] at z
            split at z
            · cases z; exact .inr (by simp)
            · exact .inl (.inr ⟨j, z⟩)
          · exact .inr (by simp [z])
        have prG : ∀ {M : List Addr} {us : List T} {vs : List V}, Pars K H w.φ (w.aparts (a :: L')).tot M us vs → Pars K H w.φ ((w.setμ i a).aparts L').tot M us vs := by
          intro M us
          induction us generalizing M with
          | nil => intro vs h; exact h
          | cons u us ih =>
            intro vs h
            obtain ⟨v, r, rfl, h⟩ := h
            refine ⟨v, r, rfl, ?_⟩
            cases u with
            | own ys =>
              obtain ⟨b, M', ws, h1, h2, h3, h4, h5⟩ := h
              exact ⟨b, M', ws, h1, h2, h3, h4.grow (Grow.less tt) (List.prefix_refl _) _ _, ih h5⟩
            | odct ks ys m =>
              obtain ⟨b, M', ws, h1, h2, h3, hl, h4, h5⟩ := h
              exact ⟨b, M', ws, h1, h2, h3, hl, h4.grow (Grow.less tt) (List.prefix_refl _) _ _, ih h5⟩
            | _ => exact ⟨Rep.grow (Grow.less tt) (List.prefix_refl _) _ _ h.1, ih h.2⟩
        have hn' : ∀ b ∈ L', ¬ (w.setμ i a).tot b ∧ f.H0 b = none := fun b hb => ⟨fun y => by
          rcases y with z | ⟨j, z⟩
          · exact (hn b (by simp [hb])).1 (.inl z)
          · simp only [Wd.setμ] at z
            split at z
            · cases z; exact na hb
            · exact (hn b (by simp [hb])).1 (.inr ⟨j, z⟩), (hn b (by simp [hb])).2⟩
        obtain ⟨w', h1, h2, h3⟩ := setParts_ok (is := is) (w := w.setμ i a) e sg nd' hn' (prG pr) pe eE
        exact ⟨w', h1, h2, fun b z => tt b (h3 b z)⟩
      | false =>
        simp only [Bool.false_eq_true, if_false] at e
        have sg := s.plainD (i := i) n1 na ha hld ra pe eE
        have tt : ∀ b, (w.aparts L').tot b → (w.aparts (a :: L')).tot b := fun b z => by
          rw [aparts_tot] at z ⊢
          rcases z with z | z
          · exact .inl z
          · exact .inr (by simp [z])
        have prG : ∀ {M : List Addr} {us : List T} {vs : List V}, Pars K H w.φ (w.aparts (a :: L')).tot M us vs → Pars K H w.φ (w.aparts L').tot M us vs := by
          intro M us
          induction us generalizing M with
          | nil => intro vs h; exact h
          | cons u us ih =>
            intro vs h
            obtain ⟨v, r, rfl, h⟩ := h
            refine ⟨v, r, rfl, ?_⟩
            cases u with
            | own ys =>
              obtain ⟨b, M', ws, h1, h2, h3, h4, h5⟩ := h
              exact ⟨b, M', ws, h1, h2, h3, h4.grow (Grow.less tt) (List.prefix_refl _) _ _, ih h5⟩
            | odct ks ys m =>
              obtain ⟨b, M', ws, h1, h2, h3, hl, h4, h5⟩ := h
              exact ⟨b, M', ws, h1, h2, h3, hl, h4.grow (Grow.less tt) (List.prefix_refl _) _ _, ih h5⟩
            | _ => exact ⟨Rep.grow (Grow.less tt) (List.prefix_refl _) _ _ h.1, ih h.2⟩
        obtain ⟨w', h1, h2, h3⟩ := setParts_ok (is := is) (w := w) e sg nd' (fun b hb => hn b (by simp [hb])) (prG pr) pe eE
        exact ⟨w', h1, h2, fun b z => tt b (h3 b z)⟩
    have notOwn : (∀ xs, t ≠ .own xs) → (∀ ks xs m, t ≠ .odct ks xs m) → Rep K H w.φ (w.aparts L).tot t.view v → Pars K H w.φ (w.aparts L).tot L ts r →
        ∃ w', SR K f w' (setAll (σ.set i (some v)) (is.map (·.1)) r) H ρ' S ∧ w'.φ = w.φ ∧ ∀ a, w'.tot a → (w.aparts L).tot a := by
      intro nt nd' rt pr
      cases o with
      | true =>
        simp only [if_true] at e
        cases t <;> first | cases e | exact absurd rfl (nt _) | exact absurd rfl (nd' _ _ _)
      | false =>
        simp only [Bool.false_eq_true, if_false] at e
        exact setParts_ok (is := is) e (s.put rt) nd hn pr pe eE
    cases t with
    | own xs =>
      obtain ⟨a, L', ws, h1, h2, h3, h4, h5⟩ := ps
      exact isOwn rfl h1 h2 h3 h4 (by rw [← h1] at *; exact h5)
    | odct ks xs m =>
      obtain ⟨a, L', ws, h1, h2, h3, hl, h4, h5⟩ := ps
      exact isOwnD rfl h1 h2 h3 hl h4 (by rw [← h1] at *; exact h5)
    | _ => exact notOwn (fun xs z => by cases z) (fun ks xs m z => by cases z) ps.1 ps.2
def tParG (is : List Nat) (ta : TA) : TS := fun D σ H => ta σ H fun vs H1 => vs.length = is.length → ∀ H2, Nw H1 H2 → D.nx (setAll σ is vs) H2
theorem tPa.mono {F : Fns} {cs : List CE} {Q Q' : List V → Hp → Prop} (h : tPa K F cs σ H Q) (m : ∀ vs H, Q vs H → Q' vs H) : tPa K F cs σ H Q' := by
  obtain ⟨f, w, ρ, S, s, ts, S', e, q⟩ := h
  exact ⟨f, w, ρ, S, s, ts, S', e, fun vs H' L a b c d p => m _ _ (q vs H' L a b c d p)⟩
theorem evalPar_len {F : Fns} {ρ : En} : ∀ {cs : List CE} {S S' : Store} {ts : List T}, evalPar F ρ cs S = .ok (ts, S') → ts.length = cs.length
  | [], S, S', ts, e => by simp only [evalPar, Res.ok.injEq, Prod.mk.injEq] at e; obtain ⟨rfl, rfl⟩ := e; rfl
  | c :: cs, S, S', ts, e => by
    simp only [evalPar] at e
    obtain ⟨⟨x, S1⟩, e1, e⟩ := Res.bind_ok e
    obtain ⟨⟨y, S2⟩, e2, e⟩ := Res.bind_ok e
    cases e
    simp [evalPar_len e2]
theorem tPa.len {F : Fns} {cs : List CE} {Q : List V → Hp → Prop} (h : tPa K F cs σ H fun vs H1 => vs.length = cs.length → Q vs H1) : tPa K F cs σ H Q := by
  obtain ⟨f, w, ρ, S, s, ts, S', e, q⟩ := h
  exact ⟨f, w, ρ, S, s, ts, S', e, fun vs H' L a b c d p => q vs H' L a b c d p (by rw [← p.len, evalPar_len e])⟩
end
section
variable {X : Cx} {F : Fns} {Wx : WX} {st : Stmt} {cs : List CE}
theorem p_par {is : List (Nat × Bool)} (hl : cs.length = is.length) (h : PS X st (tParG (is.map (·.1)) (tPa X.K F cs))) : PS X st (tS X.K F Wx (.par is cs)) :=
  h.mono fun D σ H ⟨f, w, ρ, S, s, r, ev, q⟩ => by
    simp only [evalS] at ev
    obtain ⟨⟨ts, S1⟩, e1, ev⟩ := Res.bind_ok ev
    obtain ⟨ρ', e2, ev⟩ := Res.bind_ok ev
    cases ev
    refine ⟨f, w, ρ, S, s, ts, S1, e1, fun vs H1 L s1 k1 nd nn ps _ H2 nw => ?_⟩
    have s2 := s1.nw nw
    have gr := growL s k1 nn
    have ps2 : Pars X.K H2 w.φ (w.aparts L).tot L ts vs := ps.grow nw.grow fun a vs e => by
      rcases nw with rfl | ⟨p, o, hp, rfl⟩
      · exact e
      · rw [upd_ne (ne_of_none e hp)]; exact e
    obtain ⟨w', h1, h2, h3⟩ := setParts_ok (Res.of_ok e2) s2 nd (fun a ha => ⟨s.free (nn a ha), s.dom0 (nn a ha)⟩) ps2 s.pe s.eE
    refine q w' _ _ h1 ⟨⟨fun a xs e => (Nw.grow (E := w.tot) nw).tups a xs (gr.tups a xs e), fun a o u e => (Nw.grow (E := w.tot) nw).frzs a o u (gr.frzs a o u e), fun a xs e n => ?_, fun a xs e n => ?_, fun a p e => (Nw.grow (E := w.tot) nw).exts a p (gr.exts a p e), fun a p e => (Nw.grow (E := w.tot) nw).xds a p (gr.xds a p e)⟩, by rw [h2]; exact List.prefix_refl _⟩
    · obtain ⟨g1, g2⟩ := gr.lsts a xs e n
      exact ⟨((Nw.grow (E := (w.aparts L).tot) nw).lsts a xs g1 g2).1, fun z => g2 (h3 a z)⟩
    · obtain ⟨g1, g2⟩ := gr.dcts a xs e n
      exact ⟨((Nw.grow (E := (w.aparts L).tot) nw).dcts a xs g1 g2).1, fun z => g2 (h3 a z)⟩
theorem p_par2 {i j : Nat} {c0 c1 : CE} {o0 o1 : Bool} (h : PS X st (tPar i j (tPa X.K F [c0, c1]))) : PS X st (tS X.K F Wx (.par [(i, o0), (j, o1)] [c0, c1])) :=
  p_par rfl (h.mono fun D σ H h => tPa.len (tPa.mono h fun vs H1 q hl => by
    match vs, hl with
    | [u, v], _ => exact ⟨u, v, rfl, q rfl H1 (.inl rfl)⟩))
theorem p_par3 {i j k : Nat} {c0 c1 c2 : CE} {o0 o1 o2 : Bool} (h : PS X st (tPar3 i j k (tPa X.K F [c0, c1, c2]))) : PS X st (tS X.K F Wx (.par [(i, o0), (j, o1), (k, o2)] [c0, c1, c2])) :=
  p_par rfl (h.mono fun D σ H h => tPa.len (tPa.mono h fun vs H1 q hl => by
    match vs, hl with
    | [u, v, x], _ => exact ⟨u, v, x, rfl, q rfl H1 (.inl rfl)⟩))
/-- the targets of a tuple: names alone -/
def gNames : List Nat → TGs
  | [] => gNil
  | i :: is => gCons (gName i) (gNames is)
theorem gNames_all : ∀ (is : List Nat) (vs : List V) (σ : L2.St) (H : Hp) (Q : L2.St → Hp → Prop), vs.length = is.length → Q (setAll σ is vs) H → gNames is vs σ H Q
  | [], [], σ, H, Q, _, q => ⟨rfl, q⟩
  | [], _ :: _, _, _, _, hl, _ => by simp at hl
  | i :: is, [], _, _, _, hl, _ => by simp at hl
  | i :: is, v :: vs, σ, H, Q, hl, q => ⟨v, vs, rfl, gNames_all is vs _ H Q (by simpa using hl) q⟩
theorem p_parN {is : List (Nat × Bool)} (hl : cs.length = is.length) (hz : cs.length ≤ 1000) (h : PS X st (tAsg (tTup (tPa X.K F cs)) (gTup X.K is.length (gNames (is.map (·.1)))))) : PS X st (tS X.K F Wx (.par is cs)) :=
  p_par hl (h.mono fun D σ H h => tPa.len (tPa.mono h fun vs H1 q hv => by
    refine ⟨by rw [hv, sizeLine_eq]; omega, fun p hp => ⟨p, vs, rfl, SqT.of (upd_same ..), by rw [hv, hl], ?_⟩⟩
    exact gNames_all _ _ _ _ _ (by rw [hv, hl]; simp) (q (by rw [hv, hl]; simp) _ (.inr ⟨p, _, hp, rfl⟩))))
/-- what is never come to -/
theorem e_bad {e : Expr} : PE X e (tE X.K F .bad) := ⟨fun pins s σ H Q I ⟨f, w, ρ, S, sr, t, S', e, q⟩ => by simp only [evalE] at e; cases e⟩
theorem t_bad {e : Expr} : PT X e (tT X.K F .bad) := ⟨fun pins s σ H Q I ⟨f, w, ρ, S, sr, t, S', e, q⟩ => by simp only [evalE] at e; cases e⟩
theorem p_bad : PS X st (tS X.K F Wx .bad) := (ps_never (X := X)).mono fun D σ H ⟨f, w, ρ, S, s, r, ev, q⟩ => by simp only [evalS] at ev; cases ev
theorem ss_bad {ss : List Stmt} {css : List CS} : PSs X ss (tSs X.K F Wx (.bad :: css)) := (pss_never (X := X)).mono fun D σ H ⟨f, w, ρ, S, s, r, ev, q⟩ => by
  simp only [evalSs, evalS] at ev
  cases ev
end
end Ip

set_option maxHeartbeats 4000000
/-! IpE: exceptions: fields, classes; calls that may raise; raise; try. -/
namespace Ip
open PySem PySem.Spec PyProof.Rows L2

/-- what the written part says of the error class with the number c -/
structure XB (K : W.Frag) (c : Nat) (C : Addr) : Prop where
  at_ : ClsAt K c C
  ex : PySem.W.subIn K (.ref C) (.type "BaseException") = some true
  ve : PySem.W.subIn K (.ref C) (.type "ValueError") = some true
  sf : PySem.W.subIn K (.ref C) (.ref C) = some true
  ty : PySem.W.typeIn K (.ref C) = some (.type "type")
  hd : PySem.W.hasDictIn K C = true
  ga : PySem.W.findIn K (.ref C) "__getattribute__" = some (some (.builtin "BaseException.__getattribute__"))
  gg : PySem.W.findIn K (.ref C) "__getattr__" = some none
  cl : PySem.W.findIn K (.ref C) "__class__" = some (some (.builtin "object.__class__"))
  mr : PySem.W.mroIn K C (.type "object") = some true
  kC : PySem.W.keepIn K (.ref C) = true
  fl : ∀ f ∈ clsF c, PySem.W.findIn K (.ref C) f = some none
  sg : PySem.W.specialIn K (.builtin "object.__class__") "__get__" = some (some (.builtin "getset_descriptor.__get__"))
  tk : PySem.W.takesIn K (.builtin "object.__class__") = some true
theorem ClsAt.eq {K : W.Frag} {c : Nat} {C D : Addr} (h : ClsAt K c C) (h' : ClsAt K c D) : C = D := by
  unfold ClsAt at h h'
  rw [h] at h'
  cases h'; rfl
theorem XB.cls {K : W.Frag} {c : Nat} {C : Addr} (h : XB K c C) : (PySem.W.clsIn K C).isSome = true := by
  obtain ⟨cd, e, _⟩ := PySem.W.any_some h.hd
  rw [e]; rfl
theorem XB.kit {K : W.Frag} {c d : Nat} {C D : Addr} (h : XB K c C) (h' : XB K d D) (p : PySem.W.subIn K (.ref C) (.ref D) = some (mch c d)) : PySem.W.kitOne K (.ref C) (.ref D) = some (mch c d) := by
  unfold PySem.W.kitOne
  by_cases e : (Value.ref C == Value.ref D) = true
  · rw [if_pos e]
    have : C = D := Value.ref.inj (beq_iff_eq.mp e)
    subst this
    rw [h.sf] at p
    exact p
  · rw [if_neg e]
    unfold PySem.W.kitCls
    simp only [h'.cls, h'.ty]
    exact p
theorem XB.kitV {K : W.Frag} {c : Nat} {C : Addr} (h : XB K c C) : PySem.W.kitOne K (.ref C) (.type "ValueError") = some true := by
  have e : (Value.ref C == Value.type "ValueError") = false := beq_eq_false_iff_ne.mpr fun z => nomatch z
  unfold PySem.W.kitOne
  rw [e, if_neg (by simp)]
  refine (?_ : (if PySem.W.kitMeta "ValueError" = true then PySem.W.subIn K (.ref C) (.type "ValueError") else none) = some true)
  rw [if_pos (by decide +kernel)]
  exact h.ve
theorem XB.exm {K : W.Frag} {c d : Nat} {C D : Addr} (h' : XB K d D) (p : PySem.W.subIn K (.ref C) (.ref D) = some (mch c d)) : PySem.W.exmOne K (.ref C) (.ref D) = some (mch c d) := by
  have e1 : (PySem.W.subIn K (.ref D) (.type "BaseException") == some true) = true := by rw [h'.ex]; rfl
  have e2 : ((PySem.W.clsIn K D).isSome && PySem.W.typeIn K (.ref D) == some (.type "type")) = true := by rw [h'.cls, h'.ty]; rfl
  refine (?_ : (if (PySem.W.subIn K (.ref D) (.type "BaseException") == some true) = true then (if ((PySem.W.clsIn K D).isSome && PySem.W.typeIn K (.ref D) == some (.type "type")) = true then PySem.W.subIn K (.ref C) (.ref D) else none) else none) = some (mch c d))
  rw [if_pos e1, if_pos e2]
  exact p

/-! ### what is asked of a caught exception -/
section
variable {X : Cx} {F : Fns} {a b : Expr} {ca cb : CE} {pos : Pos}
/-- an exception at its address, with its dict -/
theorem exv_inst {pins : List (Addr × Obj)} {σ : L2.St} {H : Hp} {s : Shared} {x : Addr} {C : Addr} {d : Option Addr} (I : Inv X pins σ H s) (hx : H x = some (exh x (.ref C) d)) (hd : d = none ∨ ∃ dd fs, d = some dd ∧ H dd = some (.xd fs)) :
    ∃ oe od, PySem.W.InstAt s.heap x oe C od ∧ ∀ dd fs, d = some dd → H dd = some (.xd fs) → ∃ (o : Obj) (mA : Str → Option Value), od = some o ∧ s.heap.get? dd = some o ∧ (∀ n, PySem.W.lookIn n o = some (mA n)) ∧ ∀ n, RelO (fs.lookup n) (mA n) := by
  obtain ⟨⟨oe, g1, ⟨g2, g3⟩, vs, g4⟩, _⟩ := I.hok x _ hx
  have hn : PySem.W.notCls oe = true := by unfold PySem.W.notCls; rw [g4]
  rcases hd with rfl | ⟨dd, fs, rfl, h2⟩
  · exact ⟨oe, none, ⟨g1, g2, hn, by rw [g3]; trivial⟩, fun _ _ z => by cases z⟩
  · obtain ⟨mA, k1, k2⟩ := I.hok dd _ h2
    obtain ⟨od, l1, l2⟩ := lookIn_ns k1
    refine ⟨oe, some od, ⟨g1, g2, hn, by rw [g3]; exact l1⟩, fun dd' fs' z h3 => ?_⟩
    cases z
    rw [h2] at h3
    cases h3
    exact ⟨od, mA, rfl, l1, l2, k2⟩
def rIsX (K : PySem.W.Frag) : List V → Hp → VK → Prop := fun xs H Q => ∃ (x : Addr) (c : Nat) (C : Addr) (d : Option Addr) (cv : V) (v : Value) (r : Bool), xs = [.ref x, cv] ∧ H x = some (exh x (.ref C) d) ∧ (d = none ∨ ∃ dd fs, d = some dd ∧ H dd = some (.xd fs)) ∧ XB K c C ∧
  (∀ u, RelV cv u → u = v) ∧ PySem.W.kitOne K (.ref C) v = some r ∧ Q (.bl r) H
theorem call_isX : CallR X (.builtin "isinstance") (rIsX X.K) := by
  intro pins s σ H xs us Q I r h
  obtain ⟨x, c, C, d, cv, v, r', rfl, hx, hd, B, hv, hk, q⟩ := h
  obtain ⟨u1, u2, rfl, r1, r2⟩ := vals2 r
  cases (hv _ r2)
  cases (show u1 = Value.ref x from r1)
  obtain ⟨oe, od, J, _⟩ := exv_inst I hx hd
  exact PySem.W.kia_one (PySem.W.kitx_exc B.cls B.ga B.gg B.ex B.cl B.sg B.tk B.mr) I.kIn J hk (fun z => nomatch z) fun tk => ⟨.bl r', H, I.tok tk, rfl, q⟩
theorem exv_d {K : W.Frag} {H : Hp} {c : Nat} {as : List T} {cls : Value} {d : Option Addr} (h : XR K H c as cls d) : ∃ C, cls = .ref C ∧ ClsAt K c C ∧ (d = none ∨ ∃ dd fs, d = some dd ∧ H dd = some (.xd fs)) := by
  obtain ⟨C, e, k, _, h | ⟨dd, fs, e1, e2, _⟩⟩ := h
  · exact ⟨C, e, k, .inl h.2⟩
  · exact ⟨C, e, k, .inr ⟨dd, fs, e1, e2⟩⟩
theorem s_isexc {k : Option Nat} {cs : List Nat} {x xt : Str} {pp pt : Pos} {cv : V} {v : Value} (hg : Gl X x) (hm : X.mg x = none) (hv : bootBuiltins x = some (.builtin "isinstance")) (hn : x ≠ "__name__") (hdb : (x == ("__debug__" : Str)) = false)
    (ha : PE X a (tE X.K F ca)) (hp : plainArg a = true) (ht : PE X (.Name xt pt) (tC cv)) (hcv : ∀ u, RelV cv u → u = v) (hB : ∀ c ∈ cs, ∀ C, ClsAt X.K c C → XB X.K c C ∧ PySem.W.kitOne X.K (.ref C) v = some (match k with | some d => mch c d | none => true)) :
    PE X (.Call (.Name x pp) [a, .Name xt pt] [] pos) (tE X.K F (.isexc ca k cs)) :=
  (pe_callB call_isX hg hm hv (pa_cons ha (pa_cons ht pa_nil (star_plain rfl)) (star_plain hp)) hn hdb (star_plain hp) (star_any rfl)).mono fun σ H Q ⟨f, w, ρ, S, s, t', S', e, q⟩ => by
    simp only [evalE] at e
    obtain ⟨⟨t, S1⟩, e1, e⟩ := Res.bind_ok e
    simp only at e
    split at e
    · rename_i c as
      split at e
      · rename_i hc
        cases e
        refine ⟨f, w, ρ, S, s, _, _, e1, fun u H1 s1 k1 r1 => ?_⟩
        obtain ⟨_, lr⟩ := r1.lr
        cases lr with
        | rep r =>
          simp only [Rep] at r
          obtain ⟨y, cls, d, rfl, hx, xr⟩ := r
          obtain ⟨C, rfl, hC, hd⟩ := exv_d xr
          obtain ⟨B, hk⟩ := hB c hc C hC
          exact ⟨y, c, C, d, cv, v, _, rfl, hx, hd, B, hcv, hk, q _ _ s1 k1 (.rep (by cases k <;> simp only [Rep]))⟩
      · cases e
    · cases e
theorem pe_fld {n : Str} {te : TE} (he : PE X a te) (hb : attributeBase a n X.env (eval a X.env) = eval a X.env) :
    PE X (.Attribute a n pos) (fun σ H Q => te σ H fun x H1 => ∃ (y : Addr) (c : Nat) (C dd : Addr) (fs : List (Str × V)) (v : V), x = .ref y ∧ H1 y = some (exh y (.ref C) (some dd)) ∧ H1 dd = some (.xd fs) ∧ XB X.K c C ∧ n ∈ clsF c ∧ fs.lookup n = some v ∧ Q v H1) := by
  refine ⟨fun pins s σ H Q I h => attr_of hb (thn (he.run pins s σ H _ I h) fun u s1 hh => ?_)⟩
  obtain ⟨x, H1, I1, rx, y, c, C, dd, fs, v, rfl, hx, hd, B, hn, hl, q⟩ := hh
  cases (show u = Value.ref y from rx)
  obtain ⟨oe, od, J, hJ⟩ := exv_inst I1 hx (.inr ⟨dd, fs, rfl, hd⟩)
  obtain ⟨o, mA, rfl, _, l2, k2⟩ := hJ dd fs rfl hd
  obtain ⟨u, hu, ru⟩ := RelO.some_of (v := v) (o := mA n) (by rw [← hl]; exact k2 n)
  refine PySem.HandSPX.exc_get I1.kIn J B.ga B.gg B.ex (PySem.W.findObj_own B.hd (B.fl n hn) rfl (v := u) ?_) (handed_of ru) ⟨v, H1, I1.tok _, ru, q⟩
  rw [l2, hu]
theorem fldT_mem : ∀ {gs : List Str} {ts : List T} {f : Str} {t : T}, fldT gs ts f = some t → f ∈ gs
  | [], _, _, _, h => by simp [fldT] at h
  | g :: gs, [], _, _, h => by simp [fldT] at h
  | g :: gs, t :: ts, f, u, h => by
    simp only [fldT] at h
    split at h
    · rename_i e; subst e; exact List.mem_cons_self
    · exact List.mem_cons_of_mem _ (fldT_mem h)
theorem sim_rep {K : W.Frag} {H : Hp} {φ : List Addr} {E : Excl} {t : T} {v : V} (h : SimR t v) : Rep K H φ E t v := by
  cases t <;> simp only [SimR] at h <;> simp only [Rep] <;> exact h
theorem s_fld {n : Str} {cs : List Nat} (ha : PE X a (tE X.K F ca)) (hb : attributeBase a n X.env (eval a X.env) = eval a X.env) (hB : ∀ c ∈ cs, ∀ C, ClsAt X.K c C → XB X.K c C) : PE X (.Attribute a n pos) (tE X.K F (.fld ca n cs)) :=
  (pe_fld ha hb).mono fun σ H Q ⟨f, w, ρ, S, s, t', S', e, q⟩ => by
    simp only [evalE] at e
    obtain ⟨⟨t, S1⟩, e1, e⟩ := Res.bind_ok e
    simp only at e
    split at e
    · rename_i c as
      split at e
      · rename_i hc
        obtain ⟨t2, e2, e⟩ := Res.bind_ok e
        cases e
        refine ⟨f, w, ρ, S, s, _, _, e1, fun u H1 s1 k1 r1 => ?_⟩
        obtain ⟨_, lr⟩ := r1.lr
        cases lr with
        | rep r =>
          simp only [Rep] at r
          obtain ⟨y, cls, d, rfl, hx, C, rfl, hC, hl, h | ⟨dd, fs, rfl, hd, hf⟩⟩ := r
          · have := fldT_mem (Res.of_ok e2)
            rw [h.1] at this
            cases this
          · obtain ⟨v, hv, sv⟩ := hf _ _ (Res.of_ok e2)
            exact ⟨y, c, C, dd, fs, v, rfl, hx, hd, hB c hc C hC, fldT_mem (Res.of_ok e2), hv, q _ _ s1 k1 (.rep (sim_rep sv))⟩
      · cases e
    · cases e
end
end Ip

set_option maxHeartbeats 4000000
/-! IpG: calls that may raise; raise; try; index, count. -/
namespace Ip
open PySem PySem.Spec PyProof.Rows L2

section
variable {X : Cx} {F : Fns} {Wx : WX} {a b fe e : Expr} {ca cb c : CE} {pos : Pos} {es : List Expr} {cs : List CE} {l : CL}
/-! ### xs.index(b), xs.count(b) -/
def rCntB (K : PySem.W.Frag) : V → List V → Hp → VK → Prop := fun x xs H Q => ∃ (p : Addr) (bs : List Bool) (k : Bool), x = .ref p ∧ xs = [.bl k] ∧ SqL K H p (bs.map V.bl) ∧ Q (.int (bs.count k : Nat)) H
theorem cnt_bools {k : Bool} : ∀ {bs : List Bool} {us : List Value}, Vals (bs.map V.bl) us → us.countP (eqU (.bl k)) = bs.count k
  | [], us, r => by cases r; rfl
  | b :: bs, us, r => by
    cases r with
    | cons h t =>
      cases h
      rw [List.countP_cons, List.count_cons, cnt_bools t]
      rfl
theorem flat_bools (bs : List Bool) : (bs.map V.bl).all flatV = true := by
  rw [List.all_map]
  exact List.all_eq_true.mpr fun _ _ => rfl
theorem mt_countB : MtR X "list.count" (rCntB X.K) := fun pins s σ H x xs v us Q I rx rxs h => by
  obtain ⟨p, bs, k, rfl, rfl, hs, q⟩ := h
  obtain ⟨u, rfl, ru⟩ := rxs.one
  cases rx; cases ru
  obtain ⟨its, rv, pl, _⟩ := I.list hs
  obtain ⟨⟨o1, o2, o3, o4⟩, n, ho, h1, _, h2⟩ := pl
  cases h1; cases h2
  refine call_meets PySem.F.slot_list_count ⟨_, ho, rfl⟩ PySem.F.entry_list_count (PySem.F.args_list_count_2 _ _) (SeqAt.list_countAt p its.toArray n _ _ (.bool k) (eqU (.bl k)))
    ⟨ho, fun y hy => mem_eqAt (x := .bl k) rfl rfl rv (flat_bools bs) y (by simpa using hy), .int (bs.count k : Nat), H, I.tok _, ⟨s.toks, ?_⟩, q⟩
  rw [← cnt_bools rv]
theorem bools_inv : ∀ {xs : List T} {bs : List Bool}, bools xs = some bs → xs = bs.map T.bl
  | [], bs, h => by cases h; rfl
  | x :: xs, bs, h => by
    cases x with
    | bl b =>
      simp only [bools, Option.map_eq_some_iff] at h
      obtain ⟨cs, h1, rfl⟩ := h
      rw [bools_inv h1]; rfl
    | _ => cases h
/-- a list's items at hand -/
theorem lst_of {K : W.Frag} {φ : List Addr} {E : Excl} {H : Hp} {t : T} {v : V} {xs : List T} {bs : List Bool} (D : Dom φ E H) (h : lstOf t = some xs) (hb : bools xs = some bs) (r : LR K φ E H t v) : ∃ p, v = .ref p ∧ SqL K H p (bs.map V.bl) := by
  cases t with
  | lst ys =>
    cases h
    obtain ⟨p, vs, rfl, _, hp, rr⟩ := r.lst D
    rw [Reps.of_bools rr hb] at hp
    exact ⟨p, rfl, SqL.of hp⟩
  | own ys =>
    cases h
    obtain ⟨p, vs, rfl, _, hp, rr⟩ := r.own D
    rw [Reps.of_bools rr hb] at hp
    exact ⟨p, rfl, SqL.of hp⟩
  | _ => cases h
theorem tyL_of {K : W.Frag} {H : Hp} {p : Addr} {vs : List V} (h : SqL K H p vs) : tyV K "list" (.ref p) H := .inl ⟨rfl, vs, h⟩
theorem s_lcnt {m ap : Pos} (h : PE X (.Call (.Attribute a "count" m) [b] [] ap) (tBM X.K "list" (rCntB X.K) (tE X.K F ca) (tCons (tE X.K F cb) tNil))) : PE X (.Call (.Attribute a "count" m) [b] [] ap) (tE X.K F (.lcnt ca cb)) :=
  h.mono fun σ H Q ⟨f, w, ρ, S, s, t', S', e, q⟩ => by
    simp only [evalE] at e
    obtain ⟨⟨t, S1⟩, e1, e⟩ := Res.bind_ok e
    obtain ⟨⟨u, S2⟩, e2, e⟩ := Res.bind_ok e
    obtain ⟨z, e3', e⟩ := Res.bind_ok e
    cases e
    have e3 := Res.of_ok e3'
    clear e3'
    unfold lcntT at e3
    split at e3
    · rename_i xs k hx hy
      simp only at hx hy
      subst hy
      split at e3
      · rename_i bs hb
        cases e3
        refine ⟨f, w, ρ, S, s, _, _, e1, fun v H1 s1 k1 r1 => ?_⟩
        obtain ⟨p, rfl, hp⟩ := lst_of s1.st.toDom hx hb r1.lr
        refine ⟨tyL_of hp, f, w, ρ, S1, s1, _, _, e2, fun v2 H2 s2 k2 r2 => ?_⟩
        obtain ⟨p', z, hp'⟩ := lst_of s2.st.toDom hx hb (r1.lr.after s1.st.toDom k2)
        cases z
        exact ⟨p, bs, k, rfl, by rw [r2.lr.bl], hp', q _ _ s2 (k1.trans k2) (.rep (by simp only [Rep]))⟩
      · cases e3
    · cases e3
theorem idx_bools {bs : List Bool} {k : Bool} (h : bs.contains k = true) : bs[bs.idxOf k]? = some k ∧ ∀ m z, m < bs.idxOf k → bs[m]? = some z → z ≠ k := by
  have hm : k ∈ bs := by simpa using h
  have hl := List.idxOf_lt_length_of_mem hm
  refine ⟨by rw [List.getElem?_eq_getElem hl, List.getElem_idxOf hl], fun m z hm' hz e => ?_⟩
  subst e
  obtain ⟨h1, h2⟩ := List.getElem?_eq_some_iff.mp hz
  have := List.not_of_lt_findIdx (p := (· == z)) hm'
  simp [h2] at this
theorem s_lidx {m ap : Pos} (h : PE X (.Call (.Attribute a "index" m) [b] [] ap) (tBM X.K "list" (rIndex X.K) (tE X.K F ca) (tCons (tE X.K F cb) tNil))) : PE X (.Call (.Attribute a "index" m) [b] [] ap) (tE X.K F (.lidx ca cb)) :=
  h.mono fun σ H Q ⟨f, w, ρ, S, s, t', S', e, q⟩ => by
    simp only [evalE] at e
    obtain ⟨⟨t, S1⟩, e1, e⟩ := Res.bind_ok e
    obtain ⟨⟨u, S2⟩, e2, e⟩ := Res.bind_ok e
    obtain ⟨z, e3', e⟩ := Res.bind_ok e
    cases e
    have e3 := Res.of_ok e3'
    clear e3'
    unfold lidxT at e3
    split at e3
    · rename_i xs k hx hy
      simp only at hx hy
      subst hy
      split at e3
      · rename_i bs hb
        split at e3
        · rename_i hk
          cases e3
          refine ⟨f, w, ρ, S, s, _, _, e1, fun v H1 s1 k1 r1 => ?_⟩
          obtain ⟨p, rfl, hp⟩ := lst_of s1.st.toDom hx hb r1.lr
          refine ⟨tyL_of hp, f, w, ρ, S1, s1, _, _, e2, fun v2 H2 s2 k2 r2 => ?_⟩
          obtain ⟨p', z, hp'⟩ := lst_of s2.st.toDom hx hb (r1.lr.after s1.st.toDom k2)
          cases z
          obtain ⟨i1, i2⟩ := idx_bools hk
          refine ⟨p, bs.map V.bl, .bl k, bs.idxOf k, .bl k, rfl, by rw [r2.lr.bl], hp', rfl, flat_bools bs, by rw [List.getElem?_map, i1]; rfl, by cases k <;> rfl, fun m z hm hz => ?_, q _ _ s2 (k1.trans k2) (.rep (by simp only [Rep]))⟩
          rw [List.getElem?_map, Option.map_eq_some_iff] at hz
          obtain ⟨y, hy, rfl⟩ := hz
          have := i2 m y hm hy
          cases y <;> cases k <;> first | rfl | exact absurd rfl this
        · cases e3
      · cases e3
    · cases e3

/-! ### calls that may raise -/
def tX (K : W.Frag) (F : Fns) (Wx : WX) (l : CL) (cs : List CE) : TE := fun σ H Q => ∃ f w ρ S, SR K f w σ H ρ S ∧ ((∃ t S', callX F ρ l cs S = .ok (t, S') ∧ ∀ v H', SR K f w σ H' ρ S' → Kp w.φ H H' → ER K w.φ w.tot true H H' t v → Q v H') ∨
  ∃ c as S', callX F ρ l cs S = .exc c as S' ∧ ∀ cls d H', SR K f w σ H' ρ S' → Kp w.φ H H' → XR K H' c as cls d → Wx cls d σ H')
theorem callX_f {ρ : En} {g : Nat} {S : Store} {r : Res (T × Store)} (h : callX F ρ (.f g) cs S = r) (n : r ≠ .bad) : ∃ ts S1, evalEs F ρ cs S = .ok (ts, S1) ∧ F g ts S1 = r := by
  simp only [callX] at h
  split at h
  · rename_i ts S1 e; exact ⟨ts, S1, e, h⟩
  · exact absurd h.symm n
theorem callX_e {ρ : En} {L : List (Str × Nat)} {S : Store} {r : Res (T × Store)} (h : callX F ρ (.e c L) cs S = r) (n : r ≠ .bad) : ∃ x g S0 ts S1, evalE F ρ c S = .ok (.fn x g, S0) ∧ (x, g) ∈ L ∧ evalEs F ρ cs S0 = .ok (ts, S1) ∧ F g ts S1 = r := by
  simp only [callX] at h
  split at h
  · rename_i x g S0 e0
    split at h
    · rename_i hL
      split at h
      · rename_i ts S1 e; exact ⟨x, g, S0, ts, S1, e0, hL, e, h⟩
      · exact absurd h.symm n
    · exact absurd h.symm n
  · exact absurd h.symm n
theorem x_f {n g : Nat} {x : Str} {fa : Addr} {fd : FuncData} {ps : List Str} {pp : Pos} (tk : L2.Takes X Wx) (FO : FnOk X.prog X.w X.K X.mg X.base (L2.CX X.prog X.w) n fa fd ps (sp X.K F g)) (hr : Room n X.A) (hg : Gl X x) (hm : X.mg x = some (.ref fa)) (hk : PySem.W.keepIn X.K (.ref fa) = true)
    (hb : Binds X.K fd ps []) (ha : PA X (e :: es) (tA X.K F cs)) (hdb : (x == ("__debug__" : Str)) = false) (hp : (e :: es).all plainArg = true) : PE X (.Call (.Name x pp) (e :: es) [] pos) (tX X.K F Wx (.f g) cs) := by
  simp only [List.all_cons, Bool.and_eq_true] at hp
  refine (pe_callS FO hr hg hm hk hb (fun σ => passAt tk σ) ha hdb (star_plain hp.1) (star_any hp.2)).mono fun σ H Q ⟨f, w, ρ, S, s, h⟩ => ?_
  rcases h with ⟨t, S', e, q⟩ | ⟨c, as, S', e, q⟩
  · obtain ⟨ts, S1, e1, e2⟩ := callX_f e (by simp)
    exact ⟨f, w, ρ, S, s, ts, S1, e1, fun vs H1 s1 k1 r1 => ⟨w.φ, w.tot, ts, S1, s1.st, r1, .inl ⟨t, S', e2, fun v H2 k2 st2 r2 => q v H2 (s1.after k2 st2) (k1.trans k2) (r2.early k1.dom)⟩⟩⟩
  · obtain ⟨ts, S1, e1, e2⟩ := callX_f e (by simp)
    exact ⟨f, w, ρ, S, s, ts, S1, e1, fun vs H1 s1 k1 r1 => ⟨w.φ, w.tot, ts, S1, s1.st, r1, .inr ⟨c, as, S', e2, fun cls d H2 k2 st2 xr => q cls d H2 (s1.after k2 st2) (k1.trans k2) xr⟩⟩⟩
/-- a def at a value -/
structure DefAt (X : Cx) (F : Fns) (x : Str) (g : Nat) (n : Nat) (fa : Addr) (fd : FuncData) (ps : List Str) : Prop where
  ok : FnOk X.prog X.w X.K X.mg X.base (L2.CX X.prog X.w) n fa fd ps (sp X.K F g)
  hr : Room n X.A
  hk : PySem.W.keepIn X.K (.ref fa) = true
  hb : Binds X.K fd ps []
  ns : PySem.W.nsIn X.K mainGlobals x = some (some (.ref fa))
theorem pe_callV {tf : TE} {t : TA} (tk : L2.Takes X Wx) (hf : PE X fe tf) (ha : PA X (e :: es) t)
    (ht : eval (.Call fe (e :: es) [] pos) X.env = (do callWith pos (← eval fe X.env) [] (backTo pos (starEach (e :: es) X.env)) (backToKw pos (keywordEach [] X.env))))
    (he : starEach (e :: es) X.env = (false, eval e X.env) :: starEach es X.env) (hpl : (backTo pos (starEach es X.env)).any (·.1) = false) :
    PE X (.Call fe (e :: es) [] pos) (fun σ H Q => tf σ H fun y H1 => ∃ x g n fa fd ps, y = .ref fa ∧ DefAt X F x g n fa fd ps ∧ t σ H1 fun vs H2 => sp X.K F g vs H2 Q fun cls d H3 => Wx cls d σ H3) := by
  refine ⟨fun pins s σ H Q I h => Call_ (thn (hf.run pins s σ H _ I h) fun u s1 hh => ?_) ht⟩
  obtain ⟨y, H1, I1, ry, x, g, n, fa, fd, ps, rfl, D, q⟩ := hh
  cases (show u = Value.ref fa from ry)
  refine PySem.W.callWith_K (h₀ := X.base) I1.ok.mod.kin D.hk (thn (ha.run pos pins s1 σ H1 _ I1 q) fun us s2 hh => ?_) he hpl
  obtain ⟨vs, H2, I2, r, q2⟩ := hh
  exact ⟨I2.kIn, run_fnS (E := WE Wx) D.ok D.hr D.hb (passAt tk σ) I2 r q2⟩
theorem x_e {L : List (Str × Nat)} (tk : L2.Takes X Wx) (hL : ∀ p ∈ L, ∃ n fa fd ps, DefAt X F p.1 p.2 n fa fd ps) (hf : PE X fe (tE X.K F c)) (ha : PA X (e :: es) (tA X.K F cs)) (hp : (e :: es).all plainArg = true)
    (ht : eval (.Call fe (e :: es) [] pos) X.env = (do callWith pos (← eval fe X.env) [] (backTo pos (starEach (e :: es) X.env)) (backToKw pos (keywordEach [] X.env)))) :
    PE X (.Call fe (e :: es) [] pos) (tX X.K F Wx (.e c L) cs) := by
  simp only [List.all_cons, Bool.and_eq_true] at hp
  refine (pe_callV (F := F) tk hf ha ht (star_plain hp.1) (star_any hp.2)).mono fun σ H Q ⟨f, w, ρ, S, s, h⟩ => ?_
  have go : ∀ {x : Str} {g : Nat} {S0 S1 : Store} {ts : List T}, evalE F ρ c S = .ok (.fn x g, S0) → (x, g) ∈ L → evalEs F ρ cs S0 = .ok (ts, S1) →
      (∀ H1 vs, SR X.K f w σ H1 ρ S1 → Kp w.φ H H1 → Reps X.K H1 w.φ w.tot ts vs → sp X.K F g vs H1 Q fun cls d H3 => Wx cls d σ H3) →
      tE X.K F c σ H fun y H1 => ∃ x g n fa fd ps, y = .ref fa ∧ DefAt X F x g n fa fd ps ∧ tA X.K F cs σ H1 fun vs H2 => sp X.K F g vs H2 Q fun cls d H3 => Wx cls d σ H3 := by
    intro x g S0 S1 ts e0 hx e1 k
    refine ⟨f, w, ρ, S, s, _, _, e0, fun v H1 s1 k1 r1 => ?_⟩
    obtain ⟨n, fa, fd, ps, D⟩ := hL _ hx
    obtain ⟨_, lr⟩ := r1.lr
    cases lr with
    | rep r =>
      simp only [Rep] at r
      obtain ⟨a', rfl, ha'⟩ := r
      have := D.ns
      rw [ha'] at this
      cases this
      exact ⟨x, g, n, fa, fd, ps, rfl, D, f, w, ρ, S0, s1, ts, S1, e1, fun vs H2 s2 k2 r2 => k H2 vs s2 (k1.trans k2) r2⟩
  rcases h with ⟨t, S', e, q⟩ | ⟨c', as, S', e, q⟩
  · obtain ⟨x, g, S0, ts, S1, e0, hx, e1, e2⟩ := callX_e e (by simp)
    exact go e0 hx e1 fun H1 vs s1 k1 r1 => ⟨w.φ, w.tot, ts, S1, s1.st, r1, .inl ⟨t, S', e2, fun v H2 k2 st2 r2 => q v H2 (s1.after k2 st2) (k1.trans k2) (r2.early k1.dom)⟩⟩
  · obtain ⟨x, g, S0, ts, S1, e0, hx, e1, e2⟩ := callX_e e (by simp)
    exact go e0 hx e1 fun H1 vs s1 k1 r1 => ⟨w.φ, w.tot, ts, S1, s1.st, r1, .inr ⟨c', as, S', e2, fun cls d H2 k2 st2 xr => q cls d H2 (s1.after k2 st2) (k1.trans k2) xr⟩⟩
/-- what the evaluator says of the call -/
theorem tX_of {k : KO} {f : Fm} {w : Wd} {σ : L2.St} {H : Hp} {ρ : En} {S : Store} {D : Ends} {r : Fl} {Q : VK} (s : SR X.K f w σ H ρ S) (ev : evalS F (.xcall k l cs) ρ S = .ok r) (q : EndOf X.K f w H D Wx r)
    (h : ∀ t S1 v H1, koS k ρ t S1 = .ok r → SR X.K f w σ H1 ρ S1 → Kp w.φ H H1 → ER X.K w.φ w.tot true H H1 t v → Q v H1) : tX X.K F Wx l cs σ H Q := by
  simp only [evalS] at ev
  split at ev
  · rename_i t S1 e1
    exact ⟨f, w, ρ, S, s, .inl ⟨t, S1, e1, fun v H1 s1 k1 r1 => h t S1 v H1 ev s1 k1 r1⟩⟩
  · rename_i c' as S1 e1
    cases ev
    exact ⟨f, w, ρ, S, s, .inr ⟨c', as, S1, e1, fun cls d H1 s1 k1 xr => q cls d w σ H1 s1 (s.ext k1) xr⟩⟩
  · cases ev
variable {st : Stmt}
theorem p_xdrop (h : PS X st (tDrop (tX X.K F Wx l cs))) : PS X st (tS X.K F Wx (.xcall .drop l cs)) :=
  h.mono fun D σ H ⟨f, w, ρ, S, s, r, ev, q⟩ => tX_of s ev q fun t S1 v H1 e s1 k1 r1 => by
    cases e
    exact q w σ H1 s1 (s.ext k1)
theorem p_xset {ctg : Tg} {g : TG} (h : PS X st (tAsg (tX X.K F Wx l cs) g)) (hg : ∀ v σ H Q, gT X.K ctg v σ H Q → g v σ H Q) : PS X st (tS X.K F Wx (.xcall (.set ctg) l cs)) :=
  h.mono fun D σ H ⟨f, w, ρ, S, s, r, ev, q⟩ => tX_of s ev q fun t S1 v H1 e s1 k1 r1 => by
    obtain ⟨ρ', e2, e⟩ := Res.bind_ok e
    cases e
    exact hg _ _ _ _ ⟨f, w, ρ, S1, t.view, ρ', s1, r1.view, Res.of_ok e2, fun σ' s' _ _ => q _ _ _ s' (s.ext k1)⟩
theorem p_xret (he : PE X e (tX X.K F Wx l cs)) : PS X (.Return (some e) pos) (tS X.K F Wx (.xcall .ret l cs)) :=
  (ps_ret he).mono fun D σ H ⟨f, w, ρ, S, s, r, ev, q⟩ => tX_of s ev q fun t S1 v H1 e s1 k1 r1 => by
    cases e
    exact q v w σ ρ H1 s1 (s.base r1)
end
end Ip

set_option maxHeartbeats 4000000
/-! IpH: raise; try. -/
namespace Ip
open PySem PySem.Spec PyProof.Rows L2

/-! ### raise -/
/-- an own class whose __init__ keeps its arguments as fields -/
structure XI (K : W.Frag) (c : Nat) (C fI : Addr) (fd : FuncData) : Prop where
  ox : OexC K C
  ii : PySem.W.findIn K (.ref C) "__init__" = some (some (.ref fI))
  ti : PySem.W.typeIn K (.ref fI) = some (.type "function")
  ok : ∀ (P : Program) (w : World) (mg : Str → Option Value) (base : Heap), FnOk P w K mg base CX0 1 fI fd ("self" :: clsF c) (fun vs H Q _ => ∃ (a : Addr) (ws : List V), vs = .ref a :: ws ∧ ws.length = (clsF c).length ∧ H a = some (exo a C none) ∧
    ∀ d, H d = none → d ≠ a → Q .non (upd (upd H d (exd d ((clsF c).zip ws).reverse)) a (exo a C (some d))))
  bi : Binds K fd ("self" :: clsF c) []
/-- what is wanted of a class that is raised -/
def XRz (K : W.Frag) (c : Nat) (C : Addr) : Prop := XB K c C ∧ ((clsF c = [] ∧ ∃ bmB B n i, ExcBaseFacts B n i bmB ∧ PySem.W.excIn K C bmB n = true) ∨ (clsF c ≠ [] ∧ ∃ fI fd, XI K c C fI fd))
section
variable {X : Cx} {F : Fns} {Wx : WX} {e : Expr} {es : List Expr} {cs : List CE} {pos p pos' : Pos} {x : Str} {c : Nat} {C : Addr}
theorem XB.raises (B : XB X.K c C) : Raises X (.ref C) := raises_own B.ex B.ty
theorem pmk0 {bmB : List Value} {B n i : String} (F : ExcBaseFacts B n i bmB) (q : PySem.W.excIn X.K C bmB n = true) (gC : X.mg x = some (.ref C)) (b : XB X.K c C) (hg : Gl X x) (hdb : (x == ("__debug__" : Str)) = false) :
    PMk X (.Call (.Name x p) [] [] pos) (fun _ H Q => Q (.ref C) none H) := fun pins s σ H Q I h => by
  refine wpAny_Call_Name_kw (ld_glob I hg gC (PySem.W.callWith_K0 I.kIn b.kC ?_) hdb)
  obtain ⟨_, _, _, _, _, _, _, _, _, _, _, _, _, _, _, _, _, hC, hN, hni, T⟩ := exc_obj I.kIn q
  exact wpAny_call_exc_subT F T hC hN hni (fun h' e hm => mk_of I hm b.raises h (I.hok.gone hm.new)) (Nat.zero_le _)
theorem sims_rep {K : W.Frag} {H : Hp} {φ : List Addr} {E : Excl} : ∀ {ts : List T} {vs : List V}, ts.all sim = true → Reps K H φ E ts vs → ∀ (i : Nat) (t : T), ts[i]? = some t → ∃ v, vs[i]? = some v ∧ SimR t v
  | ts, vs, h, r, i, t, e => by
    obtain ⟨v, h1, h2⟩ := r.get e
    refine ⟨v, h1, ?_⟩
    have := List.all_eq_true.mp h t (List.mem_of_getElem? e)
    cases t <;> simp only [sim, Bool.false_eq_true] at this <;> simp only [Rep] at h2 <;> exact h2
theorem fld_zip : ∀ {gs : List Str} {ts : List T} {ws : List V} {f : Str} {t : T}, gs.Nodup → (∀ (i : Nat) (t : T), ts[i]? = some t → ∃ v, ws[i]? = some v ∧ SimR t v) → fldT gs ts f = some t → ∃ v, (f, v) ∈ gs.zip ws ∧ SimR t v
  | [], _, _, _, _, _, _, h => by simp [fldT] at h
  | g :: gs, [], _, _, _, _, _, h => by simp [fldT] at h
  | g :: gs, t :: ts, ws, f, u, nd, hs, h => by
    obtain ⟨v, h1, h2⟩ := hs 0 t rfl
    cases ws with
    | nil => cases h1
    | cons w ws =>
      cases h1
      simp only [fldT] at h
      split at h
      · rename_i e
        cases h; subst e
        exact ⟨v, by simp, h2⟩
      · obtain ⟨v', m, s'⟩ := fld_zip (List.nodup_cons.mp nd).2 (fun i t e => hs (i + 1) t e) h
        exact ⟨v', by simp [m], s'⟩
theorem lookup_mem {gs : List (Str × V)} {f : Str} {v : V} (nd : (gs.map (·.1)).Nodup) (h : (f, v) ∈ gs) : gs.lookup f = some v := by
  induction gs with
  | nil => cases h
  | cons g gs ih =>
    rw [List.map_cons] at nd
    obtain ⟨n1, n2⟩ := List.nodup_cons.mp nd
    rcases List.mem_cons.mp h with h | h
    · subst h; simp
    · have ne : (f == g.1) = false := by
        refine beq_eq_false_iff_ne.mpr fun z => n1 ?_
        rw [← z]
        exact List.mem_map_of_mem (f := (·.1)) h
      rw [List.lookup_cons, ne]
      exact ih n2 h
theorem zip_nd {gs : List Str} {ws : List V} (nd : gs.Nodup) : (((gs.zip ws).reverse).map (·.1)).Nodup := by
  rw [List.map_reverse]
  refine (List.reverse_perm _).nodup_iff.mpr ?_
  have : ∀ {gs : List Str} {ws : List V}, gs.Nodup → ((gs.zip ws).map (·.1)).Nodup := by
    intro gs
    induction gs with
    | nil => intro ws _; simp
    | cons g gs ih =>
      intro ws nd
      cases ws with
      | nil => simp
      | cons w ws =>
        obtain ⟨n1, n2⟩ := List.nodup_cons.mp nd
        rw [List.zip_cons_cons, List.map_cons, List.nodup_cons]
        refine ⟨fun z => n1 ?_, ih n2⟩
        obtain ⟨q, hq, e⟩ := List.mem_map.mp z
        have e' : q.1 = g := e
        rw [← e']
        exact (List.of_mem_zip hq).1
  exact this nd
theorem upd_del {H : Hp} {a d : Addr} {o1 o2 o3 : HO} (ha : H a = none) (hd : d ≠ a) : upd (del (upd (upd H d o1) a o2) a) d o3 = upd H d o3 := by
  funext b
  unfold upd del
  by_cases hb : b = d
  · simp [hb]
  · by_cases hb' : b = a
    · subst hb'; simp [hb, ha]
    · simp [hb, hb']
/-- raise C(..) -/
theorem p_raise0 (hc : X.calm = true) (tk : L2.Takes X Wx) (hz : XRz X.K c C) (hF : clsF c = []) (gC : X.mg x = some (.ref C)) (hg : Gl X x) (hdb : (x == ("__debug__" : Str)) = false) : PS X (.Raise (some (.Call (.Name x p) [] [] pos)) none pos') (tS X.K F Wx (.raise c [])) := by
  obtain ⟨B, ⟨_, bmB, BB, n, i, Fx, q⟩ | ⟨h, _⟩⟩ := hz
  · refine (ps_raise hc tk (pmk0 Fx q gC B hg hdb)).mono fun D σ H ⟨f, w, ρ, S, s, r, ev, q⟩ => ?_
    simp only [evalS, evalEs, List.all_nil, hF, List.length_nil, decide_true, Bool.and_self, if_true] at ev
    cases ev
    exact q (.ref C) none w σ H s (Ext.refl _ _) ⟨C, rfl, B.at_, by rw [hF]; rfl, .inl ⟨hF, rfl⟩⟩
  · exact absurd hF h
theorem p_raise1 (hc : X.calm = true) (tk : L2.Takes X Wx) (hz : XRz X.K c C) (hF : (clsF c).Nodup ∧ clsF c ≠ []) (gC : X.mg x = some (.ref C)) (hg : Gl X x) (hdb : (x == ("__debug__" : Str)) = false) (hr : Room 2 X.A) (ha : PA X (e :: es) (tA X.K F cs)) (hp : (e :: es).all plainArg = true)
    (hl : (clsF c).length ≤ 900) : PS X (.Raise (some (.Call (.Name x p) (e :: es) [] pos)) none pos') (tS X.K F Wx (.raise c cs)) := by
  simp only [List.all_cons, Bool.and_eq_true] at hp
  obtain ⟨B, ⟨h, _⟩ | ⟨_, fI, fd, xi⟩⟩ := hz
  · exact absurd h hF.2
  · refine (ps_raise hc tk (pmk_oex xi.ox xi.ii xi.ti (xi.ok X.prog X.w X.mg X.base) hr xi.bi .nil pass0 hg gC ha hdb (star_plain hp.1) (star_any hp.2))).mono fun D σ H ⟨f, w, ρ, S, s, r, ev, q⟩ => ?_
    simp only [evalS] at ev
    split at ev
    · rename_i ts S1 e1
      split at ev
      · rename_i hs
        cases ev
        simp only [Bool.and_eq_true, decide_eq_true_eq] at hs
        refine ⟨f, w, ρ, S, s, ts, S1, e1, fun vs H1 s1 k1 r1 => ⟨by rw [← r1.len, hs.2]; omega, fun a ha => ?_⟩⟩
        refine ⟨a, vs, by rw [List.append_nil], by rw [← r1.len, hs.2], upd_same, fun d hd ne => ⟨rfl, d, ((clsF c).zip vs).reverse, upd_same, ?_, ?_, ?_⟩⟩
        · rw [upd_ne ne, upd_same]
        · rw [upd_ne ne] at hd; exact hd
        · have hd' : H1 d = none := by rw [upd_ne ne] at hd; exact hd
          have e2 : upd (upd (upd H1 a (exo a C none)) d (exd d ((clsF c).zip vs).reverse)) a (exo a C (some d)) = upd (upd H1 d (exd d ((clsF c).zip vs).reverse)) a (exo a C (some d)) := by
            funext b
            unfold upd
            by_cases hb : b = a
            · simp [hb]
            · simp [hb]
          rw [e2, upd_del ha ne]
          refine q (.ref C) (some d) w σ _ (s1.new hd') ((s.ext k1).trans ⟨(s1.grow (Kp.new hd')), List.prefix_refl _⟩) ⟨C, rfl, B.at_, hs.2, .inr ⟨d, _, rfl, upd_same .., fun g t eg => ?_⟩⟩
          obtain ⟨v, hv, sv⟩ := fld_zip hF.1 (sims_rep hs.1 r1) eg
          exact ⟨v, lookup_mem (zip_nd hF.1) (List.mem_reverse.mpr hv), sv⟩
      · cases ev
    · cases ev
end

/-! ### landing -/
section
variable {X : Cx} {pins : List (Addr × Obj)} {σ : L2.St} {H : Hp} {sI s' : Shared} {B : Heap} {a : Addr} {cls : Value} {d : Option Addr}
theorem exh_ok {P : Program} {w : World} {H : Hp} {h : Heap} {oe : Obj} {vs : Array Value} (he : h.get? a = some oe) (hz : Zc cls d oe) (hd : oe.data = .fields vs) : ObjOk P w H h a (exh a cls d) :=
  ⟨⟨oe, he, hz, vs, hd⟩, ⟨oe, he⟩, fun h1 h2 ⟨o, e, z, v⟩ k => ⟨o, k o e, z, v⟩⟩
theorem landX (I : Inv X pins σ H sI) (nb : ∀ b o, sI.heap.get? b = some o → b ∉ frs X.stack → B.get? b = some o) (st : B.StaysIn s'.heap) (up : sI.heap.UpToSlots s'.heap) (os : s'.os = sI.os) (ag : AllBare s'.gens)
    (na : H a = none) (nI : sI.heap.get? a = none) (nL : a ≠ X.env.locals) {oe : Obj} {vs : Array Value} (he : s'.heap.get? a = some oe) (hz : Zc cls d oe) (hd : oe.data = .fields vs) : Inv X pins σ (upd H a (exh a cls d)) s' := by
  have J := I.landed nb st up os ag
  have ne0 : ∀ b o, X.s_0.heap.get? b = some o → b ∉ X.ex → b ≠ a := fun b o e hx z => by
    obtain ⟨o', q⟩ := I.base.there b o e hx
    rw [z, nI] at q; cases q
  have un := J.base
  have old : ∀ b o, H b = some o → upd H a (exh a cls d) b = some o := fun b o e => by rw [upd_ne (ne_of_none e na)]; exact e
  refine ⟨J.ok, J.os, J.bare, ⟨un.keep, un.slot, fun b o e n hx => ?_, un.there, fun b xs q => old _ _ (un.tups b xs q), fun b o u q => old _ _ (un.frzs b o u q), fun b ps q => ?_⟩, J.loc, J.cell, ?_, fun x c hc => ?_, fun p hp => ?_, HOk.laidN (H := H) J.hok (fun _ _ z => z) na (exh_ok he hz hd), J.len⟩
  · rw [upd_ne (ne0 b o e hx)]
    exact un.free b o e n hx
  · obtain ⟨m, e⟩ := un.tbls b ps q
    exact ⟨m, old _ _ e⟩
  · rw [upd_ne (Ne.symm nL)]; exact J.free
  · rw [upd_ne fun z => ?_]
    · exact J.freeC x c hc
    · obtain ⟨v, o, hv, _⟩ := I.cell x c hc
      rw [z, nI] at hv; cases hv
  · obtain ⟨h1, h2, h3⟩ := J.pin p hp
    refine ⟨h1, ?_, h3⟩
    rw [upd_ne fun z => ?_]
    · exact h2
    · have := (I.pin p hp).1
      rw [z, nI] at this; cases this
theorem suite0 (I : Inv X pins σ H sI) (b : Addr) : Inv (X.suite b (X.pn ++ pins)) [] σ H sI :=
  ⟨I.ok.suite b _, I.os, I.bare, I.base, I.loc, I.cell, I.free, I.freeC, fun p hp => I.pin p (by simpa using hp), I.hok, I.len⟩
theorem unsuite0 {b : Addr} {pn' : List (Addr × Obj)} (I : Inv (X.suite b (X.pn ++ pins)) pn' σ H sI) (ok : X.Ok) : Inv X pins σ H sI :=
  ⟨ok, I.os, I.bare, I.base, I.loc, I.cell, I.free, I.freeC, fun p hp => I.pin p (List.mem_append_left _ hp), I.hok, I.len⟩
end

/-! ### try -/
def goneE (o : Option Nat) (D : Ends) : Ends := match o with
  | none => D
  | some i => { nx := fun σ H => D.nx (σ.set i none) H, rt := D.rt, bk := fun σ H => D.bk (σ.set i none) H, ct := fun σ H => D.ct (σ.set i none) H }
def namedS (o : Option Nat) (a : Addr) (σ : L2.St) : L2.St := match o with
  | none => σ
  | some i => σ.set i (some (.ref a))
def wH (K : W.Frag) (Wout : WX) (D : Ends) : List (Value × Option Nat × TS) → WX
  | [] => Wout
  | (c, o, ts) :: r => fun cls d σ H => ∃ b, PySem.W.exmOne K cls c = some b ∧ (b = true → ∀ a, H a = none → ts (goneE o D) (namedS o a σ) (upd H a (exh a cls d))) ∧ (b = false → wH K Wout D r cls d σ H)
/-- the name of a clause: none, or the slot's -/
def NameOk (X : Cx) : Option Nat → Option Str → Prop
  | none, none => True
  | some i, some n => X.N[i]? = some n ∧ X.env.kindOf n = some .local
  | _, _ => False
inductive HdsX (X : Cx) : List ExceptHandler → List (Value × Option Nat × TS) → Prop
  | nil : HdsX X [] []
  | cons {x : Str} {c : Value} {o : Option Nat} {n : Option Str} {ts : TS} {b₀ : Stmt} {suite : List Stmt} {np pos' : Pos} {hds : List ExceptHandler} {l : List (Value × Option Nat × TS)} (hc : Names X x c) (hn : NameOk X o n)
      (hsu : ∀ (a : Addr) (pn : List (Addr × Obj)), PSs (X.suite a pn) (b₀ :: suite) ts) (r : HdsX X hds l) : HdsX X (.ExceptHandler (some (.Name x np)) n (b₀ :: suite) pos' :: hds) ((c, o, ts) :: l)
section
variable {X : Cx} {body : List Stmt} {h₀ : ExceptHandler} {hds : List ExceptHandler} {l : List (Value × Option Nat × TS)} {pos : Pos} {tb : WX → TS} {Wout : WX} {D : Ends} {pins : List (Addr × Obj)} {σ : L2.St} {H : Hp} {sI s' : Shared} {B h : Heap} {a : Addr} {cls : Value} {d : Option Addr}
theorem Sky.not_fr {l : List Env} {Z : Obj → Prop} (fl : PySem.HandSPX.FlyingZ B l a Z h) : a ∉ frs l := fun hm => by
  obtain ⟨oe, vs, he, _, hd⟩ := fl.there
  obtain ⟨_, o', e', hnf⟩ := fl.2.2.1.mem hm
  rw [he] at e'; cases e'
  exact hnf _ hd
/-- the clauses, one after the other -/
theorem hds_ok (hs : X.stack = X.env :: X.outer) (hf : X.env.frame = some X.env.locals) (hN : X.N.Nodup) (tk : L2.Takes X Wout) (I : Inv X pins σ H sI) (nb : ∀ b o, sI.heap.get? b = some o → b ∉ frs X.stack → B.get? b = some o) (up : sI.heap.UpToSlots h)
    (fl : PySem.HandSPX.FlyingZ B (X.env :: X.outer) a (Zc cls d) h) (na : H a = none) (os : s'.os = sI.os) (ag : AllBare s'.gens) : ∀ {hds : List ExceptHandler} {l : List (Value × Option Nat × TS)}, HdsX X hds l → wH X.K Wout D l cls d σ H →
      wpAny (model X.prog X.w) X.A (handleBy (.ref a) X.env hds) (SP X pins D) X.xe { s' with heap := h } := by
  have nfr := Sky.not_fr fl
  have nL : a ≠ X.env.locals := fun z => nfr (List.mem_filterMap.mpr ⟨X.env, List.mem_cons_self, by rw [hf, z]⟩)
  have nI : sI.heap.get? a = none := by
    cases e : sI.heap.get? a with
    | none => rfl
    | some o =>
      have := nb a o e (by rw [hs]; exact nfr)
      rw [fl.2.1] at this; cases this
  obtain ⟨oe, vs, he, hz, hd⟩ := fl.there
  intro hds l hk
  induction hk with
  | nil =>
    intro w
    obtain ⟨k1, k2, k3, oe2, vs2, T, oT, ts, g1, g2, g3, g4, g5⟩ := id fl
    have go : wpAny (model X.prog X.w) X.A (setFlight (.ref a) X.env.frame) (fun _ s4 => wpAny (model X.prog X.w) X.A (throw (.ref a) : Sem Flow) (SP X pins D) X.xe s4) X.xe { s' with heap := h } := by
      rw [hf]
      exact PySem.HandSPX.setFlight_upZ fl fun h4 hh up4 => wpAny_throw (tk _ _ ⟨a, B, sI, pins, σ, H, cls, d, rfl, I, nb, up.trans up4, .inr (.inr (by rw [hs]; exact hh)), na, os, ag, w⟩)
    refine wpAny_handleBy_nil ?_
    unfold PySem.passOn
    refine wpAny_bind (wpAny_field g1 g3 g4 ?_)
    rw [if_neg (by simp)]
    first
      | exact wpAny_bind go
      | exact wpAny_bind (wpAny_pure (wpAny_bind go))
  | @cons x c o n ts b₀ suite np pos' hds2 l2 hc hn hsu r ih =>
    intro w
    obtain ⟨b, hb, yes, no⟩ := w
    have J := suite0 (landX (cls := cls) (d := d) I nb fl.1 up os ag na nI nL (s' := { s' with heap := h }) he hz hd) a
    have LT : PySem.W.Looks (model X.prog X.w) h (typeOf (.ref a)) cls := fun _ _ _ _ k q => wpAny_typeOf_ref (k _ _ he) (by rw [hz.1]; exact q)
    have LM := PySem.W.exm_one (M := model X.prog X.w) J.kIn LT hb
    have ld : ∀ {Q E : Value → Shared → Prop}, Q c { s' with heap := h } → wpAny (model X.prog X.w) (X.A.mark (some (.ref a))) (eval (.Name x np) X.env) Q E { s' with heap := h } := fun {Q E} q => by
      obtain ⟨hg, hdb, hm | ⟨hm, hv, hnn⟩⟩ := hc
      · exact ld_glob (X := X.suite a (X.pn ++ pins)) J hg hm q hdb
      · exact ld_blt (X := X.suite a (X.pn ++ pins)) J hg hm hv q hnn hdb
    refine wpAny_handleBy_cons (codeAny_handlers_test (ld (LM.here ?_))) (fun q => nomatch q)
    cases b with
    | false => exact ih (no rfl)
    | true =>
      have ys := yes rfl a na
      have ok := I.ok
      have land : ∀ {Q : Unit → Shared → Prop} {E : Value → Shared → Prop} {A : Around}, (∀ h4, Inv (X.suite a (X.pn ++ pins)) [] σ (upd H a (exh a cls d)) { s' with heap := h4 } → Q () { s' with heap := h4 }) → wpAny (model X.prog X.w) A (setFlight (.ref a) none) Q E { s' with heap := h } := fun {Q E A} k =>
        PySem.HandSPX.lands_againZ fl fun h4 fl4 up4 => by
          obtain ⟨oe4, vs4, he4, hz4, hd4⟩ := fl4.there
          exact k h4 (suite0 (landX (cls := cls) (d := d) I nb fl4.1 (up.trans up4) os ag na nI nL (s' := { s' with heap := h4 }) he4 hz4 hd4) a)
      cases o with
      | none =>
        cases n with
        | some n => exact hn.elim
        | none =>
          refine codeAny_handlers_suite (land fun h4 S4 => wpAny_mono ((hsu a (X.pn ++ pins)).run [] _ _ _ _ S4 ys) (fun f s6 hsp => ?_) (fun _ _ z => z.elim))
          cases f with
          | ret u => obtain ⟨v, σ6, H6, S6, r6, q6⟩ := hsp; exact ⟨v, σ6, H6, unsuite0 S6 ok, r6, q6⟩
          | _ => obtain ⟨σ6, H6, S6, q6⟩ := hsp; exact ⟨σ6, H6, unsuite0 S6 ok, q6⟩
      | some i =>
        cases n with
        | none => exact hn.elim
        | some n =>
          obtain ⟨hi, hln⟩ := hn
          refine codeAny_handlers_suite_as (land fun h4 S4 => ?_)
          refine store_ok (X := X.suite a (X.pn ++ pins)) (v := .ref a) S4 hN hi (.inl hln) rfl (fun s5 S5 => ?_) (.inr hln)
          refine wpAny_mono ((hsu a (X.pn ++ pins)).run [] s5 _ _ _ S5 ys) (fun f s6 hsp => ?_) (fun _ _ z => z.elim)
          cases f with
          | ret u => obtain ⟨v, σ6, H6, S6, r6, q6⟩ := hsp; exact gone_ok (unsuite0 S6 ok) hN hi hln fun s7 J7 => ⟨v, _, H6, J7, r6, q6⟩
          | _ => obtain ⟨σ6, H6, S6, q6⟩ := hsp; exact gone_ok (unsuite0 S6 ok) hN hi hln fun s7 J7 => ⟨_, H6, J7, q6⟩
theorem ps_tryX (hs : X.stack = X.env :: X.outer) (hf : X.env.frame = some X.env.locals) (hN : X.N.Nodup) (tk : L2.Takes X Wout)
    (hb : ∀ (W : WX) (pn : List (Addr × Obj)) (xe : Value → Shared → Prop), L2.Takes (X.tr pn xe) W → PassesOwn (model X.prog X.w) X.A X.env xe → PSs (X.tr pn xe) body (tb W)) (hh : HdsX X (h₀ :: hds) l) :
    PS X (.Try body (h₀ :: hds) [] [] pos) (fun D σ H => tb (wH X.K Wout D l) D σ H) := by
  refine ⟨fun pins s σ H D I h => wpAny_Try_except ?_⟩
  have ok := I.ok
  have hfr : X.A.frames = some (X.env :: X.outer) := by rw [ok.frames, hs]
  refine wpAny_mono ((hb (wH X.K Wout D l) (X.pn ++ pins) (fun e s₁ => wpAny (model X.prog X.w) X.A (noteFrame e X.env) (fun _ s₂ => wpAny (model X.prog X.w) X.A (setFlight e none) (fun _ s₃ =>
    wpAny (model X.prog X.w) X.A (handleBy e X.env (h₀ :: hds)) (SP X pins D) X.xe s₃) X.xe s₂) X.xe s₁) (fun u s' xx => ?_) PassesOwn.looking).run [] s σ H D (I.toTry _) h) (fun f s1 hsp => ?_) fun _ _ z => z
  · obtain ⟨a, B, sI, pins', σ', H', cls, d, rfl, J', nb, up, sky, na, os, ag, w⟩ := xx
    exact Sky.land Zc.steady hfr hf (by rw [← hs]; exact sky) fun h3 fl3 up3 => hds_ok hs hf hN tk (J'.ofTry ok) nb (up.trans up3) fl3 na os ag hh w
  · cases f with
    | next => obtain ⟨σ', H', J', q⟩ := hsp; exact wpAny_execs_nil ⟨σ', H', J'.ofTry ok, q⟩
    | ret u => obtain ⟨v, σ', H', J', r, q⟩ := hsp; exact ⟨v, σ', H', J'.ofTry ok, r, q⟩
    | _ => obtain ⟨σ', H', J', q⟩ := hsp; exact ⟨σ', H', J'.ofTry ok, q⟩
end
end Ip

set_option maxHeartbeats 4000000
/-! IpI: __init__ of an error class; the try statement of the core. -/
namespace Ip
open PySem PySem.Spec PyProof.Rows L2

/-- self.f = f, field by field -/
def initC : List Str → List Stmt → Bool
  | [], [] => true
  | g :: gs, .Assign [.Attribute (.Name s _) f _] (.Name y _) _ :: r => decide (s = ("self" : Str)) && decide (f = g) && decide (y = g) && initC gs r
  | _, _ => false
theorem upd_swap {H : Hp} {a d : Addr} {o1 o2 o3 : HO} (hd : d ≠ a) : upd (upd (upd H d o1) a o2) d o3 = upd (upd H d o3) a o2 := by
  funext b
  unfold upd
  by_cases h1 : b = d
  · have : b ≠ a := fun z => hd (by rw [← h1]; exact z)
    simp [h1, hd]
  · by_cases h2 : b = a
    · simp [h2, Ne.symm hd]
    · simp [h1, h2]
theorem upd_id {H : Hp} {d : Addr} {o : HO} (h : H d = some o) : upd H d o = H := by
  funext b
  unfold upd
  split
  · rename_i e; rw [e, h]
  · rfl
section
variable {X : Cx}
def tInit (K : W.Frag) (i : Nat) (gs : List Str) : TS := fun D σ H => ∃ (a C : Addr) (f0 : List (Str × V)) (ws : List V), σ[0]? = some (some (.ref a)) ∧ (∀ (j : Nat) (v : V), ws[j]? = some v → σ[i + j]? = some (some v)) ∧ ws.length = gs.length ∧ OexC K C ∧ (∀ f ∈ gs, PySem.W.findIn K (.ref C) f = some none) ∧ f0.length + gs.length ≤ 800 ∧
  ((f0 = [] ∧ gs ≠ [] ∧ H a = some (exo a C none) ∧ ∀ d, H d = none → d ≠ a → D.nx σ (upd (upd H d (exd d (gs.zip ws).reverse)) a (exo a C (some d)))) ∨
    ∃ d, d ≠ a ∧ H a = some (exo a C (some d)) ∧ H d = some (exd d f0) ∧ D.nx σ (upd H d (exd d ((gs.zip ws).reverse ++ f0))))
theorem init_body (hv : ∀ x ∈ X.N, Vis X.env.scope x ∧ (x == ("__debug__" : Str)) = false ∧ (x == ("__classdict__" : Str)) = false) (h0 : X.N[0]? = some ("self" : Str)) : ∀ (gs : List Str) (i : Nat) (body : List Stmt), initC gs body = true → (∀ j g, gs[j]? = some g → X.N[i + j]? = some g) → PSs X body (tInit X.K i gs)
  | [], i, body, h, _ => by
    cases body with
    | cons st r => simp [initC] at h
    | nil =>
      refine pss_nil.mono fun D σ H ⟨a, C, f0, ws, _, _, hw, _, _, _, q⟩ => ?_
      rcases q with ⟨_, n, _⟩ | ⟨d, _, ha, hd, q⟩
      · exact absurd rfl n
      · rw [List.zip_nil_left, List.reverse_nil, List.nil_append, upd_id hd] at q
        exact q
  | g :: gs, i, body, h, hN => by
    cases body with
    | nil => simp [initC] at h
    | cons st r =>
      unfold initC at h
      split at h
      · rename_i h1 _; cases h1
      · rename_i g' gs' s p1 f p2 y p3 p4 r' e1 e2
        cases e1; cases e2
        simp only [Bool.and_eq_true, decide_eq_true_eq] at h
        obtain ⟨⟨⟨rfl, rfl⟩, rfl⟩, h4⟩ := h
        have hf := hN 0 y rfl
        obtain ⟨v0, v1, v2⟩ := hv _ (List.mem_of_getElem? h0)
        obtain ⟨w0, w1, w2⟩ := hv _ (List.mem_of_getElem? hf)
        have ih := init_body hv h0 gs (i + 1) r h4 fun j g e => by
          have := hN (j + 1) g e
          rw [← Nat.add_assoc, Nat.add_right_comm] at this
          exact this
        refine (pss_cons (ps_ost (pe_var h0 v0 v1 v2) (pe_var hf w0 w1 w2)) ih).mono fun D σ H ⟨a, C, f0, ws, hσ, hw, hl, T, hn, hz, q⟩ => ?_
        cases ws with
        | nil => simp at hl
        | cons w ws =>
          refine ⟨w, by simpa using hw 0 w rfl, .ref a, hσ, a, C, rfl, T, hn y (by simp), ?_⟩
          have hw' : ∀ (j : Nat) (v : V), ws[j]? = some v → σ[i + 1 + j]? = some (some v) := fun j v e => by
            have := hw (j + 1) v e
            rw [← Nat.add_assoc, Nat.add_right_comm] at this
            exact this
          have hl' : ws.length = gs.length := by simpa using hl
          simp only [List.length_cons] at hz
          rcases q with ⟨rfl, _, ha, q⟩ | ⟨d, ne, ha, hd, q⟩
          · refine .inl ⟨ha, fun d hd ne => ⟨a, C, [(y, w)], ws, hσ, hw', hl', T, fun f hf => hn f (by simp [hf]), by simp at hz ⊢; omega, .inr ⟨d, ne, upd_same, by rw [upd_ne ne, upd_same], ?_⟩⟩⟩
            rw [upd_swap ne]
            have := q d hd ne
            rw [List.zip_cons_cons, List.reverse_cons] at this
            exact this
          · refine .inr ⟨d, f0, ha, hd, by omega, a, C, (y, w) :: f0, ws, hσ, hw', hl', T, fun f hf => hn f (by simp [hf]), by simp; omega, .inr ⟨d, ne, by rw [upd_ne (Ne.symm ne)]; exact ha, upd_same, ?_⟩⟩
            rw [upd_upd]
            rw [List.zip_cons_cons, List.reverse_cons, List.append_assoc] at q
            exact q
      · cases h
end
theorem xi_mk {K : W.Frag} {c : Nat} {C fI : Addr} {fd : FuncData} {st : Stmt} {qual : Str} (ox : OexC K C) (fl : ∀ f ∈ clsF c, PySem.W.findIn K (.ref C) f = some none) (ii : PySem.W.findIn K (.ref C) "__init__" = some (some (.ref fI))) (ti : PySem.W.typeIn K (.ref fI) = some (.type "function"))
    (Fu : L2.Fun K "__init__" qual st fI fd) (S : FnScope ("self" :: clsF c) ("self" :: clsF c) (defScope st)) (hb : initC (clsF c) (defBody st) = true) (hne : clsF c ≠ []) (hl : (clsF c).length ≤ 700) (hd : ∀ x ∈ ("self" : Str) :: clsF c, (x == ("__debug__" : Str)) = false ∧ (x == ("__classdict__" : Str)) = false)
    (bi : Binds K fd ("self" :: clsF c) []) : XI K c C fI fd := by
  refine ⟨ox, ii, ti, fun P w mg base => Fu.ok (N := "self" :: clsF c) S (fun vs H Q E h => ?_) fun cdv A outer s H vs Q E rm h => ?_, bi⟩
  · obtain ⟨a, ws, rfl, hl, _⟩ := h
    simp [hl]
  · obtain ⟨a, ws, rfl, hw, ha, q⟩ := h
    refine ⟨tInit K 1 (clsF c), init_body (fun x hx => ⟨?_, hd x hx⟩) rfl (clsF c) 1 _ hb (fun j g e => by rw [Nat.add_comm]; exact e), a, C, [], ws, rfl, fun j v e => ?_, hw, ox, fl, by simpa using (by omega), .inl ⟨rfl, hne, ha, fun d hd ne => q d hd ne⟩⟩
    · rcases S.par x hx with z | z
      · exact .inl z
      · exact .inr (.inl z)
    · rw [Nat.add_comm]
      simp only [L2.start]
      rw [List.map_cons, List.cons_append, List.getElem?_cons_succ]
      have hj := (List.getElem?_eq_some_iff.mp e).1
      rw [List.getElem?_append_left (by simpa using hj), List.getElem?_map, e]
      rfl
/-! ### try -/
def atE (o : Option Nat) (ρ : En) (c : Nat) (as : List T) : En := match o with
  | some i => ρ.put i (.exv c as)
  | none => ρ
inductive HL (K : W.Frag) (F : Fns) : List CH → List (Value × Option Nat × TS) → Prop
  | nil : HL K F [] []
  | cons {d : Nat} {cs : List Nat} {o : Option Nat} {b : List CS} {D : Addr} {chs : List CH} {l : List (Value × Option Nat × TS)} (h : ∀ c ∈ cs, ∀ C, ClsAt K c C → PySem.W.exmOne K (.ref C) (.ref D) = some (mch c d)) (r : HL K F chs l) :
      HL K F (.hd d cs o b :: chs) ((.ref D, o, tSs K F (fun _ _ _ _ => False) b) :: l)
section
variable {K : W.Frag} {F : Fns} {f : Fm} {w : Wd} {σ : L2.St} {H : Hp} {ρ : En} {S : Store} {D : Ends} {Wx : WX} {r : Fl}
theorem SR.goneσ (s : SR K f w σ H ρ S) (o : Option Nat) : SR K f w (match o with | some i => σ.set i none | none => σ) H (match o with | some i => ρ.del i | none => ρ) S := by
  cases o with
  | none => exact s
  | some i =>
    refine ⟨s.st, s.pe, s.mnew, s.mE, s.minj, s.eE, s.pre, s.nφ, s.k0, by rw [En.del_len, List.length_set]; exact s.slen, fun j t e => ?_⟩
    rw [En.get_del] at e
    split at e
    · cases e
    · rename_i ne
      obtain ⟨v, h1, h2⟩ := s.slots j t e
      exact ⟨v, by rw [List.getElem?_set_ne (fun z => ne z.symm)]; exact h1, h2⟩
theorem hl_ok {chs : List CH} {l : List (Value × Option Nat × TS)} (h : HL K F chs l) {c : Nat} {as : List T} {cls : Value} {d : Option Addr} (s : SR K f w σ H ρ S) (xr : XR K H c as cls d) (ev : evalHs F chs c as ρ S = .ok r) (q : EndOf K f w H D Wx r) : wH K Wx D l cls d σ H := by
  induction h with
  | nil =>
    simp only [evalHs, Res.ok.injEq] at ev
    subst ev
    exact q cls d w σ H s (Ext.refl _ _) xr
  | @cons k cs o b DD chs l hx hl ih =>
    obtain ⟨C, ec, hC, _⟩ := id xr
    simp only [evalHs] at ev
    split at ev
    · rename_i hc
      rw [ec]
      refine ⟨mch c k, hx c hc C hC, fun hm a na => ?_, fun hm => ?_⟩
      · rw [← ec]
        rw [if_pos hm] at ev
        have s1 := s.new (o := exh a cls d) na
        have gr : Grow H (upd H a (exh a cls d)) w.tot w.tot := s.grow (Kp.new na)
        have rx : Rep K (upd H a (exh a cls d)) w.φ w.tot (.exv c as) (.ref a) := by
          simp only [Rep]
          exact ⟨a, cls, d, rfl, upd_same, xr.grow gr.xds⟩
        clear ih
        have s2 : SR K f w (namedS o a σ) (upd H a (exh a cls d)) (atE o ρ c as) S := by
          cases o with
          | none => exact s1
          | some i => exact s1.put rx
        have x1 : Ext w w H (upd H a (exh a cls d)) := ⟨gr, List.prefix_refl _⟩
        split at ev
        · cases ev
        · rename_i fl nx e1
          cases ev
          refine ⟨f, w, atE o ρ c as, S, s2, fl, e1, ?_⟩
          cases fl with
          | nx ρ3 S3 =>
            intro w3 σ3 H3 s3 x3
            have := q w3 _ H3 (s3.goneσ o) (x1.trans x3)
            cases o <;> exact this
          | bk ρ3 S3 =>
            intro w3 σ3 H3 s3 x3
            have := q w3 _ H3 (s3.goneσ o) (x1.trans x3)
            cases o <;> exact this
          | ct ρ3 S3 =>
            intro w3 σ3 H3 s3 x3
            have := q w3 _ H3 (s3.goneσ o) (x1.trans x3)
            cases o <;> exact this
          | rt t S3 =>
            intro v w3 σ3 ρ3 H3 s3 er
            have := q v w3 σ3 ρ3 H3 s3 er
            cases o <;> exact this
          | xc c' as' ρ3 S3 => exact absurd rfl (nx c' as' ρ3 S3)
        · cases ev
      · rw [if_neg (by rw [hm]; exact Bool.false_ne_true)] at ev
        rw [← ec]
        exact ih ev
    · cases ev
end
section
variable {X : Cx} {F : Fns} {Wx : WX} {body : List Stmt} {h₀ : ExceptHandler} {hds : List ExceptHandler} {l : List (Value × Option Nat × TS)} {pos : Pos} {cb : List CS} {chs : List CH}
theorem p_tryX (hs : X.stack = X.env :: X.outer) (hf : X.env.frame = some X.env.locals) (hN : X.N.Nodup) (tk : L2.Takes X Wx)
    (hb : ∀ (W : WX) (pn : List (Addr × Obj)) (xe : Value → Shared → Prop), L2.Takes (X.tr pn xe) W → PassesOwn (model X.prog X.w) X.A X.env xe → PSs (X.tr pn xe) body (tSs X.K F W cb)) (hh : HdsX X (h₀ :: hds) l) (hl : HL X.K F chs l) :
    PS X (.Try body (h₀ :: hds) [] [] pos) (tS X.K F Wx (.tryX cb chs)) :=
  (ps_tryX hs hf hN tk hb hh).mono fun D σ H ⟨f, w, ρ, S, s, r, ev, q⟩ => by
    simp only [evalS] at ev
    split at ev
    · rename_i c as ρ' S' e1
      exact ⟨f, w, ρ, S, s, _, e1, fun cls d w' σ' H' s' x' xr => hl_ok hl s' xr ev (q.weak x')⟩
    · rename_i r' nx e1
      cases ev
      refine ⟨f, w, ρ, S, s, r, e1, ?_⟩
      cases r with
      | xc c as ρ' S' => exact absurd rfl (nx c as ρ' S')
      | _ => exact q
    · cases ev
end
end Ip

set_option maxHeartbeats 4000000
/-! IpJ: starred displays, ~x; tuples to places of lists; insert, extend, pop as a statement. -/
namespace Ip
open PySem PySem.Spec PyProof.Rows L2

def tAS (K : W.Frag) (F : Fns) (bs : List Bool) (cs : List CE) : TA := fun σ H Q => ∃ f w ρ S, SR K f w σ H ρ S ∧ ∃ ts S' xs, evalEs F ρ cs S = .ok (ts, S') ∧ combS bs ts = some xs ∧
  ∀ vs H', SR K f w σ H' ρ S' → Kp w.φ H H' → Reps K H' w.φ w.tot xs vs → Q vs H'
section
variable {X : Cx} {F : Fns} {e a : Expr} {c ca : CE} {es : List Expr} {cs : List CE} {bs : List Bool} {pos : Pos}
theorem s_dnil : PA X [] (tAS X.K F [] []) := pa_nil.mono fun σ H Q ⟨f, w, ρ, S, s, ts, S', xs, e, ec, q⟩ => by
  simp only [evalEs, Res.ok.injEq, Prod.mk.injEq] at e
  obtain ⟨rfl, rfl⟩ := e
  cases ec
  exact q [] H s (Kp.refl _ _) rfl
theorem s_dcons (ha : PE X e (tE X.K F c)) (hs : strong c = true) (hr : PA X es (tAS X.K F bs cs)) (hp : plainArg e = true) : PA X (e :: es) (tAS X.K F (false :: bs) (c :: cs)) :=
  (pa_cons ha hr (star_plain hp)).mono fun σ H Q ⟨f, w, ρ, S, s, t', S', xs, e, ec, q⟩ => by
    simp only [evalEs] at e
    obtain ⟨⟨x, S1⟩, e1, e⟩ := Res.bind_ok e
    obtain ⟨⟨y, S2⟩, e2, e⟩ := Res.bind_ok e
    cases e
    simp only [combS, Option.map_eq_some_iff] at ec
    obtain ⟨ys, ec, rfl⟩ := ec
    refine ⟨f, w, ρ, S, s, _, _, e1, fun v H1 s1 k1 r1 => ⟨f, w, ρ, S1, s1, _, _, ys, e2, ec, fun vs H2 s2 k2 r2 => q _ _ s2 (k1.trans k2) ?_⟩⟩
    rw [hs] at r1
    exact Reps.cons (Rep.grow (s1.grow k2) (List.prefix_refl _) _ _ r1.view) r2
theorem Reps.app {K : W.Frag} {φ : List Addr} {E : Excl} {H : Hp} : ∀ {xs ys : List T} {us vs : List V}, Reps K H φ E xs us → Reps K H φ E ys vs → Reps K H φ E (xs ++ ys) (us ++ vs)
  | [], ys, us, vs, h, h2 => by
    simp only [Reps] at h
    subst h
    exact h2
  | x :: xs, ys, us, vs, h, h2 => by
    simp only [Reps] at h
    obtain ⟨v, vs', rfl, rv, r⟩ := h
    exact Reps.cons rv (Reps.app r h2)
theorem s_dstar {p : Pos} (ha : PE X e (tE X.K F c)) (hr : PA X es (tAS X.K F bs cs)) : PA X (.Starred e p :: es) (tAS X.K F (true :: bs) (c :: cs)) :=
  (StX.pa_star ha hr).mono fun σ H Q ⟨f, w, ρ, S, s, t', S', xs, e, ec, q⟩ => by
    simp only [evalEs] at e
    obtain ⟨⟨x, S1⟩, e1, e⟩ := Res.bind_ok e
    obtain ⟨⟨y, S2⟩, e2, e⟩ := Res.bind_ok e
    cases e
    simp only [combS] at ec
    split at ec
    · rename_i us ys hu hy
      cases ec
      refine ⟨f, w, ρ, S, s, _, _, e1, fun v H1 s1 k1 r1 => ?_⟩
      have l := r1.lr.view s1.st.toDom
      have key : ∃ a vs, v = .ref a ∧ (SqT X.K H1 a vs ∨ SqL X.K H1 a vs) ∧ Reps X.K H1 w.φ w.tot us vs := by
        cases hx : x.view with
        | tup zs =>
          rw [hx] at l hu
          cases hu
          obtain ⟨a, vs, e, h, r⟩ := l.tup
          exact ⟨a, vs, e, .inl h, r⟩
        | lst zs =>
          rw [hx] at l hu
          cases hu
          obtain ⟨a, vs, e, _, h, r⟩ := l.lst s1.st.toDom
          exact ⟨a, vs, e, .inr (SqL.of h), r⟩
        | _ => rw [hx] at hu; cases hu
      obtain ⟨a, vs, ev, hs, rs⟩ := key
      exact ⟨a, vs, ev, hs, f, w, ρ, S1, s1, _, _, ys, e2, hy, fun ws H2 s2 k2 r2 => q _ _ s2 (k1.trans k2) (Reps.app (Reps.grow (s1.grow k2) (List.prefix_refl _) _ _ rs) r2)⟩
    · cases ec
theorem s_dispT {k : Nat} (h : PA X es (tAS X.K F bs cs)) : PE X (.Tuple es k pos) (tE X.K F (.disp true bs cs)) :=
  (pe_tup h).mono fun σ H Q ⟨f, w, ρ, S, s, t', S', e, q⟩ => by
    simp only [evalE] at e
    obtain ⟨⟨ts, S1⟩, e1, e⟩ := Res.bind_ok e
    obtain ⟨xs, e2, e⟩ := Res.bind_ok e
    split at e
    · rename_i hz
      cases e
      have hz1 : xs.length ≤ 1000000 := by simpa [szOk] using hz
      refine ⟨f, w, ρ, S, s, _, _, xs, e1, Res.of_ok e2, fun vs H1 s1 k1 r1 => ⟨by rw [← r1.len, sizeLine_eq]; omega, fun p hp => ?_⟩⟩
      exact fin_tup s1.st.toDom (fin_nw s1 k1 q) hp r1
    · cases e
theorem s_dispL (h : PA X es (tAS X.K F bs cs)) : PE X (.List es pos) (tE X.K F (.disp false bs cs)) :=
  (pe_lst h).mono fun σ H Q ⟨f, w, ρ, S, s, t', S', e, q⟩ => by
    simp only [evalE] at e
    obtain ⟨⟨ts, S1⟩, e1, e⟩ := Res.bind_ok e
    obtain ⟨xs, e2, e⟩ := Res.bind_ok e
    split at e
    · rename_i hz
      cases e
      have hz1 : xs.length ≤ 1000000 := by simpa [szOk] using hz
      refine ⟨f, w, ρ, S, s, _, _, xs, e1, Res.of_ok e2, fun vs H1 s1 k1 r1 => ⟨by rw [← r1.len, sizeLine_eq]; omega, fun p hp => ?_⟩⟩
      exact fin_own s1.st.toDom (fin_nw s1 k1 q) hp r1
    · cases e
theorem s_inv (ha : PE X a (tE X.K F ca)) : PE X (.UnaryOp .Invert a pos) (tE X.K F (.inv ca)) :=
  (pe_un un_inv ha).mono fun σ H Q ⟨f, w, ρ, S, s, t', S', e, q⟩ => by
    simp only [evalE] at e
    obtain ⟨⟨x, S1⟩, e1, e⟩ := Res.bind_ok e
    simp only at e
    split at e
    · rename_i i
      cases e
      exact ⟨f, w, ρ, S, s, _, _, e1, fun v H1 s1 k1 r1 => ⟨i, r1.lr.int, q _ _ s1 k1 (.rep (by simp only [Rep]))⟩⟩
    · cases e
end
section
variable {X : Cx} {F : Fns} {Wx : WX} {st : Stmt} {c cx : CE} {i : Nat}
/-- the targets -/
def gAsg (K : PySem.W.Frag) (F : Fns) : List (Nat × Option CE) → TGs
  | [] => gNil
  | (i, none) :: is => gCons (gName i) (gAsg K F is)
  | (i, some ix) :: is => gCons (gSub (tVar i) (tE K F ix) rSetL) (gAsg K F is)
theorem asg_ok {K : PySem.W.Frag} {f : Fm} : ∀ {is : List (Nat × Option CE)} {ts : List T} {vs : List V} {w : Wd} {σ : L2.St} {H : Hp} {ρ ρ' : En} {S S' : Store} {Q : L2.St → Hp → Prop}, asgL F is ts ρ S = .ok (ρ', S') → SR K f w σ H ρ S → Reps K H w.φ w.tot ts vs →
    (∀ σ' H', SR K f w σ' H' ρ' S' → Ext w w H H' → Q σ' H') → gAsg K F is vs σ H Q
  | [], ts, vs, w, σ, H, ρ, ρ', S, S', Q, e, s, r, q => by
    cases ts with
    | nil =>
      simp only [asgL, Res.ok.injEq, Prod.mk.injEq] at e
      obtain ⟨rfl, rfl⟩ := e
      simp only [Reps] at r
      subst r
      exact ⟨rfl, q _ _ s (Ext.refl _ _)⟩
    | cons t ts => simp [asgL] at e
  | (i, none) :: is, ts, vs, w, σ, H, ρ, ρ', S, S', Q, e, s, r, q => by
    cases ts with
    | nil => simp [asgL] at e
    | cons t ts =>
      simp only [asgL] at e
      split at e
      · cases e
      · simp only [Reps] at r
        obtain ⟨v, vs', rfl, rv, rs⟩ := r
        exact ⟨v, vs', rfl, asg_ok e (s.put rv) rs q⟩
  | (i, some ix) :: is, ts, vs, w, σ, H, ρ, ρ', S, S', Q, e, s, r, q => by
    cases ts with
    | nil => simp [asgL] at e
    | cons t ts =>
      simp only [asgL] at e
      obtain ⟨⟨k, S1⟩, e1, e⟩ := Res.bind_ok e
      simp only at e
      split at e
      · rename_i xs k' eo
        split at e
        · rename_i j ej
          split at e
          · rename_i hw
            simp only [Bool.and_eq_true, Bool.not_eq_true'] at hw
            simp only [Reps] at r
            obtain ⟨v, vs', rfl, rv, rs⟩ := r
            have hx : ∃ x, σ[i]? = some (some x) := by
              unfold ownOf at eo
              split at eo
              · rename_i ys ei; obtain ⟨x, h1, _⟩ := s.slots i _ ei; exact ⟨x, h1⟩
              · rename_i n ei; obtain ⟨x, h1, _⟩ := s.slots i _ ei; exact ⟨x, h1⟩
              · cases eo
            obtain ⟨x, hx⟩ := hx
            refine ⟨v, vs', rfl, x, hx, f, w, ρ, S, s, _, S1, e1, fun v2 H2 s2 k2 r2 => ?_⟩
            obtain ⟨a, us, W⟩ := s2.write eo
            have := W.at_
            rw [hx] at this
            cases this
            have rl := W.rep.len
            refine ⟨a, us, k', j, rfl, r2.lr.int, W.lst, by rw [← rl]; exact ej, ?_⟩
            have g2 := s.grow k2
            have rv2 : Rep K H2 w.φ w.tot t v := Rep.grow g2 (List.prefix_refl _) _ _ rv
            have nv : t.view = t := by cases t <;> first | rfl | (cases hw.2; done)
            have s3 := W.go _ _ (Reps.set rv2 j W.rep) fun k ek => nls_set (own_nls s2 eo ek) (by have := nl_view (wr_nl hw.1 ek); rw [nv] at this; exact this) j
            exact asg_ok e s3 (Reps.grow W.ext.1 (List.prefix_refl _) _ _ (Reps.grow g2 (List.prefix_refl _) _ _ rs)) fun σ' H' s' x' => q _ _ s' ((s.ext k2).trans (W.ext.trans x'))
          · cases e
        · cases e
      · cases e
theorem asg_len {F : Fns} : ∀ {is : List (Nat × Option CE)} {ts : List T} {ρ : En} {S : Store} {r : En × Store}, asgL F is ts ρ S = .ok r → ts.length = is.length
  | [], [], _, _, _, _ => rfl
  | [], _ :: _, _, _, _, e => by simp [asgL] at e
  | _ :: _, [], _, _, _, e => by
    rename_i x _ _ _ _
    obtain ⟨i, o⟩ := x
    cases o <;> simp [asgL] at e
  | (i, none) :: is, t :: ts, ρ, S, r, e => by
    simp only [asgL] at e
    split at e
    · cases e
    · simp [asg_len e]
  | (i, some ix) :: is, t :: ts, ρ, S, r, e => by
    simp only [asgL] at e
    obtain ⟨⟨k, S1⟩, e1, e⟩ := Res.bind_ok e
    simp only at e
    split at e
    · split at e
      · split at e
        · simp [asg_len e]
        · cases e
      · cases e
    · cases e
theorem p_setT {is : List (Nat × Option CE)} (h : PS X st (tAsg (tE X.K F c) (gTup X.K is.length (gAsg X.K F is)))) (_ : strong c = true) : PS X st (tS X.K F Wx (.setT is c)) :=
  h.mono fun D σ H ⟨f, w, ρ, S, s, r, ev, q⟩ => by
    simp only [evalS] at ev
    obtain ⟨⟨t, S1⟩, e1, ev⟩ := Res.bind_ok ev
    simp only at ev
    split at ev
    · rename_i ts
      obtain ⟨⟨ρ', S'⟩, e2, ev⟩ := Res.bind_ok ev
      cases ev
      refine ⟨f, w, ρ, S, s, _, S1, e1, fun v H1 s1 k1 r1 => ?_⟩
      obtain ⟨a, vs, rfl, hs, rs⟩ := r1.lr.tup
      exact ⟨a, vs, rfl, hs, by rw [← rs.len, asg_len e2], asg_ok e2 s1 rs fun σ' H' s' x' => q _ _ _ s' ((s.ext k1).trans x')⟩
    · cases ev
def rIns : V → List V → Hp → VK → Prop := fun x vs H Q => ∃ (l : Addr) (xs : List V) (i : Int) (y : V), x = .ref l ∧ vs = [.int i, y] ∧ H l = some (.lst xs) ∧ xs.length < sizeLine ∧ 0 ≤ i ∧ i < 2 ^ 63 ∧ Q .non (upd H l (.lst (xs.take i.toNat ++ [y] ++ xs.drop i.toNat)))
theorem Reps.tk {K : W.Frag} {φ : List Addr} {E : Excl} {H : Hp} : ∀ {xs : List T} {us : List V} (n : Nat), Reps K H φ E xs us → Reps K H φ E (xs.take n) (us.take n) ∧ Reps K H φ E (xs.drop n) (us.drop n)
  | xs, us, 0, h => ⟨by rw [List.take_zero, List.take_zero]; exact Reps.nil, h⟩
  | [], us, n + 1, h => by
    simp only [Reps] at h
    subst h
    exact ⟨Reps.nil, Reps.nil⟩
  | x :: xs, us, n + 1, h => by
    simp only [Reps] at h
    obtain ⟨v, vs', rfl, rv, r⟩ := h
    obtain ⟨h1, h2⟩ := Reps.tk n r
    exact ⟨Reps.cons rv h1, h2⟩
theorem nls_take : ∀ {xs : List T} (n : Nat), nls xs = true → nls (xs.take n) = true ∧ nls (xs.drop n) = true
  | xs, 0, h => ⟨rfl, h⟩
  | [], n + 1, h => ⟨rfl, rfl⟩
  | x :: xs, n + 1, h => by
    simp only [nls, Bool.and_eq_true] at h
    obtain ⟨h1, h2⟩ := nls_take n h.2
    exact ⟨by simp only [List.take_succ_cons, nls, h.1, h1, Bool.and_self], h2⟩
theorem p_ins (h : PS X st (tDrop (tBM X.K "list" rIns (tVar i) (tA X.K F [cx, c])))) : PS X st (tS X.K F Wx (.ins i cx c)) :=
  h.mono fun D σ H ⟨f, w, ρ, S, s, r, ev, q⟩ => by
    simp only [evalS] at ev
    obtain ⟨⟨k, S1⟩, e1, ev1⟩ := Res.bind_ok ev
    clear ev
    obtain ⟨⟨t, S2⟩, e2, ev⟩ := Res.bind_ok ev1
    clear ev1
    simp only at ev
    split at ev
    · rename_i xs k' eo
      split at ev
      · rename_i hz
        cases ev
        simp only [Bool.and_eq_true, decide_eq_true_eq] at hz
        obtain ⟨⟨⟨z1, z2⟩, z3⟩, z4⟩ := hz
        obtain ⟨u, et⟩ := get_get (S' := S) eo
        obtain ⟨x, hx, _⟩ := s.slots i u et
        have hl : ∃ l vs, x = .ref l ∧ H l = some (.lst vs) := by
          unfold ownOf at eo
          split at eo
          · rename_i ys ei
            obtain ⟨y, h1, h2⟩ := s.slots i _ ei
            rw [hx] at h1
            cases h1
            simp only [SlotR] at h2
            obtain ⟨a, vs, e, _, q, _⟩ := h2
            exact ⟨a, vs, e, q⟩
          · rename_i k ei
            obtain ⟨y, h1, h2⟩ := s.slots i _ ei
            rw [hx] at h1
            cases h1
            simp only [SlotR, Rep] at h2
            obtain ⟨a, e, q⟩ := h2
            obtain ⟨vs, h⟩ := s.st.atφ (List.mem_of_getElem? q)
            exact ⟨a, vs, e, h⟩
          · cases eo
        obtain ⟨l, us, rfl, hl⟩ := hl
        refine ⟨.ref l, hx, .inl ⟨rfl, us, SqL.of hl⟩, f, w, ρ, S, s, [.int k', t.view], S2, by simp only [evalEs, e1, e2, Res.ok_bind]; rfl, fun vs H1 s1 k1 r1 => ?_⟩
        obtain ⟨a, ws, W⟩ := s1.write eo
        have := W.at_
        rw [hx] at this
        cases this
        simp only [Reps, Rep] at r1
        obtain ⟨v0, vs0, rfl, rfl, v, vs', rfl, rv, rfl⟩ := r1
        have hz1 : xs.length ≤ 1000000 := by simpa [szOk] using z1
        refine ⟨l, ws, k', v, rfl, rfl, W.lst, by rw [← W.rep.len, sizeLine_eq]; omega, z3, by omega, ?_⟩
        obtain ⟨q1, q2⟩ := Reps.tk k'.toNat W.rep
        exact q _ _ _ (W.go _ _ (Reps.app (Reps.app q1 (Reps.cons rv Reps.nil)) q2) fun k ek => by
          obtain ⟨n1, n2⟩ := nls_take k'.toNat (own_nls s1 eo ek)
          exact nls_append (nls_append n1 (by simp [nls, nl_view (wr_nl z2 ek)])) n2) ((s.ext k1).trans W.ext)
      · cases ev
    · cases ev
theorem p_popE (h : PS X st (tDrop (tBM0 X.K "list" rPop (tVar i)))) : PS X st (tS X.K F Wx (.popE i)) :=
  h.mono fun D σ H ⟨f, w, ρ, S, s, r, ev, q⟩ => by
    simp only [evalS] at ev
    split at ev
    · rename_i xs eo
      split at ev
      · cases ev
      · rename_i hn
        cases ev
        obtain ⟨a, vs, W⟩ := s.write eo
        have hne : xs ≠ [] := fun z => hn (by rw [z]; rfl)
        obtain ⟨t, et⟩ : ∃ t, xs.getLast? = some t := ⟨_, List.getLast?_eq_some_getLast hne⟩
        obtain ⟨v, hv, rv⟩ := W.rep.get (getLast_ix et)
        have s2 := W.go xs.dropLast vs.dropLast W.rep.dropLast fun k ek => nls_dropLast (own_nls s eo ek)
        exact ⟨.ref a, W.at_, .inl ⟨rfl, vs, SqL.of W.lst⟩, a, vs, v, rfl, rfl, W.lst, by rw [← W.rep.len]; exact hv, q _ _ _ s2 W.ext⟩
    · cases ev
theorem p_ext (h : PS X st (tDrop (tBM X.K "list" rExtend (tVar i) (tL X.K F [c])))) : PS X st (tS X.K F Wx (.ext i c)) :=
  h.mono fun D σ H ⟨f, w, ρ, S, s, r, ev, q⟩ => by
    simp only [evalS] at ev
    obtain ⟨⟨t, S1⟩, e1, ev⟩ := Res.bind_ok ev
    simp only at ev
    split at ev
    · rename_i xs ys eg ey
      split at ev
      · rename_i hz
        cases ev
        simp only [Bool.and_eq_true] at hz
        have z1 : xs.length ≤ 1000000 := by simpa [szOk] using hz.1
        have z2 : ys.length ≤ 1000000 := by simpa [szOk] using hz.2
        have eo : ∀ S, ownOf ρ S i = some xs := fun S => by unfold ownOf; rw [eg]
        obtain ⟨y, hx, h2⟩ := s.slots i _ eg
        simp only [SlotR] at h2
        obtain ⟨l, us, rfl, _, hl, _⟩ := h2
        refine ⟨.ref l, hx, .inl ⟨rfl, us, SqL.of hl⟩, f, w, ρ, S, s, [t.view], S1, by simp only [evalEs, e1, Res.ok_bind], fun vs H1 s1 k1 r1 => ?_⟩
        obtain ⟨a, ws, W⟩ := s1.write (eo S1)
        have := W.at_
        rw [hx] at this
        cases this
        obtain ⟨v, r0, rfl, lv, hr0⟩ := r1
        have hr0 : r0 = [] := hr0
        subst hr0
        rw [ey] at lv
        obtain ⟨b, zs, rfl, _, hb, rb⟩ := lv.lst s1.st.toDom
        refine ⟨l, b, ws, zs, rfl, rfl, W.lst, hb, by rw [← W.rep.len, ← rb.len, sizeLine_eq]; omega, ?_⟩
        have s2 := W.go _ _ (Reps.app W.rep rb) fun k ek => by rw [eg] at ek; cases ek
        have ep : putOwn ρ S1 i (xs ++ ys) = (ρ.put i (.own (xs ++ ys)), S1) := by unfold putOwn; rw [eg]
        rw [ep] at s2
        exact q _ _ _ s2 ((s.ext k1).trans W.ext)
      · cases ev
    · cases ev
end
theorem adj_rev (n : Nat) : Builtin.Slice.sliceAdjust none none (-1) (n : Int) = ((n : Int) - 1, -1) := rfl
theorem plc_rev (n : Nat) : Builtin.Slice.slicePlaces ((n : Int) - 1) (-1) (-1) = n := by
  unfold Builtin.Slice.slicePlaces
  have h1 : ¬ ((-1 : Int) > 0) := by omega
  rw [if_neg h1, show (-(-1) : Int) = 1 by omega, Int.ediv_one]
  split <;> omega
theorem pick_rev (xs : Array Value) : ((List.range xs.size).filterMap fun (m : Nat) => xs[(((xs.size : Int) - 1) + (m : Int) * (-1)).toNat]?) = xs.toList.reverse := by
  have e : (fun (m : Nat) => xs[(((xs.size : Int) - 1) + (m : Int) * (-1)).toNat]?) = fun m => (xs[·]?) ((fun k => xs.size - 1 - k) m) := by
    funext m
    have : (((xs.size : Int) - 1) + (m : Int) * (-1)).toNat = xs.size - 1 - m := by omega
    rw [this]
  rw [e]
  have := List.filterMap_map (f := fun k => xs.size - 1 - k) (g := (xs[·]?)) (l := List.range xs.size)
  rw [PySem.W.krv_range, List.filterMap_reverse, PySem.W.krv_all] at this
  exact this.symm
theorem sliceApplied_rev {prog : Program} {w : World} {A : Around} {E : Value → Shared → Prop} {s : Shared} {sl : Addr} {vl vu vs : Value} {n : Nat} {Q : Int × Int × Nat → Shared → Prop} (hs : s.heap.IsSliceOf sl vl vu vs) (pl : IsPart vl none) (pu : IsPart vu none) (ps : IsPart vs (some (-1)))
    (h : Q ((n : Int) - 1, -1, n) s) : wpAny (model prog w) A (Builtin.Slice.sliceApplied (.ref sl) (pure (n : Int))) Q E s := by
  obtain ⟨os, hos, hcs, hds⟩ := id hs
  unfold Builtin.Slice.sliceApplied Builtin.Slice.sliceFields
  refine wpAny_bind (wpAny_bind (wpAny_field hos hds (x := vl) rfl (wpAny_bind (wpAny_field hos hds (x := vu) rfl (wpAny_bind (wpAny_field hos hds (x := vs) rfl (wpAny_pure ?_)))))))
  refine wpAny_bind (HT.slicePart_ ps ?_)
  show wpAny _ _ (if ((-1 : Int) == 0) = true then _ else _) _ _ s
  rw [if_neg (by decide)]
  refine wpAny_bind (HT.slicePart_ pl (wpAny_bind (HT.slicePart_ pu (wpAny_bind (wpAny_pure ?_)))))
  show wpAny _ _ (match Builtin.Slice.sliceAdjust none none (-1) (n : Int) with | (lo, hi) => pure (lo, (-1 : Int), Builtin.Slice.slicePlaces lo hi (-1))) _ _ s
  rw [adj_rev n]
  show wpAny _ _ (pure ((n : Int) - 1, (-1 : Int), Builtin.Slice.slicePlaces ((n : Int) - 1) (-1) (-1))) _ _ s
  rw [plc_rev]
  exact wpAny_pure h
theorem getItem_tuple_rev {prog : Program} {w : World} {A : Around} {E : Value → Shared → Prop} {s : Shared} {t sl : Addr} {items : Array Value} {vl vu vs : Value} {Q : Value → Shared → Prop} (ht : IsTup s.heap t items) (hs : s.heap.IsSliceOf sl vl vu vs) (pl : IsPart vl none) (pu : IsPart vu none) (ps : IsPart vs (some (-1)))
    (h : Q (.ref s.heap.objs.size) { s with heap := s.heap.push { cls := .type "tuple", data := .seq items.toList.reverse.toArray } })
    (hsz : items.size ≤ sizeLine) : wpAny (model prog w) A (getItem (.ref t) (.ref sl)) Q E s := by
  have htake : sizeOk (.seq items.toList.reverse.toArray) := by
    show items.toList.reverse.toArray.size ≤ sizeLine
    rw [List.size_toArray, List.length_reverse, Array.length_toList]
    exact hsz
  obtain ⟨os, hos, hcs, hds⟩ := id hs
  have hTs : s.TypeIs (.ref sl) "slice" := ⟨os, hos, hcs⟩
  unfold getItem
  try with_reducible refine wpAny_holding ?_
  first | refine wpAny_bind (wpAny_pure ?_) | skip
  refine wpAny_bind (wpAny_sequenceKey ht.typeIs (by decide) ?_)
  refine wpAny_bind (wpAny_callSpecial?_slot (name := Str.ofString "__getitem__") ht.typeIs PyProof.Rows.slot_tuple_getitem
    (wpAny_call_entry PyProof.Rows.slot_tuple_getitem ht.typeIs entry_tuple_getitem ?_ (args_tuple_getitem _ _)))
  show wpAny _ _ (Builtin.Tuple.tupleItemsOf (.ref t) >>= _) _ _ s
  refine wpAny_bind (tupleItemsOf_ ht ?_)
  refine wpAny_bind (wpAny_typeOf hTs ?_)
  rw [if_pos (by decide)]
  refine wpAny_bind (sliceApplied_rev hs pl pu ps ?_)
  have hno : ¬ ((((items.size : Int) - 1) == 0 && (-1 : Int) == 1 && items.size == items.size) = true) := by
    intro q
    rw [Bool.and_eq_true, Bool.and_eq_true] at q
    exact absurd q.1.2 (by decide)
  show wpAny _ _ (if (((items.size : Int) - 1) == 0 && (-1 : Int) == 1 && items.size == items.size) = true then _ else _) _ _ s
  rw [if_neg hno, pick_rev]
  first
    | exact wpAny_bind (m := Builtin.Tuple.tupleExact _) (wpAny_newObj_type (wpAny_pure ⟨_, rfl, wpAny_pure h⟩) htake)
    | exact wpAny_bind (m := Builtin.Tuple.tupleExact _) (wpAny_newObj_type (wpAny_bind (wpAny_pure (wpAny_pure ⟨_, rfl, wpAny_pure h⟩))) htake)
    | exact wpAny_bind (wpAny_bind (m := Builtin.Tuple.tupleExact _) (wpAny_newObj_type (wpAny_pure (wpAny_pure ⟨_, rfl, wpAny_pure h⟩)) htake))
    | exact wpAny_bind (wpAny_bind (m := Builtin.Tuple.tupleExact _) (wpAny_newObj_type (wpAny_pure ⟨_, rfl, wpAny_pure h⟩) htake))
def tRevT (K : W.Frag) (te : TE) : TE := fun σ H Q => te σ H fun x H1 => ∃ a xs, x = .ref a ∧ SqT K H1 a xs ∧ ∀ p, H1 p = none → Q (.ref p) (upd H1 p (.tup xs.reverse))
theorem pe_revT {X : Cx} {e : Expr} {te : TE} {k : Nat} {p1 p2 p3 pos : Pos} (he : PE X e te) : PE X (.Subscript e (.Slice none none (some (.UnaryOp .USub (.Constant (.int 1) k p1) p2)) p3) pos) (tRevT X.K te) := by
  refine ⟨fun pins s σ H Q I h => ?_⟩
  refine Subscript_ (thn (he.run pins s σ H _ I h) fun v s1 ⟨x, H1, I1, r1, q1⟩ => ?_)
  obtain ⟨a, xs, ex, hx, q⟩ := q1
  subst ex
  cases r1
  have hst : PO X (some (.UnaryOp .USub (.Constant (.int 1) k p1) p2)) (tPart (tUn (rU fun i => .int (-i)) (tC (.int 1)))) := po_some (pe_un un_neg pe_int)
  refine wpAny_Slice (thn (po_none.run pins s1 σ H1 (fun o H2 => o = none ∧ H2 = H1) I1 ⟨rfl, rfl⟩) fun vl s2 ⟨l, H2, I2, pl, el, e2⟩ => ?_)
  subst el e2
  refine thn (po_none.run pins s2 σ H2 (fun o H3 => o = none ∧ H3 = H2) I2 ⟨rfl, rfl⟩) fun vu s3 ⟨u, H3, I3, pu, eu, e3⟩ => ?_
  subst eu e3
  refine thn (hst.run pins s3 σ H3 (fun o H4 => o = some (-1) ∧ H4 = H3) I3 ⟨1, rfl, -1, rfl, rfl, rfl⟩) fun vs s4 ⟨o, H4, I4, ps, eo, e4⟩ => ?_
  subst eo e4
  have I5 : Inv X pins σ H4 { s4 with heap := s4.heap.push { cls := .type "slice", data := .fields #[vl, vu, vs] } } := I4.kept (t' := s4.toks) fun b ob q => Heap.get?_push_of_some _ q
  obtain ⟨its, r, ht, hz⟩ := I5.tuple hx
  have hlen := r.length
  show wpAny (model X.prog X.w) X.A (subscriptTail e (.Slice none none (some (.UnaryOp .USub (.Constant (.int 1) k p1) p2)) p3) (.ref a) (.ref s4.heap.objs.size)) (EP X pins σ Q) X.xe { s4 with heap := s4.heap.push { cls := .type "slice", data := .fields #[vl, vu, vs] } }
  refine tail_any (ops := [.ref a, .ref s4.heap.objs.size]) ht.typeIs (PyProof.Rows.slot_tuple_getitem.lookup) ?_ (by with_unfolding_all rfl)
  refine getItem_tuple_rev ht (Heap.IsSliceOf.new _ vl vu vs) pl pu ps ?_ (by rw [List.size_toArray]; omega)
  refine ⟨.ref _, _, I5.laid (t' := s4.toks) (o := .tup xs.reverse) (fun b ob q => Heap.get?_push_of_some _ q) (Nat.le_refl _) ?_, rfl, q _ (I5.hok.fresh (Nat.le_refl _))⟩
  refine ⟨by rw [List.length_reverse]; exact hz, its.reverse, r.reverse, _, Heap.get?_push_size _ rfl, rfl, ?_⟩
  simp
theorem Reps.rev {K : W.Frag} {H : Hp} {φ : List Addr} {E : Excl} : ∀ {ts : List T} {vs : List V}, Reps K H φ E ts vs → Reps K H φ E ts.reverse vs.reverse
  | [], vs, h => by simp only [Reps] at h; subst h; simp [Reps]
  | x :: xs, vs, h => by
    simp only [Reps] at h
    obtain ⟨v, r, rfl, h1, h⟩ := h
    rw [List.reverse_cons, List.reverse_cons]
    exact Reps.app (Reps.rev h) (by simp only [Reps]; exact ⟨v, [], rfl, h1, rfl⟩)
theorem s_rev {X : Cx} {F : Fns} {a : Expr} {ca : CE} {k : Nat} {p1 p2 p3 pos : Pos} (ha : PE X a (tE X.K F ca)) : PE X (.Subscript a (.Slice none none (some (.UnaryOp .USub (.Constant (.int 1) k p1) p2)) p3) pos) (tE X.K F (.rev ca)) :=
  (pe_revT ha).mono fun σ H Q ⟨f, w, ρ, S, s, t', S', e, q⟩ => by
    simp only [evalE] at e
    obtain ⟨⟨x, S1⟩, e1, e⟩ := Res.bind_ok e
    simp only at e
    split at e
    · rename_i xs
      cases e
      refine ⟨f, w, ρ, S, s, _, _, e1, fun v H1 s1 k1 r1 => ?_⟩
      obtain ⟨b, vs, rfl, hb, rb⟩ := r1.lr.tup
      exact ⟨b, vs, rfl, hb, fun p hp => fin_tup s1.st.toDom (fin_nw s1 k1 q) hp rb.rev⟩
    · cases e
end Ip

set_option maxHeartbeats 4000000
/-! Ip11: which core text stands for which expression; that it does. -/
namespace Ip
open PySem PySem.Spec PyProof.Rows L2

mutual
def T.beq : T → T → Bool
  | .non, .non => true
  | .bl b, .bl c => b == c
  | .int i, .int j => decide (i = j)
  | .str a, .str b => decide (a = b)
  | .tup xs, .tup ys => T.beqs xs ys
  | .ctup xs, .ctup ys => T.beqs xs ys
  | .fn x f, .fn y g => decide (x = y) && decide (f = g)
  | _, _ => false
def T.beqs : List T → List T → Bool
  | [], [] => true
  | x :: xs, y :: ys => T.beq x y && T.beqs xs ys
  | _, _ => false
end
mutual
theorem T.beq_eq : ∀ (s t : T), T.beq s t = true → s = t
  | .non, t, h => by cases t <;> simp [T.beq] at h ⊢
  | .bl b, t, h => by cases t <;> simp [T.beq] at h ⊢; exact h
  | .int i, t, h => by cases t <;> simp [T.beq] at h ⊢; exact h
  | .str s, t, h => by cases t <;> simp [T.beq] at h ⊢; exact h
  | .tup xs, t, h => by
    cases t <;> simp only [T.beq, Bool.false_eq_true] at h
    rw [T.beqs_eq _ _ h]
  | .lst xs, t, h => by simp [T.beq] at h
  | .own xs, t, h => by simp [T.beq] at h
  | .frz xs, t, h => by simp [T.beq] at h
  | .ref xs, t, h => by simp [T.beq] at h
  | .fn x f, t, h => by
    cases t <;> simp only [T.beq, Bool.false_eq_true, Bool.and_eq_true, decide_eq_true_eq] at h
    rw [h.1, h.2]
  | .exv _ _, t, h => by simp [T.beq] at h
  | .ctup xs, t, h => by
    cases t <;> simp only [T.beq, Bool.false_eq_true] at h
    rw [T.beqs_eq _ _ h]
  | .dct _ _ _, t, h => by simp [T.beq] at h
  | .odct _ _ _, t, h => by simp [T.beq] at h
theorem T.beqs_eq : ∀ (s t : List T), T.beqs s t = true → s = t
  | [], t, h => by cases t <;> simp [T.beqs] at h ⊢
  | x :: xs, t, h => by
    cases t <;> simp only [T.beqs, Bool.false_eq_true, Bool.and_eq_true] at h
    rw [T.beq_eq _ _ h.1, T.beqs_eq _ _ h.2]
end
structure Ck where
  N : List Str
  sc : Scope
  fn : Str → Bool
  fs : List (Str × Nat)
  bs : List Str
  cs : List (Str × T)
  xs : List Nat
  rs : List Nat
  hot : Bool
def FnG (X : Cx) (F : Fns) (x : Str) (g : Nat) : Prop :=
  ∃ n fa fd ps, FnOk X.prog X.w X.K X.mg X.base (L2.CX X.prog X.w) n fa fd ps (sp X.K F g) ∧ Room n X.A ∧ X.mg x = some (.ref fa) ∧ PySem.W.keepIn X.K (.ref fa) = true ∧ Binds X.K fd ps [] ∧ (x == ("__debug__" : Str)) = false ∧ PySem.W.nsIn X.K mainGlobals x = some (some (.ref fa))
structure EC (C : Ck) (F : Fns) (X : Cx) : Prop where
  N : X.N = C.N
  nd : C.N.Nodup
  nn : ∀ x ∈ C.N, (x == ("__debug__" : Str)) = false ∧ (x == ("__classdict__" : Str)) = false
  sc : X.env.scope = C.sc
  kind : C.sc.kind = .function
  fn : ∀ x, C.fn x = true → X.fn x = true
  calm : C.hot = false → X.calm = true
  un : X.A.units + 100 < cLine
  fs : C.hot = false → ∀ x g, C.fs.lookup x = some g → FnG X F x g
  bs : ∀ x ∈ C.bs, X.mg x = none
  cs : ∀ x t, C.cs.lookup x = some t → (x == ("__debug__" : Str)) = false ∧ ∃ v u, X.mg x = some u ∧ RelV v u ∧ ∀ H φ E, Rep X.K H φ E t v
  xb : ∀ c ∈ C.xs, ∀ C', ClsAt X.K c C' → XB X.K c C'
  xp : ∀ c ∈ C.xs, ∀ d ∈ C.xs, ∀ C' D', ClsAt X.K c C' → ClsAt X.K d D' → PySem.W.subIn X.K (.ref C') (.ref D') = some (mch c d)
  xm : ∀ c ∈ C.xs, ∃ C', ClsAt X.K c C' ∧ X.mg (clsN c) = some (.ref C') ∧ (clsN c == ("__debug__" : Str)) = false
  rz : ∀ c ∈ C.rs, c ∈ C.xs ∧ ∀ C', ClsAt X.K c C' → XRz X.K c C'
  rm : C.hot = false → Room 2 X.A
def Ck.blk (C : Ck) (scope : Scope) : Ck := { C with sc := relS scope C.sc, fn := fun x => scope.names.lookup x == some .cell }
theorem EC.blk {C : Ck} {F : Fns} {X : Cx} (h : EC C F X) {scope : Scope} (hk : scope.kind = .function) (s : Shared) (H : Hp) (Ca : Addr) (cl : List (Str × Addr)) (fp : List Addr) : EC (C.blk scope) F (X.blk s H scope (compEnvC scope cl Ca X.env) fp) :=
  ⟨h.N, h.nd, h.nn, by show relS scope X.env.scope = relS scope C.sc; rw [h.sc], hk, fun _ h => h, h.calm, h.un, h.fs, h.bs, h.cs, h.xb, h.xp, h.xm, h.rz, h.rm⟩

def cold (C : Ck) : Bool := !C.hot
theorem cold_ok {C : Ck} (h : cold C = true) : C.hot = false := by simpa [cold] using h
def isNameE : Expr → Bool
  | .Name _ _ => true
  | _ => false
def isSubE : Expr → Bool
  | .Subscript _ _ _ => true
  | _ => false
def visC (C : Ck) (x : Str) : Bool := match C.sc.names.lookup x with
  | some .local => true
  | some .cell => true
  | some .free => true
  | _ => false
def locC (C : Ck) (x : Str) : Bool := match C.sc.names.lookup x with
  | some .local => true
  | some .cell => C.fn x
  | _ => false
def glC (C : Ck) (x : Str) : Bool := match C.sc.names.lookup x with
  | some .globalImplicit => true
  | _ => false
def isName (C : Ck) (i : Nat) : Expr → Bool
  | .Name x _ => decide (C.N[i]? = some x) && visC C x
  | _ => false
def isCst (C : Ck) (t : T) : Expr → Bool
  | .Constant k _ _ => match k, t with
    | .none, .non => true
    | .bool b, .bl b' => b == b'
    | .int i, .int i' => decide (i = i')
    | .str s, .str s' => decide (s = s')
    | _, _ => false
  | .Name x _ => glC C x && (match t with
    | .fn y g => cold C && decide (x = y) && decide (C.fs.lookup x = some g)
    | t => match C.cs.lookup x with
      | some u => T.beq u t
      | none => false)
  | _ => false
def bltC (C : Ck) (x : Str) (b : String) : Bool := decide (x = Str.ofString b) && C.bs.contains x && glC C x
def tyStr : Ty → String
  | .int => "int" | .bool => "bool" | .str => "str" | .tuple => "tuple" | .list => "list" | .dict => "dict" | .nonT => ""
def tyC (C : Ck) (t : Ty) : Expr → Bool
  | .Name x _ => !decide (t = .nonT) && bltC C x (tyStr t)
  | _ => false
def tysC (C : Ck) : List Ty → List Expr → Bool
  | [], [] => true
  | t :: ts, e :: es => tyC C t e && tysC C ts es
  | _, _ => false
def prB : PR → Option String
  | .len => some "len" | .sum => some "sum" | .min => some "min" | .max => some "max" | .all => some "all" | .any => some "any" | .abs => some "abs"
  | .min2 => some "min" | .max2 => some "max" | .sorted => some "sorted" | _ => none
def prT : PR → Option String
  | .tuple => some "tuple" | .list => some "list" | .int => some "int" | _ => none
def opC (o : BO) (p : Operator) : Bool := decide (boOf o = p)
def coC (o : CO) (p : CmpOp) : Bool := decide (coOf o = p)
def plainTest : Expr → Bool
  | .UnaryOp .Not _ _ => false
  | .BoolOp _ _ _ => false
  | .IfExp _ _ _ _ => false
  | .Compare _ _ _ _ => false
  | _ => true
def noSlice : Expr → Bool
  | .Slice _ _ _ _ => false
  | _ => true
def noSet : Expr → Bool
  | .Set _ _ _ => false
  | _ => true
def isTupE : Expr → Bool
  | .Tuple _ _ _ => true
  | _ => false

mutual
def okT (C : Ck) : Tg → Expr → Bool
  | .name i, e => match e with
    | .Name x _ => decide (C.N[i]? = some x) && locC C x
    | _ => false
  | .tup ts, e => cold C && match e with
    | .Tuple es _ _ => okTs C ts es && es.all plainArg
    | _ => false
def okTs (C : Ck) : List Tg → List Expr → Bool
  | [], es => match es with
    | [] => true
    | _ => false
  | t :: ts, es => match es with
    | e :: es => okT C t e && okTs C ts es
    | [] => false
end
def ownOf' (C : Ck) (tg : Tg) (scope : Scope) : List (Str × Nat) := tg.names.filterMap fun i => match C.N[i]? with
  | some x => some (x, i)
  | none => none

mutual
def okE (C : Ck) : CE → Expr → Bool
  | .slot i, e => isName C i e
  | .view i, e => isName C i e
  | .cst t, e => isCst C t e
  | .bin o a b, e => match e with
    | .BinOp x p y _ => opC o p && (okE C a x && okE C b y)
    | _ => false
  | .neg a, e => match e with
    | .UnaryOp .USub x _ => okE C a x
    | _ => false
  | .not a, e => match e with
    | .UnaryOp .Not x _ => okE C a x
    | _ => false
  | .and a b, e => match e with
    | .BoolOp .And [x, y] _ => okE C a x && okE C b y
    | .BoolOp .And (x :: y :: z :: r) pos => okE C a x && okE C b (.BoolOp .And (y :: z :: r) pos)
    | _ => false
  | .or a b, e => match e with
    | .BoolOp .Or [x, y] _ => okE C a x && okE C b y
    | .BoolOp .Or (x :: y :: z :: r) pos => okE C a x && okE C b (.BoolOp .Or (y :: z :: r) pos)
    | _ => false
  | .ite c a b, e => match e with
    | .IfExp t x y _ => okE C c t && (okE C a x && okE C b y)
    | _ => false
  | .cmp o a b, e => match e with
    | .Compare x [p] [y] _ => coC o p && (okE C a x && okE C b y)
    | _ => false
  | .isN k a, e => match e with
    | .Compare x [.Is] [.Constant .none _ _] _ => !k && okE C a x
    | .Compare x [.IsNot] [.Constant .none _ _] _ => k && okE C a x
    | _ => false
  | .isB k a b, e => match e with
    | .Compare x [.Is] [y] _ => !k && (okE C a x && okE C b y)
    | .Compare x [.IsNot] [y] _ => k && (okE C a x && okE C b y)
    | _ => false
  | .isin k a b, e => match e with
    | .Compare x [.In] [y] _ => !k && noSet y && (okE C a x && okE C b y)
    | .Compare x [.NotIn] [y] _ => k && noSet y && (okE C a x && okE C b y)
    | _ => false
  | .chain o o' a b c, e => match e with
    | .Compare x [p, p'] [y, z] _ => coC o p && coC o' p' && (okE C a x && (okE C b y && okE C c z))
    | _ => false
  | .call f es, e => cold C && match e with
    | .Call (.Name x _) (y :: r) [] _ => decide (C.fs.lookup x = some f) && glC C x && (y :: r).all plainArg && es.all strong && okA C es (y :: r)
    | _ => false
  | .prim p es, e => cold C && match e with
    | .Call (.Name x _) (y :: r) [] _ => (match prB p with | some b => bltC C x b | none => match prT p with | some b => bltC C x b | none => false) && (y :: r).all plainArg && okA C es (y :: r)
    | _ => false
  | .isinst a ts, e => match e with
    | .Call (.Name x _) [y, t] [] _ => bltC C x "isinstance" && plainArg y && okE C a y && (match ts, t with
      | [t'], .Name _ _ => tyC C t' t
      | ts, .Tuple es _ _ => tysC C ts es && decide (ts.length ≤ 100)
      | _, _ => false)
    | _ => false
  | .tup es, e => match e with
    | .Tuple xs _ _ => xs.all plainArg && es.all strong && decide (es.length ≤ 1000) && okA C es xs
    | _ => false
  | .lst es, e => match e with
    | .List xs _ => xs.all plainArg && es.all strong && decide (es.length ≤ 1000) && okA C es xs
    | _ => false
  | .sub a i, e => match e with
    | .Subscript x y _ => noSlice y && (okE C a x && okE C i y)
    | _ => false
  | .slice a lo hi, e => match e with
    | .Subscript x (.Slice l h none _) _ => okE C a x && (okO C lo l && okO C hi h)
    | _ => false
  | .comp elt tg it cond, e => cold C && match e with
    | .ListComp x [⟨t, i, ifs, 0⟩] scope _ => strong elt && noSet i && blkC C.N C.sc scope (ownOf' C tg scope) && okI C it t i && okT (C.blk scope) tg t && okC (C.blk scope) cond ifs && okE (C.blk scope) elt x && decide ((ownOf' C tg scope).map (·.2) = tg.names)
    | _ => false
  | .dnew _, e => match e with
    | .Dict [] [] _ => true
    | _ => false
  | .rgL1 k a, e => cold C && match e with
    | .Call (.Name f _) [.Call (.Name r _) [x] [] _] [] _ => bltC C f (if k then "tuple" else "list") && bltC C r "range" && plainArg x && okE C a x
    | _ => false
  | .rgL2 k a b, e => cold C && match e with
    | .Call (.Name f _) [.Call (.Name r _) [x, y] [] _] [] _ => bltC C f (if k then "tuple" else "list") && bltC C r "range" && plainArg x && plainArg y && (okE C a x && okE C b y)
    | _ => false
  | .fld a f cs, e => match e with
    | .Attribute x n _ => isNameE x && decide (n = f) && cs.all C.xs.contains && okE C a x
    | _ => false
  | .isexc a k cs, e => match e with
    | .Call (.Name x _) [y, .Name t _] [] _ => bltC C x "isinstance" && plainArg y && cs.all C.xs.contains && (match k with
      | some d => decide (t = clsN d) && glC C t && C.xs.contains d
      | none => bltC C t "ValueError") && okE C a y
    | _ => false
  | .lidx a b, e => match e with
    | .Call (.Attribute o m ap) [y] [] cp => decide (m = ("index" : Str)) && decide (ap.endLine = cp.line) && isNameE o && plainArg y && (okE C a o && okE C b y)
    | _ => false
  | .lcnt a b, e => match e with
    | .Call (.Attribute o m ap) [y] [] cp => decide (m = ("count" : Str)) && decide (ap.endLine = cp.line) && isNameE o && plainArg y && (okE C a o && okE C b y)
    | _ => false
  | .disp k bs es, e => match k, e with
    | true, .Tuple xs _ _ => decide (es.length ≤ 1000) && okD C es bs xs
    | false, .List xs _ => decide (es.length ≤ 1000) && okD C es bs xs
    | _, _ => false
  | .inv a, e => match e with
    | .UnaryOp .Invert x _ => okE C a x
    | _ => false
  | .rev a, e => match e with
    | .Subscript x (.Slice none none (some (.UnaryOp .USub (.Constant (.int 1) _ _) _)) _) _ => okE C a x
    | _ => false
  | .bad, _ => true
/-- the parts of a starred display -/
def okD (C : Ck) : List CE → List Bool → List Expr → Bool
  | [], bs, es => match bs, es with
    | [], [] => true
    | _, _ => false
  | c :: cs, bs, es => match bs, es with
    | true :: bs, .Starred e _ :: es => okE C c e && okD C cs bs es
    | false :: bs, e :: es => plainArg e && strong c && okE C c e && okD C cs bs es
    | _, _ => false
def okA (C : Ck) : List CE → List Expr → Bool
  | [], es => match es with
    | [] => true
    | _ => false
  | c :: cs, es => match es with
    | e :: es => okE C c e && okA C cs es
    | [] => false
def okO (C : Ck) : Option CE → Option Expr → Bool
  | none, e => match e with
    | none => true
    | _ => false
  | some c, e => match e with
    | some e => okE C c e
    | none => false
def okC (C : Ck) : Option CE → List Expr → Bool
  | none, es => match es with
    | [] => true
    | _ => false
  | some c, es => match es with
    | [e] => okE C c e
    | _ => false
def okI (C : Ck) : It → Expr → Expr → Bool
  | .seq a, _, e => okE C a e
  | .rng1 a, _, e => match e with
    | .Call (.Name x _) [y] [] _ => bltC C x "range" && plainArg y && okE C a y
    | _ => false
  | .rng2 a b, _, e => match e with
    | .Call (.Name x _) [y, z] [] _ => bltC C x "range" && plainArg y && plainArg z && (okE C a y && okE C b z)
    | _ => false
  | .rng3 a b c, _, e => match e with
    | .Call (.Name x _) [y, z, u] [] _ => bltC C x "range" && plainArg y && plainArg z && plainArg u && (okE C a y && (okE C b z && okE C c u))
    | _ => false
  | .enum a, t, e => match e with
    | .Call (.Name x _) [y] [] _ => isTupE t && bltC C x "enumerate" && plainArg y && okE C a y
    | _ => false
  | .zip a b, t, e => match e with
    | .Call (.Name x _) [y, z] [] _ => isTupE t && bltC C x "zip" && plainArg y && plainArg z && (okE C a y && okE C b z)
    | _ => false
end

/-! ### that it does -/
section
variable {C : Ck} {F : Fns} {X : Cx}
theorem visC_ok (h : EC C F X) {x : Str} (v : visC C x = true) : Vis X.env.scope x := by
  unfold visC at v
  unfold Vis
  rw [h.sc]
  split at v
  · rename_i e; exact .inl e
  · rename_i e; exact .inr (.inl e)
  · rename_i e; exact .inr (.inr e)
  · cases v
theorem locC_ok (h : EC C F X) {x : Str} (v : locC C x = true) : Loc X.env.scope x ∧ (X.fn x = true ∨ X.env.scope.names.lookup x = some .local) := by
  unfold locC at v
  unfold L2.Loc
  rw [h.sc]
  split at v
  · rename_i e; exact ⟨.inl e, .inr e⟩
  · rename_i e; exact ⟨.inr e, .inl (h.fn x v)⟩
  · cases v
theorem glC_ok (h : EC C F X) {x : Str} (v : glC C x = true) : Gl X x := by
  unfold glC at v
  unfold Gl Env.kindOf
  rw [h.sc]
  split at v
  · rename_i e; exact e
  · cases v
theorem mem_N {i : Nat} {x : Str} (h : C.N[i]? = some x) : x ∈ C.N := List.mem_of_getElem? h
/-- an expression and its core text -/
structure OKE (X : Cx) (F : Fns) (e : Expr) (c : CE) : Prop where
  pe : PE X e (tE X.K F c)
  pt : PT X e (tT X.K F c)
  pw : ∀ op es pos, e = .BoolOp op es pos → PW X e (tT X.K F c)
theorem oke_of {e : Expr} {c : CE} (h : PE X e (tE X.K F c) ∧ PT X e (tT X.K F c)) (n : ∀ op es pos, e ≠ .BoolOp op es pos) : OKE X F e c := ⟨h.1, h.2, fun op es pos z => absurd z (n op es pos)⟩
theorem oke_plain {e : Expr} {c : CE} (h : PE X e (tE X.K F c)) (p : plainTest e = true) : OKE X F e c := by
  refine ⟨h, s_test h fun whole => ?_, fun op es pos z => by subst z; cases p⟩
  cases e with
  | UnaryOp op a pos => cases op <;> first | rfl | cases p
  | BoolOp op a pos => cases p
  | IfExp a b c pos => cases p
  | Compare a b c pos => cases p
  | _ => rfl
theorem name_var (h : EC C F X) {i : Nat} {e : Expr} (v : isName C i e = true) : ∃ x pos, e = .Name x pos ∧ PE X e (tVar i) := by
  unfold isName at v
  split at v
  · rename_i x pos
    simp only [Bool.and_eq_true, decide_eq_true_eq] at v
    exact ⟨x, pos, rfl, pe_var (by rw [h.N]; exact v.1) (visC_ok h v.2) (h.nn x (mem_N v.1)).1 (h.nn x (mem_N v.1)).2⟩
  · cases v
theorem cst_ok (h : EC C F X) {t : T} {e : Expr} (v : isCst C t e = true) : OKE X F e (.cst t) := by
  unfold isCst at v
  split at v
  · split at v
    · exact oke_plain (s_cst pe_non fun H φ E => by simp only [Rep]) rfl
    · have := eq_of_beq v
      subst this
      exact oke_plain (s_cst pe_bl fun H φ E => by simp only [Rep]) rfl
    · have := of_decide_eq_true v
      subst this
      exact oke_plain (s_cst pe_int fun H φ E => by simp only [Rep]) rfl
    · have := of_decide_eq_true v
      subst this
      exact oke_plain (s_cst pe_str fun H φ E => by simp only [Rep]) rfl
    · cases v
  · rename_i x pos
    simp only [Bool.and_eq_true] at v
    obtain ⟨v1, v2⟩ := v
    split at v2
    · rename_i y g
      simp only [Bool.and_eq_true, decide_eq_true_eq] at v2
      obtain ⟨⟨vc, rfl⟩, v3⟩ := v2
      obtain ⟨n, fa, fd, ps, _, _, hm, _, _, hd, hns⟩ := h.fs (cold_ok vc) x g v3
      exact oke_plain (s_cst (v := .ref fa) (pe_glob (glC_ok h v1) hm rfl hd) fun H φ E => by simp only [Rep]; exact ⟨fa, rfl, hns⟩) rfl
    · split at v2
      · rename_i u eu
        have := T.beq_eq _ _ v2
        subst this
        obtain ⟨hd, w, u', hm, rv, rr⟩ := h.cs x u eu
        exact oke_plain (s_cst (pe_glob (glC_ok h v1) hm rv hd) rr) rfl
      · cases v2
  · cases v
theorem blt_ok (h : EC C F X) {x : Str} {b : String} (v : bltC C x b = true) : x = Str.ofString b ∧ X.mg x = none ∧ Gl X x := by
  unfold bltC at v
  simp only [Bool.and_eq_true, decide_eq_true_eq, List.contains_iff_mem] at v
  exact ⟨v.1.1, h.bs x v.1.2, glC_ok h v.2⟩
theorem opC_ok {o : BO} {p : Operator} (h : opC o p = true) : boOf o = p := of_decide_eq_true h
theorem coC_ok {o : CO} {p : CmpOp} (h : coC o p = true) : coOf o = p := of_decide_eq_true h
theorem bool_one {op : BoolOp} {b : Expr} {c : CE} {pos : Pos} (h : OKE X F b c) : PE X (.BoolOp op [b] pos) (tE X.K F c) ∧ PW X (.BoolOp op [b] pos) (tT X.K F c) := by
  refine ⟨pe_one h.1, ?_⟩
  cases op with
  | And => exact pw_and1 h.2
  | Or => exact pw_or1 h.2
/-- a test by IfExp -/
theorem t_ite {a b c : Expr} {ca cb cc : CE} {pos : Pos} (hc : PT X c (tT X.K F cc)) (ha : PT X a (tT X.K F ca)) (hb : PT X b (tT X.K F cb)) : PT X (.IfExp c a b pos) (tT X.K F (.ite cc ca cb)) := by
  refine ⟨fun pins s σ H Q I ⟨f, w, ρ, S, sr, t, S', e, bb, tb, q⟩ => ?_⟩
  simp only [evalE] at e
  obtain ⟨⟨x, S1⟩, e1, e⟩ := Res.bind_ok e
  obtain ⟨k, e2, e⟩ := Res.bind_ok e
  show wpAny _ _ (isTrue c X.env (eval c X.env) >>= fun r => if r = true then isTrue a X.env (eval a X.env) else isTrue b X.env (eval b X.env)) _ _ _
  have q0 : tT X.K F cc σ H (fun b' H1 => b' = k ∧ SR X.K f w σ H1 ρ S1 ∧ Kp w.φ H H1) := ⟨f, w, ρ, S, sr, x, S1, e1, k, Res.of_ok e2, fun H1 s1 k1 => ⟨rfl, s1, k1⟩⟩
  refine wpAny_bind (thn (hc.run pins s σ H _ I q0) fun b' s1 h1 => ?_)
  obtain ⟨H1, I1, eb, sr1, k1⟩ := h1
  subst eb
  cases b' with
  | true => exact ha.run pins s1 σ H1 Q I1 ⟨f, w, ρ, S1, sr1, t, S', e, bb, tb, fun H2 s2 k2 => q H2 s2 (k1.trans k2)⟩
  | false => exact hb.run pins s1 σ H1 Q I1 ⟨f, w, ρ, S1, sr1, t, S', e, bb, tb, fun H2 s2 k2 => q H2 s2 (k1.trans k2)⟩
end
end Ip

/-! Ip12: the check is sound, for expressions. -/
namespace Ip
open PySem PySem.Spec PyProof.Rows L2

theorem tyStr_eq (t : Ty) (h : t ≠ .nonT) : tyStr t = tyName t := by cases t <;> first | rfl | exact absurd rfl h
theorem boot_ty (t : Ty) (h : t ≠ .nonT) : bootBuiltins (Str.ofString (tyStr t)) = some (.type (tyName t)) := by cases t <;> first | exact absurd rfl h | decide +kernel
theorem ty_nn (t : Ty) : Str.ofString (tyStr t) ≠ ("__name__" : Str) ∧ (Str.ofString (tyStr t) == ("__debug__" : Str)) = false := by cases t <;> decide +kernel
theorem prB_boot {p : PR} {b : String} (h : prB p = some b) : bootBuiltins (Str.ofString b) = some (.builtin b) ∧ Str.ofString b ≠ ("__name__" : Str) ∧ (Str.ofString b == ("__debug__" : Str)) = false := by
  cases p <;> simp only [prB, Option.some.injEq, reduceCtorEq] at h <;> subst h <;> decide +kernel
theorem prT_boot {p : PR} {b : String} (h : prT p = some b) : bootBuiltins (Str.ofString b) = some (.type b) ∧ Str.ofString b ≠ ("__name__" : Str) ∧ (Str.ofString b == ("__debug__" : Str)) = false := by
  cases p <;> simp only [prT, Option.some.injEq, reduceCtorEq] at h <;> subst h <;> decide +kernel
section
variable {C : Ck} {F : Fns} {X : Cx}
theorem prB_call (hc : X.calm = true) (hu : X.A.units + 64 < cLine) {p : PR} {b : String} (h : prB p = some b) : CallR X (.builtin b) (rPr X.K p) := by
  cases p <;> simp only [prB, Option.some.injEq, reduceCtorEq] at h <;> subst h
  · exact cb_len
  · exact cb_sum hc
  · exact cb_min hc hu
  · exact cb_max hc
  · exact cb_all hc
  · exact cb_any hc
  · exact cb_sorted hc hu
  · exact cb_abs
  · exact cb_min2 hc
  · exact cb_max2 hc
theorem prT_call {p : PR} {b : String} (h : prT p = some b) : CallR X (.type b) (rPr X.K p) := by
  cases p <;> simp only [prT, Option.some.injEq, reduceCtorEq] at h <;> subst h
  · exact cb_tuple
  · exact cb_list
  · exact cb_int
def tTys (ts : List Ty) : TA := fun _ H Q => Q (ts.map fun t => V.ty (tyName t)) H
theorem ty_pe (h : EC C F X) {t : Ty} {e : Expr} (v : tyC C t e = true) : PE X e (tC (.ty (tyName t))) ∧ plainArg e = true ∧ ∃ x p, e = .Name x p := by
  unfold tyC at v
  split at v
  · rename_i x p
    simp only [Bool.and_eq_true, Bool.not_eq_true', decide_eq_false_iff_not] at v
    obtain ⟨rfl, hm, hg⟩ := blt_ok h v.2
    exact ⟨pe_bltn hg hm (boot_ty t v.1) rfl (ty_nn t).1 (ty_nn t).2, rfl, _, _, rfl⟩
  · cases v
theorem tys_pa (h : EC C F X) : ∀ {ts : List Ty} {es : List Expr}, tysC C ts es = true → PA X es (tTys ts) ∧ es.all plainArg = true
  | [], [], _ => ⟨pa_nil, rfl⟩
  | [], _ :: _, v => by simp [tysC] at v
  | _ :: _, [], v => by simp [tysC] at v
  | t :: ts, e :: es, v => by
    simp only [tysC, Bool.and_eq_true] at v
    obtain ⟨h1, h2, _⟩ := ty_pe h v.1
    obtain ⟨h3, h4⟩ := tys_pa h v.2
    refine ⟨⟨fun pos pins s σ H Q I q => (pa_cons h1 h3 (star_plain h2)).run pos pins s σ H Q I q⟩, by simp [h2, h4]⟩
theorem s_isinstT {a : Expr} {ca : CE} {ts : List Ty} {es : List Expr} {x : Str} {pp pt pos : Pos} {k : Nat} (hg : Gl X x) (hm : X.mg x = none) (hv : bootBuiltins x = some (.builtin "isinstance")) (hn : x ≠ "__name__") (hdb : (x == ("__debug__" : Str)) = false)
    (ha : PE X a (tE X.K F ca)) (hp : plainArg a = true) (ht : PA X es (tTys ts)) (hl : ts.length ≤ 100) : PE X (.Call (.Name x pp) [a, .Tuple es k pt] [] pos) (tE X.K F (.isinst ca ts)) :=
  (pe_callB call_isiT hg hm hv (pa_cons ha (pa_cons (pe_tup ht) pa_nil (star_plain rfl)) (star_plain hp)) hn hdb (star_plain hp) (star_any rfl)).mono fun σ H Q ⟨f, w, ρ, S, s, t', S', e, q⟩ => by
    simp only [evalE] at e
    obtain ⟨⟨t, S1⟩, e1, e⟩ := Res.bind_ok e
    obtain ⟨z, e2, e⟩ := Res.bind_ok e
    cases e
    refine ⟨f, w, ρ, S, s, _, _, e1, fun v H1 s1 k1 r1 => ⟨by simp [sizeLine_eq]; omega, fun p hp' => ?_⟩⟩
    have k2 : Kp w.φ H1 (upd H1 p (.tup (ts.map fun t => V.ty (tyName t)))) := Kp.new hp'
    refine ⟨v, p, _, .type (tyName z), ts.map fun t => Value.type (tyName t), _, rfl, upd_same .., paired_ty ts, tyx_of (s1.new hp').st.toDom (r1.lr.after s1.st.toDom k2) (Res.of_ok e2), kit_any (X := X) z ts, ?_⟩
    exact q _ _ (s1.new hp') (k1.trans k2) (.rep (by simp only [Rep]))
mutual
theorem okT_ok (h : EC C F X) : ∀ (tg : Tg) (e : Expr), okT C tg e = true → PG X e (gT X.K tg)
  | .name i, e, v => by
    simp only [okT] at v
    split at v
    · rename_i x p
      simp only [Bool.and_eq_true, decide_eq_true_eq] at v
      obtain ⟨h1, h2⟩ := locC_ok h v.2
      exact g_name (by rw [h.N]; exact h.nd) (by rw [h.N]; exact v.1) h1 h2
    · cases v
  | .tup ts, e, v => by
    simp only [okT] at v
    have vc := (Bool.and_eq_true_iff.mp v).1
    replace v := (Bool.and_eq_true_iff.mp v).2
    split at v
    · rename_i es k p
      simp only [Bool.and_eq_true] at v
      obtain ⟨h1, h2⟩ := okTs_ok h ts es v.1
      exact g_tup (h.calm (cold_ok vc)) (h1 v.2) v.2 h2
    · cases v
theorem okTs_ok (h : EC C F X) : ∀ (ts : List Tg) (es : List Expr), okTs C ts es = true → (es.all plainArg = true → PGs X es (gTs X.K ts)) ∧ es.length = ts.length
  | [], es, v => by
    simp only [okTs] at v
    split at v
    · exact ⟨fun _ => g_nil, rfl⟩
    · cases v
  | t :: ts, es, v => by
    simp only [okTs] at v
    split at v
    · rename_i e es
      simp only [Bool.and_eq_true] at v
      have h1 := okT_ok h t e v.1
      obtain ⟨h2, h3⟩ := okTs_ok h ts es v.2
      refine ⟨fun p => ?_, by simp [h3]⟩
      simp only [List.all_cons, Bool.and_eq_true] at p
      exact g_cons h1 (h2 p.2) p.1
    · cases v
end
theorem noSet_ok {e : Expr} (h : noSet e = true) (env : Env) : ∀ x, foldedSetIterable e env x = pure x := by
  intro x
  cases e <;> first | rfl | cases h
theorem noSet_mark {op : CmpOp} {e : Expr} (h : noSet e = true) : behindInMarks op e = false := by
  cases e <;> first | rfl | cases h
theorem noSlice_ok {e : Expr} (h : noSlice e = true) : ∀ lo hi st p, e ≠ .Slice lo hi st p := by
  rintro lo hi st p rfl
  cases h
theorem nm_isinst : bootBuiltins (Str.ofString "isinstance") = some (.builtin "isinstance") ∧ Str.ofString "isinstance" ≠ ("__name__" : Str) ∧ (Str.ofString "isinstance" == ("__debug__" : Str)) = false := by decide +kernel
theorem nm_ve : bootBuiltins (Str.ofString "ValueError") = some (.type "ValueError") ∧ Str.ofString "ValueError" ≠ ("__name__" : Str) ∧ (Str.ofString "ValueError" == ("__debug__" : Str)) = false := by decide +kernel
theorem all_mem {cs xs : List Nat} (h : cs.all xs.contains = true) {c : Nat} (hc : c ∈ cs) : c ∈ xs := by simpa using List.all_eq_true.mp h c hc
mutual
theorem okE_ok : ∀ (c : CE) (C : Ck) (X : Cx) (e : Expr), EC C F X → okE C c e = true → OKE X F e c
  | .slot i, C, X, e, h, v => by
    simp only [okE] at v
    obtain ⟨x, p, rfl, hv⟩ := name_var h v
    exact oke_plain (s_slot hv) rfl
  | .view i, C, X, e, h, v => by
    simp only [okE] at v
    obtain ⟨x, p, rfl, hv⟩ := name_var h v
    exact oke_plain (s_view hv) rfl
  | .cst t, C, X, e, h, v => by
    simp only [okE] at v
    exact cst_ok h v
  | .bin o a b, C, X, e, h, v => by
    simp only [okE] at v
    split at v
    · rename_i x p y pos
      simp only [Bool.and_eq_true] at v
      have := opC_ok v.1
      subst this
      exact oke_plain (s_bin (okE_ok a C X x h v.2.1).1 (okE_ok b C X y h v.2.2).1) rfl
    · cases v
  | .neg a, C, X, e, h, v => by
    simp only [okE] at v
    split at v
    · exact oke_plain (s_neg (okE_ok a C X _ h v).1) rfl
    · cases v
  | .not a, C, X, e, h, v => by
    simp only [okE] at v
    split at v
    · exact oke_of ⟨s_not (okE_ok a C X _ h v).1, t_not (okE_ok a C X _ h v).2⟩ (by rintro _ _ _ ⟨⟩)
    · cases v
  | .and a b, C, X, e, h, v => by
    simp only [okE] at v
    split at v
    · rename_i x y pos
      simp only [Bool.and_eq_true] at v
      have h1 := okE_ok a C X x h v.1
      have h2 := okE_ok b C X y h v.2
      exact ⟨s_and h1.1 (bool_one h2).1, (w_and h1.2 (bool_one h2).2).pt, fun _ _ _ _ => w_and h1.2 (bool_one h2).2⟩
    · rename_i x y z r pos
      simp only [Bool.and_eq_true] at v
      have h1 := okE_ok a C X x h v.1
      have h2 := okE_ok b C X _ h v.2
      exact ⟨s_and h1.1 h2.1, (w_and h1.2 (h2.3 .And _ _ rfl)).pt, fun _ _ _ _ => w_and h1.2 (h2.3 .And _ _ rfl)⟩
    · cases v
  | .or a b, C, X, e, h, v => by
    simp only [okE] at v
    split at v
    · rename_i x y pos
      simp only [Bool.and_eq_true] at v
      have h1 := okE_ok a C X x h v.1
      have h2 := okE_ok b C X y h v.2
      exact ⟨s_or h1.1 (bool_one h2).1, (w_or h1.2 (bool_one h2).2).pt, fun _ _ _ _ => w_or h1.2 (bool_one h2).2⟩
    · rename_i x y z r pos
      simp only [Bool.and_eq_true] at v
      have h1 := okE_ok a C X x h v.1
      have h2 := okE_ok b C X _ h v.2
      exact ⟨s_or h1.1 h2.1, (w_or h1.2 (h2.3 .Or _ _ rfl)).pt, fun _ _ _ _ => w_or h1.2 (h2.3 .Or _ _ rfl)⟩
    · cases v
  | .ite c a b, C, X, e, h, v => by
    simp only [okE] at v
    split at v
    · simp only [Bool.and_eq_true] at v
      have h1 := okE_ok c C X _ h v.1
      have h2 := okE_ok a C X _ h v.2.1
      have h3 := okE_ok b C X _ h v.2.2
      exact oke_of ⟨s_ite h1.2 h2.1 h3.1, t_ite h1.2 h2.2 h3.2⟩ (by rintro _ _ _ ⟨⟩)
    · cases v
  | .cmp o a b, C, X, e, h, v => by
    simp only [okE] at v
    split at v
    · simp only [Bool.and_eq_true] at v
      have := coC_ok v.1
      subst this
      exact oke_of (s_cmp (by have := h.un; omega) o (okE_ok a C X _ h v.2.1).1 (okE_ok b C X _ h v.2.2).1) (by rintro _ _ _ ⟨⟩)
    · cases v
  | .isN k a, C, X, e, h, v => by
    simp only [okE] at v
    split at v
    · simp only [Bool.and_eq_true, Bool.not_eq_true'] at v
      rw [v.1]
      exact oke_of (s_isN (okE_ok a C X _ h v.2).1) (by rintro _ _ _ ⟨⟩)
    · simp only [Bool.and_eq_true] at v
      rw [v.1]
      exact oke_of (s_notN (okE_ok a C X _ h v.2).1) (by rintro _ _ _ ⟨⟩)
    · cases v
  | .isB k a b, C, X, e, h, v => by
    simp only [okE] at v
    split at v
    · simp only [Bool.and_eq_true, Bool.not_eq_true'] at v
      rw [v.1]
      exact oke_of (s_isB (okE_ok a C X _ h v.2.1).1 (okE_ok b C X _ h v.2.2).1) (by rintro _ _ _ ⟨⟩)
    · simp only [Bool.and_eq_true] at v
      rw [v.1]
      exact oke_of (s_isnB (okE_ok a C X _ h v.2.1).1 (okE_ok b C X _ h v.2.2).1) (by rintro _ _ _ ⟨⟩)
    · cases v
  | .isin k a b, C, X, e, h, v => by
    simp only [okE] at v
    split at v
    · simp only [Bool.and_eq_true, Bool.not_eq_true'] at v
      rw [v.1.1]
      exact oke_of (s_in (by have := h.un; omega) (noSet_mark v.1.2) (okE_ok a C X _ h v.2.1).1 (okE_ok b C X _ h v.2.2).1) (by rintro _ _ _ ⟨⟩)
    · simp only [Bool.and_eq_true] at v
      rw [v.1.1]
      exact oke_of (s_nin (by have := h.un; omega) (noSet_mark v.1.2) (okE_ok a C X _ h v.2.1).1 (okE_ok b C X _ h v.2.2).1) (by rintro _ _ _ ⟨⟩)
    · cases v
  | .chain o o' a b c, C, X, e, h, v => by
    simp only [okE] at v
    split at v
    · simp only [Bool.and_eq_true] at v
      have h1 := coC_ok v.1.1
      have h2 := coC_ok v.1.2
      subst h1 h2
      exact oke_of (s_chain (by have := h.un; omega) o o' (okE_ok a C X _ h v.2.1).1 (okE_ok b C X _ h v.2.2.1).1 (okE_ok c C X _ h v.2.2.2).1) (by rintro _ _ _ ⟨⟩)
    · cases v
  | .call f es, C, X, e, h, v => by
    simp only [okE] at v
    have vc := (Bool.and_eq_true_iff.mp v).1
    replace v := (Bool.and_eq_true_iff.mp v).2
    split at v
    · rename_i x pp y r pos
      simp only [Bool.and_eq_true, decide_eq_true_eq] at v
      obtain ⟨⟨⟨⟨v1, v2⟩, v3⟩, v4⟩, v5⟩ := v
      obtain ⟨n, fa, fd, ps, FO, rm, hm, hk, hb, hd, _⟩ := h.fs (cold_ok vc) x f v1
      exact oke_plain (s_call FO rm (glC_ok h v2) hm hk hb ((okA_ok es C X _ h v5).1 v4 v3) hd v3) rfl
    · cases v
  | .prim p es, C, X, e, h, v => by
    simp only [okE] at v
    have vc := (Bool.and_eq_true_iff.mp v).1
    replace v := (Bool.and_eq_true_iff.mp v).2
    split at v
    · rename_i x pp y r pos
      simp only [Bool.and_eq_true] at v
      obtain ⟨⟨v1, v3⟩, v5⟩ := v
      have hA := (okA_ok es C X _ h v5).2 v3
      split at v1
      · rename_i b hb
        obtain ⟨rfl, hm, hg⟩ := blt_ok h v1
        obtain ⟨h1, h2, h3⟩ := prB_boot hb
        exact oke_plain (s_primB (prB_call (h.calm (cold_ok vc)) (by have := h.un; omega) hb) hg hm h1 hA h2 h3 v3) rfl
      · split at v1
        · rename_i b hb
          obtain ⟨rfl, hm, hg⟩ := blt_ok h v1
          obtain ⟨h1, h2, h3⟩ := prT_boot hb
          exact oke_plain (s_primT (prT_call hb) hg hm h1 hA h2 h3 v3) rfl
        · cases v1
    · cases v
  | .isinst a ts, C, X, e, h, v => by
    simp only [okE] at v
    split at v
    · rename_i x pp y t pos
      simp only [Bool.and_eq_true] at v
      obtain ⟨⟨⟨v1, v2⟩, v3⟩, v4⟩ := v
      obtain ⟨rfl, hm, hg⟩ := blt_ok h v1
      have ha := (okE_ok a C X _ h v3).1
      split at v4
      · rename_i t' n1 n2
        obtain ⟨h1, _, _⟩ := ty_pe h v4
        exact oke_plain (s_isinst1 hg hm nm_isinst.1 nm_isinst.2.1 nm_isinst.2.2 ha v2 h1) rfl
      · simp only [Bool.and_eq_true, decide_eq_true_eq] at v4
        obtain ⟨h1, h2⟩ := tys_pa h v4.1
        exact oke_plain (s_isinstT hg hm nm_isinst.1 nm_isinst.2.1 nm_isinst.2.2 ha v2 h1 v4.2) rfl
      · cases v4
    · cases v
  | .tup es, C, X, e, h, v => by
    simp only [okE] at v
    split at v
    · simp only [Bool.and_eq_true, decide_eq_true_eq] at v
      exact oke_plain (s_tup ((okA_ok es C X _ h v.2).1 v.1.1.2 v.1.1.1) v.1.2) rfl
    · cases v
  | .disp k bs es, C, X, e, h, v => by
    simp only [okE] at v
    split at v
    · simp only [Bool.and_eq_true, decide_eq_true_eq] at v
      exact oke_plain (s_dispT (okD_ok es bs C X _ h v.2)) rfl
    · simp only [Bool.and_eq_true, decide_eq_true_eq] at v
      exact oke_plain (s_dispL (okD_ok es bs C X _ h v.2)) rfl
    · cases v
  | .inv a, C, X, e, h, v => by
    simp only [okE] at v
    split at v
    · exact oke_plain (s_inv (okE_ok a C X _ h v).1) rfl
    · cases v
  | .rev a, C, X, e, h, v => by
    simp only [okE] at v
    split at v
    · exact oke_plain (s_rev (okE_ok a C X _ h v).1) rfl
    · cases v
  | .lst es, C, X, e, h, v => by
    simp only [okE] at v
    split at v
    · simp only [Bool.and_eq_true, decide_eq_true_eq] at v
      exact oke_plain (s_lst ((okA_ok es C X _ h v.2).1 v.1.1.2 v.1.1.1) v.1.2) rfl
    · cases v
  | .sub a i, C, X, e, h, v => by
    simp only [okE] at v
    split at v
    · simp only [Bool.and_eq_true] at v
      exact oke_plain (s_sub (by have := h.un; omega) (okE_ok a C X _ h v.2.1).1 (okE_ok i C X _ h v.2.2).1 (noSlice_ok v.1)) rfl
    · cases v
  | .slice a lo hi, C, X, e, h, v => by
    simp only [okE] at v
    split at v
    · simp only [Bool.and_eq_true] at v
      exact oke_plain (s_slice (okE_ok a C X _ h v.1).1 (okO_ok lo C X _ h v.2.1) (okO_ok hi C X _ h v.2.2)) rfl
    · cases v
  | .comp elt tg it cond, C, X, e, h, v => by
    simp only [okE] at v
    have vc := (Bool.and_eq_true_iff.mp v).1
    replace v := (Bool.and_eq_true_iff.mp v).2
    split at v
    · rename_i x t i ifs scope pos
      simp only [Bool.and_eq_true, decide_eq_true_eq] at v
      obtain ⟨⟨⟨⟨⟨⟨⟨v1, v2⟩, v3⟩, v4⟩, v5⟩, v6⟩, v7⟩, v8⟩ := v
      have bk := blkOk_by v3
      refine oke_plain (s_comp v1 (fun n hn => ?_) (fun n hn => ?_) (h.calm (cold_ok vc)) (by rw [h.N]; exact h.nd) (okI_ok it C X t i h v4) (by rw [h.N, h.sc]; exact bk) (fun s H Ca cl fp => ?_) (fun s H Ca cl fp => ?_) (fun s H Ca cl fp => ?_) (noSet_ok v2 _)) rfl
      · rw [← v8]; exact hn
      · rw [v8]; exact hn
      · exact okT_ok (h.blk bk.kind s H Ca cl fp) tg t v5
      · exact okC_ok cond _ _ ifs (h.blk bk.kind s H Ca cl fp) v6
      · exact (okE_ok elt _ _ x (h.blk bk.kind s H Ca cl fp) v7).1
    · cases v
  | .dnew _, C, X, e, h, v => by
    simp only [okE] at v
    split at v
    · exact oke_plain s_dnew rfl
    · cases v
  | .rgL1 k a, C, X, e, h, v => by
    simp only [okE] at v
    have vc := (Bool.and_eq_true_iff.mp v).1
    replace v := (Bool.and_eq_true_iff.mp v).2
    split at v
    · simp only [Bool.and_eq_true] at v
      obtain ⟨⟨⟨v1, v2⟩, v3⟩, v4⟩ := v
      obtain ⟨rfl, hm, hg⟩ := blt_ok h v1
      obtain ⟨rfl, hm2, hg2⟩ := blt_ok h v2
      exact oke_plain (s_rgL1 (h.calm (cold_ok vc)) hg2 hm2 hg hm (okE_ok a C X _ h v4).1 v3) rfl
    · cases v
  | .rgL2 k a b, C, X, e, h, v => by
    simp only [okE] at v
    have vc := (Bool.and_eq_true_iff.mp v).1
    replace v := (Bool.and_eq_true_iff.mp v).2
    split at v
    · simp only [Bool.and_eq_true] at v
      obtain ⟨⟨⟨⟨v1, v2⟩, v3⟩, v3'⟩, v4, v5⟩ := v
      obtain ⟨rfl, hm, hg⟩ := blt_ok h v1
      obtain ⟨rfl, hm2, hg2⟩ := blt_ok h v2
      exact oke_plain (s_rgL2 (h.calm (cold_ok vc)) hg2 hm2 hg hm (okE_ok a C X _ h v4).1 v3 (okE_ok b C X _ h v5).1 v3') rfl
    · cases v
  | .fld a f cs, C, X, e, h, v => by
    simp only [okE] at v
    split at v
    · rename_i x n pos
      simp only [Bool.and_eq_true, decide_eq_true_eq] at v
      obtain ⟨⟨⟨v1, rfl⟩, v3⟩, v4⟩ := v
      refine oke_plain (s_fld (okE_ok a C X _ h v4).1 ?_ fun c hc C' hC => h.xb c (all_mem v3 hc) C' hC) rfl
      cases x <;> first | rfl | cases v1
    · cases v
  | .isexc a k cs, C, X, e, h, v => by
    simp only [okE] at v
    split at v
    · rename_i x p1 y t p2 pos
      simp only [Bool.and_eq_true] at v
      obtain ⟨⟨⟨⟨v1, v2⟩, v3⟩, v4⟩, v5⟩ := v
      obtain ⟨rfl, hm, hg⟩ := blt_ok h v1
      have ha := (okE_ok a C X _ h v5).1
      cases k with
      | none =>
        obtain ⟨rfl, hm2, hg2⟩ := blt_ok h v4
        exact oke_plain (s_isexc hg hm nm_isinst.1 nm_isinst.2.1 nm_isinst.2.2 ha v2 (pe_bltn (v := .ty "ValueError") hg2 hm2 nm_ve.1 rfl nm_ve.2.1 nm_ve.2.2) (fun u r => r) fun c hc C' hC => ⟨h.xb c (all_mem v3 hc) C' hC, (h.xb c (all_mem v3 hc) C' hC).kitV⟩) rfl
      | some d =>
        simp only [Bool.and_eq_true, decide_eq_true_eq] at v4
        obtain ⟨⟨rfl, v6⟩, v7⟩ := v4
        have hd : d ∈ C.xs := by simpa using v7
        obtain ⟨D, hD, hm2, hdb⟩ := h.xm d hd
        exact oke_plain (s_isexc hg hm nm_isinst.1 nm_isinst.2.1 nm_isinst.2.2 ha v2 (pe_glob (v := .ref D) (glC_ok h v6) hm2 rfl hdb) (fun u r => r) fun c hc C' hC =>
          ⟨h.xb c (all_mem v3 hc) C' hC, (h.xb c (all_mem v3 hc) C' hC).kit (h.xb d hd D hD) (h.xp c (all_mem v3 hc) d hd C' D hC hD)⟩) rfl
    · cases v
  | .lidx a b, C, X, e, h, v => by
    simp only [okE] at v
    split at v
    · rename_i o m ap y cp
      simp only [Bool.and_eq_true, decide_eq_true_eq] at v
      obtain ⟨⟨⟨⟨rfl, v2⟩, v3⟩, v4⟩, v5, v6⟩ := v
      have A := pa_cons (okE_ok b C X _ h v6).1 pa_nil (star_plain v4)
      refine oke_plain (s_lidx (pe_bm PySem.F.plainAttrs_list PySem.F.slot_list_index PySem.F.type_list_index mt_index (okE_ok a C X _ h v5).1 A ?_ ?_ ?_ (star_plain v4) rfl)) rfl
      · cases o <;> first | rfl | cases v3
      · rw [star_plain v4]; rfl
      · rw [v2]; exact beq_self_eq_true _
    · cases v
  | .lcnt a b, C, X, e, h, v => by
    simp only [okE] at v
    split at v
    · rename_i o m ap y cp
      simp only [Bool.and_eq_true, decide_eq_true_eq] at v
      obtain ⟨⟨⟨⟨rfl, v2⟩, v3⟩, v4⟩, v5, v6⟩ := v
      have A := pa_cons (okE_ok b C X _ h v6).1 pa_nil (star_plain v4)
      refine oke_plain (s_lcnt (pe_bm PySem.F.plainAttrs_list PySem.F.slot_list_count PySem.F.type_list_count mt_countB (okE_ok a C X _ h v5).1 A ?_ ?_ ?_ (star_plain v4) rfl)) rfl
      · cases o <;> first | rfl | cases v3
      · rw [star_plain v4]; rfl
      · rw [v2]; exact beq_self_eq_true _
    · cases v
  | .bad, C, X, e, h, v => ⟨e_bad, t_bad, fun op es pos _ => ⟨fun wh pins s σ H Q I ⟨f, w, ρ, S, sr, t, S', ev, q⟩ => by simp only [evalE] at ev; cases ev⟩⟩
theorem okD_ok : ∀ (cs : List CE) (bs : List Bool) (C : Ck) (X : Cx) (es : List Expr), EC C F X → okD C cs bs es = true → PA X es (tAS X.K F bs cs)
  | [], bs, C, X, es, h, v => by
    simp only [okD] at v
    split at v
    · exact s_dnil
    · cases v
  | c :: cs, bs, C, X, es, h, v => by
    simp only [okD] at v
    split at v
    · simp only [Bool.and_eq_true] at v
      exact s_dstar (okE_ok c C X _ h v.1).1 (okD_ok cs _ C X _ h v.2)
    · simp only [Bool.and_eq_true] at v
      exact s_dcons (okE_ok c C X _ h v.1.2).1 v.1.1.2 (okD_ok cs _ C X _ h v.2) v.1.1.1
    · cases v
theorem okA_ok : ∀ (cs : List CE) (C : Ck) (X : Cx) (es : List Expr), EC C F X → okA C cs es = true → (cs.all strong = true → es.all plainArg = true → PA X es (tA X.K F cs)) ∧ (es.all plainArg = true → PA X es (tL X.K F cs))
  | [], C, X, es, h, v => by
    simp only [okA] at v
    split at v
    · exact ⟨fun _ _ => s_anil, fun _ => s_lnil⟩
    · cases v
  | c :: cs, C, X, es, h, v => by
    simp only [okA] at v
    split at v
    · rename_i e es
      simp only [Bool.and_eq_true] at v
      have h1 := okE_ok c C X e h v.1
      have h2 := okA_ok cs C X es h v.2
      refine ⟨fun a p => ?_, fun p => ?_⟩
      · simp only [List.all_cons, Bool.and_eq_true] at a p
        exact s_acons h1.1 a.1 (h2.1 a.2 p.2) p.1
      · simp only [List.all_cons, Bool.and_eq_true] at p
        exact s_lcons h1.1 (h2.2 p.2) p.1
    · cases v
theorem okO_ok : ∀ (c : Option CE) (C : Ck) (X : Cx) (e : Option Expr), EC C F X → okO C c e = true → PO X e (tO X.K F c)
  | none, C, X, e, h, v => by
    simp only [okO] at v
    split at v
    · exact s_onone
    · cases v
  | some c, C, X, e, h, v => by
    simp only [okO] at v
    split at v
    · exact s_osome (okE_ok c C X _ h v).1
    · cases v
theorem okC_ok : ∀ (c : Option CE) (C : Ck) (X : Cx) (es : List Expr), EC C F X → okC C c es = true → PTs X es (tCo X.K F c)
  | none, C, X, es, h, v => by
    simp only [okC] at v
    split at v
    · exact c_none
    · cases v
  | some c, C, X, es, h, v => by
    simp only [okC] at v
    split at v
    · exact c_some (okE_ok c C X _ h v).2
    · cases v
theorem okI_ok : ∀ (it : It) (C : Ck) (X : Cx) (t e : Expr), EC C F X → okI C it t e = true → PI X t e (tI X.K F it)
  | .seq a, C, X, t, e, h, v => by
    simp only [okI] at v
    exact i_seq (okE_ok a C X e h v).1
  | .rng1 a, C, X, t, e, h, v => by
    simp only [okI] at v
    split at v
    · simp only [Bool.and_eq_true] at v
      obtain ⟨rfl, hm, hg⟩ := blt_ok h v.1.1
      exact i_rng1 hg hm (okE_ok a C X _ h v.2).1 v.1.2
    · cases v
  | .rng2 a b, C, X, t, e, h, v => by
    simp only [okI] at v
    split at v
    · simp only [Bool.and_eq_true] at v
      obtain ⟨⟨⟨v1, v2⟩, v3⟩, v4, v5⟩ := v
      obtain ⟨rfl, hm, hg⟩ := blt_ok h v1
      exact i_rng2 hg hm (okE_ok a C X _ h v4).1 v2 (okE_ok b C X _ h v5).1 v3
    · cases v
  | .rng3 a b c, C, X, t, e, h, v => by
    simp only [okI] at v
    split at v
    · simp only [Bool.and_eq_true] at v
      obtain ⟨⟨⟨⟨v1, v2⟩, v3⟩, v4⟩, v5, v6, v7⟩ := v
      obtain ⟨rfl, hm, hg⟩ := blt_ok h v1
      exact i_rng3 hg hm (okE_ok a C X _ h v5).1 v2 (okE_ok b C X _ h v6).1 v3 (okE_ok c C X _ h v7).1 v4
    · cases v
  | .enum a, C, X, t, e, h, v => by
    simp only [okI] at v
    split at v
    · simp only [Bool.and_eq_true] at v
      obtain ⟨⟨⟨v0, v1⟩, v2⟩, v3⟩ := v
      obtain ⟨rfl, hm, hg⟩ := blt_ok h v1
      cases t <;> first | exact i_enum hg hm (okE_ok a C X _ h v3).1 v2 | cases v0
    · cases v
  | .zip a b, C, X, t, e, h, v => by
    simp only [okI] at v
    split at v
    · simp only [Bool.and_eq_true] at v
      obtain ⟨⟨⟨⟨v0, v1⟩, v2⟩, v3⟩, v4, v5⟩ := v
      obtain ⟨rfl, hm, hg⟩ := blt_ok h v1
      cases t <;> first | exact i_zip hg hm (okE_ok a C X _ h v4).1 v2 (okE_ok b C X _ h v5).1 v3 | cases v0
    · cases v
end
end
end Ip

/-! Ip13: which core text stands for which statement; that it does. -/
namespace Ip
open PySem PySem.Spec PyProof.Rows L2

structure SC (C : Ck) (F : Fns) (Wx : WX) (X : Cx) : Prop where
  ec : EC C F X
  tk : L2.Takes X Wx
  po : PassesOwn (model X.prog X.w) X.A X.env X.xe
  hs : X.stack = X.env :: X.outer
  hf : X.env.frame = some X.env.locals
  allf : ∀ x, C.fn x = true

def noComp : Expr → Bool
  | .ListComp _ _ _ _ => false
  | .SetComp _ _ _ _ => false
  | .DictComp _ _ _ _ _ => false
  | _ => true
def lineOf : Expr → Nat
  | .Name _ p => p.line
  | .Tuple _ _ p => p.line
  | .Subscript _ _ p => p.line
  | _ => 0
/-- a list comprehension that is stored by its own code -/
def swC (C : Ck) : Expr → Expr → Bool
  | .Name y py, .ListComp _ _ scope pos => decide (C.sc.names.lookup y = some .local) && decide (py.line = pos.line) && !(scope.names.any fun (n, k) => n == y && (k == .local || k == .cell))
  | _, _ => false
/-- the names of targets that are stored from the right -/
def locName (C : Ck) (line : Nat) : Expr → Option Str
  | .Name id pos => if decide (C.sc.names.lookup id = some .local) && pos.line == line then some id else none
  | _ => none
def headLine : List Expr → Nat
  | e :: _ => e.pos.line
  | [] => 0
/-- no swapped stores -/
def noSw (C : Ck) : Expr → Expr → Bool
  | .Tuple ts _ _, .Tuple vs _ _ => !(ts.length == 2 || ts.length == 3) || decide (vs.length ≠ ts.length) ||
      decide ((ts.filterMap (locName C (headLine ts))).length ≠ ts.length) || vs.all (foldedForSure 8)
  | .List _ _, _ => false
  | _, _ => true
def isSw (C : Ck) : List Expr → List Expr → Bool := fun ts vs =>
  (ts.filterMap (locName C (headLine ts))).length == ts.length && (ts.filterMap (locName C (headLine ts))).eraseDups.length == (ts.filterMap (locName C (headLine ts))).length && !vs.all (foldedForSure 8) && !vs.all (constantsAlone 8)
def namesC (C : Ck) : List (Nat × Bool) → List Expr → Bool
  | [], [] => true
  | (i, _) :: is, .Name x _ :: es => decide (C.N[i]? = some x) && locC C x && namesC C is es
  | _, _ => false
def isNm (C : Ck) (i : Nat) : Expr → Bool
  | .Name x _ => decide (C.N[i]? = some x) && locC C x
  | _ => false

def isFrz : CS → Bool
  | .frz _ => true
  | _ => false
def isBadS : CS → Bool
  | .bad => true
  | _ => false
/-- a call that may raise -/
def okX (C : Ck) (l : CL) (es : List CE) (e : Expr) : Bool := match e with
  | .Call fe (y :: r) [] _ => (y :: r).all plainArg && es.all strong && okA C es (y :: r) && (match l with
    | .f g => match fe with
      | .Name x _ => decide (C.fs.lookup x = some g) && glC C x
      | _ => false
    | .e c L => isSubE fe && okE C c fe && L.all fun p => decide (C.fs.lookup p.1 = some p.2))
  | _ => false
/-- names, places of lists -/
def okTg (C : Ck) : List (Nat × Option CE) → List Expr → Bool
  | [], [] => true
  | (i, none) :: is, e :: es => isNm C i e && okTg C is es
  | (i, some ix) :: is, .Subscript o j _ :: es => noSlice j && isName C i o && okE C ix j && okTg C is es
  | _, _ => false
mutual
def okS (C : Ck) : CS → Stmt → Bool
  | .popE i, st => match st with
    | .Expr (.Call (.Attribute o m ap) [] [] cp) _ => decide (m = ("pop" : Str)) && decide (ap.endLine = cp.line) && isName C i o
    | _ => false
  | .setT is c, st => cold C && match st with
    | .Assign [.Tuple ts k p] e _ => strong c && noSw C (.Tuple ts k p) e && noComp e && okTg C is ts && okE C c e && decide (ts.length ≤ 1000)
    | _ => false
  | .ins i ix c, st => match st with
    | .Expr (.Call (.Attribute o m ap) [x, e] [] cp) _ => decide (m = ("insert" : Str)) && decide (ap.endLine = cp.line) && plainArg x && plainArg e && strong ix && strong c && isName C i o && (okE C ix x && okE C c e)
    | _ => false
  | .ext i c, st => match st with
    | .Expr (.Call (.Attribute o m ap) [e] [] cp) _ => decide (m = ("extend" : Str)) && decide (ap.endLine = cp.line) && plainArg e && isName C i o && okE C c e
    | _ => false
  | .setP tg c, st => match st with
    | .Assign [t] e _ => match tg with
      | .name i => isNm C i t && strong c && okE C c e
      | tg => plainArg t && strong c && noSw C t e && noComp e && okT C tg t && okE C c e
    | _ => false
  | .setO i c, st => match st with
    | .Assign [t] e _ => isNm C i t && strong c && okE C c e
    | _ => false
  | .setR i c, st => match st with
    | .Assign [t] e _ => isNm C i t && strong c && okE C c e
    | _ => false
  | .par is cs, st => cold C && match st with
    | .Assign [.Tuple ts k p] (.Tuple vs k' p') _ => namesC C is ts && cs.all strong && vs.all plainArg && okA C cs vs && decide (cs.length = is.length) && decide (cs.length ≤ 1000) &&
        (noSw C (.Tuple ts k p) (.Tuple vs k' p') || ((ts.length == 2 || ts.length == 3) && isSw C ts vs && decide ((is.map (·.1)).Nodup)))
    | _ => false
  | .augP i o c, st => match st with
    | .AugAssign t p e _ => bopOk o && opC o p && isNm C i t && okE C c e
    | _ => false
  | .setI i ix c, st => match st with
    | .Assign [.Subscript o j _] e _ => noSlice j && noComp e && strong c && isName C i o && okE C ix j && okE C c e
    | _ => false
  | .dput i ix c, st => match st with
    | .Assign [.Subscript o j _] e _ => noSlice j && noComp e && strong c && isName C i o && okE C ix j && okE C c e
    | _ => false
  | .augI i o ix c, st => match st with
    | .AugAssign (.Subscript ob j _) p e _ => bopOk o && opC o p && noSlice j && isName C i ob && okE C ix j && okE C c e
    | _ => false
  | .app i c, st => match st with
    | .Expr (.Call (.Attribute o m ap) [e] [] cp) _ => decide (m = ("append" : Str)) && decide (ap.endLine = cp.line) && plainArg e && strong c && isName C i o && okE C c e
    | _ => false
  | .pop tg i, st => match st with
    | .Assign [t] (.Call (.Attribute o m ap) [] [] cp) _ => decide (m = ("pop" : Str)) && decide (ap.endLine = cp.line) && plainArg t && isName C i o && okT C tg t
    | _ => false
  | .expr c, st => match st with
    | .Expr e _ => noComp e && okE C c e
    | _ => false
  | .ifs c a b, st => match st with
    | .If t x y _ => okE C c t && okSs C a x && okSs C b y
    | _ => false
  | .for tg it b, st => cold C && match st with
    | .For t i x [] _ => noSet i && strongI it && okT C tg t && okI C it t i && okSs C b x
    | _ => false
  | .while c b, st => match st with
    | .While t x [] _ => okE C c t && okSs C b x
    | _ => false
  | .ret c, st => match st with
    | .Return (some e) _ => strong c && okE C c e
    | _ => false
  | .retO i, st => match st with
    | .Return (some e) _ => isName C i e
    | _ => false
  | .retN, st => match st with
    | .Return none _ => true
    | _ => false
  | .pass, st => match st with
    | .Pass _ => true
    | .Expr (.Constant (.str _) _ _) _ => true
    | _ => false
  | .brk, st => match st with
    | .Break _ => true
    | _ => false
  | .cont, st => match st with
    | .Continue _ => true
    | _ => false
  | .frz _, _ => false
  | .tryX b hs, st => cold C && match st with
    | .Try x (h :: r) [] [] _ => okSs C b x && okHs C hs (h :: r)
    | _ => false
  | .xcall k l es, st => cold C && match k with
    | .drop => match st with
      | .Expr e _ => okX C l es e
      | _ => false
    | .set tg => match st with
      | .Assign [t] e _ => plainArg t && noSw C t e && okT C tg t && okX C l es e
      | _ => false
    | .ret => match st with
      | .Return (some e) _ => okX C l es e
      | _ => false
  | .raise c es, st => cold C && match st with
    | .Raise (some (.Call (.Name x _) ys [] _)) none _ => decide (x = clsN c) && glC C x && C.rs.contains c && match ys with
      | [] => match es with
        | [] => decide (clsF c = [])
        | _ => false
      | y :: r => (y :: r).all plainArg && es.all strong && okA C es (y :: r) && decide (clsF c).Nodup && !(clsF c).isEmpty && decide ((clsF c).length ≤ 900)
    | _ => false
  | .bad, _ => true
def okHs (C : Ck) : List CH → List ExceptHandler → Bool
  | [], hs => match hs with
    | [] => true
    | _ => false
  | .hd d cs o b :: chs, hs => match hs with
    | .ExceptHandler (some (.Name x _)) n (b₀ :: su) _ :: hds => decide (x = clsN d) && glC C x && C.xs.contains d && cs.all C.xs.contains && (match o, n with
      | none, none => true
      | some i, some y => decide (C.N[i]? = some y) && decide (C.sc.names.lookup y = some .local)
      | _, _ => false) && okSs { C with hot := true } b (b₀ :: su) && okHs C chs hds
    | _ => false
def okSs (C : Ck) : List CS → List Stmt → Bool
  | [], sts => match sts with
    | [] => true
    | _ => false
  | c :: cs, sts => if isFrz c then okSs C cs sts else if isBadS c then true else match sts with
      | st :: sts => okS C c st && okSs C cs sts
      | [] => false
end

abbrev Loc' (X : Cx) (x : Str) : Prop := L2.Loc X.env.scope x
section
variable {C : Ck} {F : Fns} {Wx : WX} {X : Cx}
theorem _root_.Ip.EC.tr {C : Ck} {F : Fns} {X : Cx} (h : EC C F X) (pn : List (Addr × Obj)) (xe : Value → Shared → Prop) : EC C F (X.tr pn xe) :=
  ⟨h.N, h.nd, h.nn, h.sc, h.kind, h.fn, h.calm, h.un, h.fs, h.bs, h.cs, h.xb, h.xp, h.xm, h.rz, h.rm⟩
theorem _root_.Ip.EC.suite {C : Ck} {F : Fns} {X : Cx} (h : EC C F X) (a : Addr) (pn : List (Addr × Obj)) : EC { C with hot := true } F (X.suite a pn) :=
  ⟨h.N, h.nd, h.nn, h.sc, h.kind, h.fn, (fun z => by cases z), h.un, (fun z => by cases z), h.bs, h.cs, h.xb, h.xp, h.xm, h.rz, (fun z => by cases z)⟩
theorem sole_eq (t v : Expr) (l : Nat) (env : Env) : swapsWithSole [t] v l env = swapsWith v (some t) l env := by
  unfold swapsWithSole
  rfl
theorem noComp_sw {e : Expr} (h : noComp e = true) (t : Option Expr) (l : Nat) (env : Env) : swapsWith e t l env = pure false := by
  cases e <;> first | rfl | cases h
theorem assign_sub {o i : Expr} {pos : Pos} {env : Env} (h : noSlice i = true) : ∀ v, assign (.Subscript o i pos) env v = (do
      let ov ← holding [v] (eval o env)
      let iv ← holding [v, ov] (eval i env)
      standAt pos
      holding [v, ov, iv] (setItem ov iv v)
      release [v, ov, iv] []) := by
  intro v
  cases i <;> first | rfl | cases h
theorem aug_sub {i : Expr} (h : noSlice i = true) : ∀ ov iv new, augStore i ov iv new = (do holding [new, ov, iv] (setItem ov iv new); release [new, ov, iv] []; pure .next) := by
  intro ov iv new
  cases i <;> first | rfl | cases h
theorem plain_h1 {t : Expr} {env : Env} (h : plainArg t = true) : (assignEach [t] env).map (·.2) = [assign t env] := by
  rw [assign_plain h]; rfl
/-- stores that are not swapped, or whose names are told -/
theorem blk_fn (h : SC C F Wx X) : X.env.blockKind = .function ∧ ∀ x, X.env.kindOf x = C.sc.names.lookup x := by
  refine ⟨?_, fun x => ?_⟩
  · unfold Env.blockKind
    rw [h.ec.sc, h.ec.kind]
    rfl
  · unfold Env.kindOf
    rw [h.ec.sc]
theorem loc_eq (h : SC C F Wx X) (id : Str) (b : Bool) : (if (X.env.kindOf id == some NameKind.local && b) = true then some id else none) = if (decide (C.sc.names.lookup id = some NameKind.local) && b) = true then some id else none := by
  rw [(blk_fn h).2 id]
  have : (C.sc.names.lookup id == some NameKind.local) = decide (C.sc.names.lookup id = some NameKind.local) := by
    cases e1 : C.sc.names.lookup id with
    | none => rfl
    | some k => cases k <;> rfl
  rw [this]
theorem headLine_eq (ts : List Expr) : (ts.head?.map (·.pos.line)).getD 0 = headLine ts := by
  cases ts <;> rfl
theorem noStar {vs : List Expr} (h : vs.all plainArg = true) : (vs.any fun | .Starred .. => true | _ => false) = false := by
  induction vs with
  | nil => rfl
  | cons v vs ih =>
    simp only [List.all_cons, Bool.and_eq_true] at h
    simp only [List.any_cons, ih h.2, Bool.or_false]
    cases v <;> first | rfl | exact absurd h.1 (by simp [plainArg])
theorem noSw_ok (h : SC C F Wx X) {t e : Expr} (v : noSw C t e = true) : swappedStores [t] e X.env = pure none := by
  cases t with
  | Tuple ts k p =>
    cases e with
    | Tuple vs k' p' =>
      simp only [noSw, Bool.or_eq_true, decide_eq_true_eq, Bool.not_eq_true'] at v
      unfold swappedStores
      dsimp only
      split
      · rfl
      · rename_i n1
        split
        · rfl
        · simp only [headLine_eq]
          generalize hn : List.filterMap _ ts = nm
          have en : nm = ts.filterMap (locName C (headLine ts)) := by
            rw [← hn]
            congr 1
            funext e
            cases e <;> first | rfl | exact loc_eq h _ _
          rw [en]
          split
          · rfl
          · rename_i n2
            split
            · rfl
            · rename_i n3
              exfalso
              simp only [Bool.or_eq_true, Bool.not_eq_true', bne_iff_ne, ne_eq, not_or, Bool.not_eq_false, Decidable.not_not] at n1 n2
              rcases v with ((v | v) | v) | v
              · have z := n1.1.1
                rw [← Bool.or_eq_true, v] at z
                cases z
              · exact v n1.1.2
              · exact v n2.1
              · exact n3 v
    | _ => rfl
  | List ts p => cases e <;> cases v
  | _ => rfl
theorem isSw_ok (h : SC C F Wx X) {ts vs : List Expr} {k k' : Nat} {p p' : Pos} (v : isSw C ts vs = true) (h1 : (ts.length == 2 || ts.length == 3) = true) (h2 : vs.length = ts.length) (h3 : vs.all plainArg = true) :
    swappedStores [.Tuple ts k p] (.Tuple vs k' p') X.env = pure (some (ts.filterMap (locName C (headLine ts)))) := by
  simp only [isSw, Bool.and_eq_true, beq_iff_eq, Bool.not_eq_true'] at v
  obtain ⟨⟨⟨v1, v2⟩, v3⟩, v4⟩ := v
  unfold swappedStores
  dsimp only
  rw [if_neg (by
    simp only [h1, h2, (blk_fn h).1, Bool.or_eq_true, Bool.not_eq_true', bne_iff_ne, ne_eq, not_or, Bool.not_eq_false, not_true_eq_false, not_false_eq_true, and_self])]
  refine (if_neg (fun z => Bool.false_ne_true ((noStar h3).symm.trans z))).trans ?_
  simp only [headLine_eq]
  generalize hn : List.filterMap _ ts = nm
  have en : nm = ts.filterMap (locName C (headLine ts)) := by
    rw [← hn]
    congr 1
    funext e
    cases e <;> first | rfl | exact loc_eq h _ _
  rw [en]
  rw [if_neg (by simp [v1, v2]), if_neg (by rw [v3]; exact Bool.false_ne_true), if_neg (by rw [v4]; exact Bool.false_ne_true)]
theorem isNm_ok (h : SC C F Wx X) {i : Nat} {t : Expr} (v : isNm C i t = true) : ∃ x p, t = .Name x p ∧ X.N[i]? = some x ∧ Loc' X x ∧ (X.fn x = true ∨ X.env.scope.names.lookup x = some .local) := by
  unfold isNm at v
  split at v
  · rename_i x p
    simp only [Bool.and_eq_true, decide_eq_true_eq] at v
    obtain ⟨h1, h2⟩ := locC_ok h.ec v.2
    exact ⟨x, p, rfl, by rw [h.ec.N]; exact v.1, h1, h2⟩
  · cases v
/-- target = value, by the rule that its form asks -/
theorem asg_rule (h : SC C F Wx X) {t e : Expr} {c : CE} {g : TG} {pos : Pos} (hp : plainArg t = true) (hw : noSw C t e = true) (hg : PG X t g) (he : okE C c e = true) (hn : noComp e = true) : PS X (.Assign [t] e pos) (tAsg (tE X.K F c) g) :=
  ps_asg (okE_ok c C X e h.ec he).1 hg ((sole_eq _ _ _ _).trans (noComp_sw hn _ _ _)) (noSw_ok h hw) (plain_h1 hp)
theorem swC_false (h : SC C F Wx X) {elt : Expr} {gs : List Comprehension} {scope : Scope} {p : Pos} {t : Expr} {l : Nat} (v : swC C t (.ListComp elt gs scope p) = false) : swapsWithSole [t] (.ListComp elt gs scope p) l X.env = pure false := by
  rw [sole_eq]
  cases t with
  | Name y py =>
    simp only [swC] at v
    unfold swapsWith
    dsimp only
    rw [(blk_fn h).1, (blk_fn h).2 y]
    have e0 : (C.sc.names.lookup y == some NameKind.local) = decide (C.sc.names.lookup y = some NameKind.local) := by
      cases e1 : C.sc.names.lookup y with
      | none => rfl
      | some k => cases k <;> rfl
    have e2 : (py.line == p.line) = decide (py.line = p.line) := beq_eq_decide' _ _
    rw [e0]
    show pure (((ScopeKind.function == ScopeKind.function) && decide (C.sc.names.lookup y = some NameKind.local) && (py.line == p.line)) && _) = _
    rw [e2]
    have e3 : (ScopeKind.function == ScopeKind.function) = true := rfl
    rw [e3, Bool.true_and, v]
  | _ => rfl
theorem swC_true (h : SC C F Wx X) {elt : Expr} {gs : List Comprehension} {scope : Scope} {p py : Pos} {y : Str} {l : Nat} (v : swC C (.Name y py) (.ListComp elt gs scope p) = true) :
    swapsWith (.ListComp elt gs scope p) (some (.Name y py)) l X.env = pure true ∧ X.env.scope.names.lookup y = some .local := by
  simp only [swC, Bool.and_eq_true, decide_eq_true_eq, Bool.not_eq_true'] at v
  have hl : X.env.scope.names.lookup y = some .local := by rw [h.ec.sc]; exact v.1.1
  exact ⟨sw_true (by rw [h.ec.sc]; exact h.ec.kind) hl (by simp [v.1.2]) v.2, hl⟩
theorem asg_name (h : SC C F Wx X) {i : Nat} {t e : Expr} {c : CE} {pos : Pos} (hn : isNm C i t = true) (he : okE C c e = true) : PS X (.Assign [t] e pos) (tAsg (tE X.K F c) (gName i)) := by
  obtain ⟨x, p, rfl, h1, h2, h3⟩ := isNm_ok h hn
  have hN : X.N.Nodup := by rw [h.ec.N]; exact h.ec.nd
  have pg : PG X (.Name x p) (gName i) := pg_name hN h1 h2 h3
  have E := okE_ok c C X e h.ec he
  by_cases hc : noComp e = true
  · exact ps_asg E.1 pg ((sole_eq _ _ _ _).trans (noComp_sw hc _ _ _)) rfl rfl
  · cases e with
    | ListComp elt gs scope p' =>
      by_cases hs : swC C (.Name x p) (.ListComp elt gs scope p') = true
      · obtain ⟨s1, s2⟩ := swC_true h (l := pos.line) hs
        cases c with
        | comp celt ctg cit cond =>
          simp only [okE] at he
          have vc := (Bool.and_eq_true_iff.mp he).1
          replace he := (Bool.and_eq_true_iff.mp he).2
          split at he
          · rename_i x1 t1 i1 ifs1 scope1 pos1 hh
            injection hh with q1 q2 q3 q4
            subst q1 q2 q3 q4
            simp only [Bool.and_eq_true, decide_eq_true_eq] at he
            obtain ⟨⟨⟨⟨⟨⟨⟨v1, v2⟩, v3⟩, v4⟩, v5⟩, v6⟩, v7⟩, v8⟩ := he
            have bk := blkOk_by v3
            exact (ps_setLc (own := ownOf' C ctg scope) (h.ec.calm (cold_ok vc)) hN h1 s2 s1 (okI_ok cit C X t1 i1 h.ec v4) (by rw [h.ec.N, h.ec.sc]; exact bk) (fun s H Ca cl fp => okT_ok (h.ec.blk bk.kind s H Ca cl fp) ctg t1 v5)
              (fun s H Ca cl fp => okC_ok cond _ _ ifs1 (h.ec.blk bk.kind s H Ca cl fp) v6) (fun s H Ca cl fp => (okE_ok celt _ _ elt (h.ec.blk bk.kind s H Ca cl fp) v7).1) (noSet_ok v2 _)).mono fun D σ H q =>
                s_lc v1 (fun n hn => by rw [← v8]; exact hn) (fun n hn => by rw [v8]; exact hn) q
          · cases he
        | bad => exact (ps_never (X := X)).mono fun D σ H ⟨f, w, ρ, S, sr, t, S', ev, q⟩ => by simp only [evalE] at ev; cases ev
        | slot i => simp only [okE, isName] at he; cases he
        | view i => simp only [okE, isName] at he; cases he
        | cst t => simp only [okE, isCst] at he; cases he
        | _ => simp [okE] at he
      · exact ps_asg E.1 pg (swC_false h (by simpa using hs)) rfl rfl
    | SetComp a b d p' => cases c <;> simp [okE, isName, isCst] at he <;> exact (ps_never (X := X)).mono fun D σ H ⟨f, w, ρ, S, sr, t, S', ev, q⟩ => by simp only [evalE] at ev; cases ev
    | DictComp a b d g p' => cases c <;> simp [okE, isName, isCst] at he <;> exact (ps_never (X := X)).mono fun D σ H ⟨f, w, ρ, S, sr, t, S', ev, q⟩ => by simp only [evalE] at ev; cases ev
    | _ => exact absurd rfl hc
theorem namesC_ok (h : SC C F Wx X) : ∀ {is : List (Nat × Bool)} {es : List Expr}, namesC C is es = true → PGs X es (gNames (is.map (·.1))) ∧ es.length = is.length ∧ es.all plainArg = true
  | [], [], _ => ⟨pgs_nil, rfl, rfl⟩
  | [], _ :: _, v => by simp [namesC] at v
  | (i, o) :: is, [], v => by simp [namesC] at v
  | (i, o) :: is, e :: es, v => by
    cases e with
    | Name x p =>
      simp only [namesC, Bool.and_eq_true, decide_eq_true_eq] at v
      obtain ⟨h1, h2⟩ := locC_ok h.ec v.1.2
      obtain ⟨h3, h4, h5⟩ := namesC_ok h v.2
      refine ⟨pgs_cons (pg_name (by rw [h.ec.N]; exact h.ec.nd) (by rw [h.ec.N]; exact v.1.1) h1 h2) h3 rfl, by simp [h4], by simp [h5, plainArg]⟩
    | _ => simp [namesC] at v
theorem okTg_ok (h : SC C F Wx X) : ∀ {is : List (Nat × Option CE)} {es : List Expr}, okTg C is es = true → PGs X es (gAsg X.K F is) ∧ es.length = is.length ∧ es.all plainArg = true
  | [], [], _ => ⟨pgs_nil, rfl, rfl⟩
  | [], _ :: _, v => by simp [okTg] at v
  | (i, o) :: is, [], v => by cases o <;> simp [okTg] at v
  | (i, none) :: is, e :: es, v => by
    simp only [okTg, Bool.and_eq_true] at v
    obtain ⟨x, p, rfl, h1, h2, h3⟩ := isNm_ok h v.1
    obtain ⟨g1, g2, g3⟩ := okTg_ok h v.2
    exact ⟨pgs_cons (pg_name (by rw [h.ec.N]; exact h.ec.nd) h1 h2 h3) g1 rfl, by simp [g2], by simp [g3, plainArg]⟩
  | (i, some ix) :: is, e :: es, v => by
    cases e with
    | Subscript o j p =>
      simp only [okTg, Bool.and_eq_true] at v
      obtain ⟨⟨⟨v1, v2⟩, v3⟩, v4⟩ := v
      obtain ⟨x, px, rfl, hv⟩ := name_var h.ec v2
      obtain ⟨g1, g2, g3⟩ := okTg_ok h v4
      exact ⟨pgs_cons (pg_sub hv (okE_ok ix C X j h.ec v3).1 set_list (assign_sub v1)) g1 rfl, by simp [g2], by simp [g3, plainArg]⟩
    | _ => simp [okTg] at v
theorem okA_par (h : EC C F X) : ∀ {cs : List CE} {es : List Expr}, okA C cs es = true → cs.all strong = true → es.all plainArg = true → PA X es (tPa X.K F cs)
  | [], es, v, a, p => by
    simp only [okA] at v
    split at v
    · exact a_pnil
    · cases v
  | c :: cs, es, v, a, p => by
    simp only [okA] at v
    split at v
    · rename_i e es
      simp only [Bool.and_eq_true, List.all_cons] at v a p
      exact a_pcons (okE_ok c C X e h v.1).1 a.1 (okA_par h v.2 a.2 p.2) p.1
    · cases v
theorem okA_len : ∀ {cs : List CE} {es : List Expr}, okA C cs es = true → cs.length = es.length
  | [], es, v => by
    simp only [okA] at v
    split at v
    · rfl
    · cases v
  | c :: cs, es, v => by
    simp only [okA] at v
    split at v
    · simp only [Bool.and_eq_true] at v
      simp [okA_len v.2]
    · cases v
theorem local_of {ts : List Expr} {line : Nat} (h : (ts.filterMap (locName C line)).length = ts.length) : ∀ e ∈ ts, ∃ x p, e = .Name x p ∧ C.sc.names.lookup x = some .local := by
  induction ts with
  | nil => intro e he; cases he
  | cons t ts ih =>
    have hle : ∀ us : List Expr, (us.filterMap (locName C line)).length ≤ us.length := fun us => List.length_filterMap_le _ _
    cases ht : locName C line t with
    | none =>
      rw [List.filterMap_cons_none ht] at h
      have := hle ts
      simp only [List.length_cons] at h
      omega
    | some y =>
      rw [List.filterMap_cons_some ht] at h
      simp only [List.length_cons, Nat.add_right_cancel_iff] at h
      intro e he
      rcases List.mem_cons.mp he with rfl | he
      · cases e with
        | Name x p =>
          simp only [locName] at ht
          split at ht
          · rename_i z
            simp only [Bool.and_eq_true, decide_eq_true_eq] at z
            exact ⟨x, p, rfl, z.1⟩
          · cases ht
        | _ => simp [locName] at ht
      · exact ih h e he
theorem names_of {line : Nat} {x : Str} {p : Pos} {ts : List Expr} (h : ((Expr.Name x p :: ts).filterMap (locName C line)).length = (Expr.Name x p :: ts).length) :
    (Expr.Name x p :: ts).filterMap (locName C line) = x :: ts.filterMap (locName C line) ∧ (ts.filterMap (locName C line)).length = ts.length := by
  cases ht : locName C line (.Name x p) with
  | none =>
    rw [List.filterMap_cons_none ht] at h
    have : (ts.filterMap (locName C line)).length ≤ ts.length := List.length_filterMap_le _ _
    simp only [List.length_cons] at h
    omega
  | some y =>
    have hy : y = x := by
      simp only [locName] at ht
      split at ht
      · cases ht; rfl
      · cases ht
    subst hy
    rw [List.filterMap_cons_some ht] at h ⊢
    exact ⟨rfl, by simpa using h⟩
theorem par_sw (h : SC C F Wx X) (vc : cold C = true) {is : List (Nat × Bool)} {cs : List CE} {ts vs : List Expr} {k k' : Nat} {p p' pos : Pos} (v1 : namesC C is ts = true) (v2 : cs.all strong = true) (v3 : vs.all plainArg = true) (v4 : okA C cs vs = true)
    (v5 : cs.length = is.length) (h1 : (ts.length == 2 || ts.length == 3) = true) (v7 : isSw C ts vs = true) (vd : (is.map (·.1)).Nodup) : PS X (.Assign [.Tuple ts k p] (.Tuple vs k' p') pos) (tS X.K F Wx (.par is cs)) := by
  obtain ⟨g1, g2, g3⟩ := namesC_ok h v1
  have hl : vs.length = ts.length := by rw [← okA_len v4, v5, g2]
  have sw := isSw_ok (k := k) (k' := k') (p := p) (p' := p') h v7 h1 hl v3
  have pa := okA_par h.ec v4 v2 v3
  have hN : X.N.Nodup := by rw [h.ec.N]; exact h.ec.nd
  have v7' := v7
  simp only [isSw, Bool.and_eq_true, beq_iff_eq] at v7'
  have nl := v7'.1.1.1
  have nd := v7'.1.1.2
  have hw2 : ∀ (a b : List Expr), swapsWithSole a (.Tuple vs k' p') pos.line X.env = pure false := by
    intro a b
    unfold swapsWithSole
    split
    · rfl
    · rfl
  match ts, is, cs, vs, h1, hl, v1, v5, g2, vd with
  | [t0, t1], [(i, o0), (j, o1)], [c0, c1], [e0, e1], _, _, v1, _, _, vd =>
    cases t0 with
    | Name x px =>
      cases t1 with
      | Name y py =>
        simp only [namesC, Bool.and_eq_true, decide_eq_true_eq] at v1
        have l0 := local_of nl (.Name x px) (by simp)
        have l1 := local_of nl (.Name y py) (by simp)
        obtain ⟨_, _, ⟨⟩, l0⟩ := l0
        obtain ⟨_, _, ⟨⟩, l1⟩ := l1
        obtain ⟨n1, n2⟩ := names_of nl
        obtain ⟨n3, n4⟩ := names_of n2
        rw [n1, n3] at sw nd
        simp only [List.map_cons, List.map_nil, List.nodup_cons, List.mem_cons, List.not_mem_nil, or_false, not_or] at vd
        exact p_par2 (ps_par (h.ec.calm (cold_ok vc)) hN (by rw [h.ec.N]; exact v1.1.1) (by rw [h.ec.N]; exact v1.2.1.1) vd.1 (by rw [h.ec.sc]; exact l0) (by rw [h.ec.sc]; exact l1) pa sw (hw2 _ []))
      | _ => simp [namesC] at v1
    | _ => simp [namesC] at v1
  | [t0, t1, t2], [(i, o0), (j, o1), (l, o2)], [c0, c1, c2], [e0, e1, e2], _, _, v1, _, _, vd =>
    cases t0 with
    | Name x px =>
      cases t1 with
      | Name y py =>
        cases t2 with
        | Name z pz =>
          simp only [namesC, Bool.and_eq_true, decide_eq_true_eq] at v1
          have l0 := local_of nl (.Name x px) (by simp)
          have l1 := local_of nl (.Name y py) (by simp)
          have l2 := local_of nl (.Name z pz) (by simp)
          obtain ⟨_, _, ⟨⟩, l0⟩ := l0
          obtain ⟨_, _, ⟨⟩, l1⟩ := l1
          obtain ⟨_, _, ⟨⟩, l2⟩ := l2
          obtain ⟨n1, n2⟩ := names_of nl
          obtain ⟨n3, n4⟩ := names_of n2
          obtain ⟨n5, n6⟩ := names_of n4
          rw [n1, n3, n5] at sw nd
          simp only [List.map_cons, List.map_nil, List.nodup_cons, List.mem_cons, List.not_mem_nil, or_false, not_or] at vd
          exact p_par3 (ps_par3 (h.ec.calm (cold_ok vc)) hN (by rw [h.ec.N]; exact v1.1.1) (by rw [h.ec.N]; exact v1.2.1.1) (by rw [h.ec.N]; exact v1.2.2.1.1) vd.1.1 vd.1.2 vd.2.1
            (by rw [h.ec.sc]; exact l0) (by rw [h.ec.sc]; exact l1) (by rw [h.ec.sc]; exact l2) pa sw (hw2 _ []))
        | _ => simp [namesC] at v1
      | _ => simp [namesC] at v1
    | _ => simp [namesC] at v1
theorem okX_ok (h : SC C F Wx X) (vc : cold C = true) {l : CL} {es : List CE} {e : Expr} (v : okX C l es e = true) : PE X e (tX X.K F Wx l es) ∧ noComp e = true := by
  unfold okX at v
  split at v
  · rename_i fe y r pos
    simp only [Bool.and_eq_true] at v
    obtain ⟨⟨⟨v1, v2⟩, v3⟩, v4⟩ := v
    have A := (okA_ok es C X _ h.ec v3).1 v2 (by simpa using v1)
    refine ⟨?_, rfl⟩
    split at v4
    · rename_i g
      split at v4
      · rename_i x p
        simp only [Bool.and_eq_true, decide_eq_true_eq] at v4
        obtain ⟨n, fa, fd, ps, FO, rm, hm, hk, hb, hd, _⟩ := h.ec.fs (cold_ok vc) x g v4.1
        exact x_f h.tk FO rm (glC_ok h.ec v4.2) hm hk hb A hd (by simpa using v1)
      · cases v4
    · rename_i c L
      simp only [Bool.and_eq_true] at v4
      obtain ⟨⟨w1, w2⟩, w3⟩ := v4
      refine x_e h.tk (fun p hp => ?_) (okE_ok c C X _ h.ec w2).1 A (by simpa using v1) ?_
      · obtain ⟨n, fa, fd, ps, FO, rm, hm, hk, hb, hd, hns⟩ := h.ec.fs (cold_ok vc) p.1 p.2 (of_decide_eq_true (List.all_eq_true.mp w3 p hp))
        exact ⟨n, fa, fd, ps, FO, rm, hk, hb, hns⟩
      · cases fe <;> first | rfl | cases w1
  · cases v
theorem ss_frz' {c : CS} {ss : List Stmt} {css : List CS} (hf : isFrz c = true) (hs : PSs X ss (tSs X.K F Wx css)) : PSs X ss (tSs X.K F Wx (c :: css)) := by
  cases c <;> first | exact ss_frz hs | cases hf
theorem ss_bad' {c : CS} {ss : List Stmt} {css : List CS} (hf : isBadS c = true) : PSs X ss (tSs X.K F Wx (c :: css)) := by
  cases c <;> first | exact ss_bad | cases hf
mutual
theorem okS_ok : ∀ (c : CS) (C : Ck) (Wx : WX) (X : Cx) (st : Stmt), SC C F Wx X → okS C c st = true → PS X st (tS X.K F Wx c)
  | .setP tg c, C, Wx, X, st, h, v => by
    simp only [okS] at v
    split at v
    · rename_i t e pos
      split at v
      · rename_i i
        simp only [Bool.and_eq_true] at v
        exact p_setP (asg_name h v.1.1 v.2) gName_of v.1.2
      · simp only [Bool.and_eq_true] at v
        obtain ⟨⟨⟨⟨⟨v1, v2⟩, v3⟩, v4⟩, v5⟩, v6⟩ := v
        exact p_setP (asg_rule h v1 v3 (okT_ok h.ec _ t v5) v6 v4) (fun _ _ _ _ q => q) v2
    · cases v
  | .setO i c, C, Wx, X, st, h, v => by
    simp only [okS] at v
    split at v
    · simp only [Bool.and_eq_true] at v
      exact p_setO (asg_name h v.1.1 v.2) v.1.2
    · cases v
  | .setR i c, C, Wx, X, st, h, v => by
    simp only [okS] at v
    split at v
    · simp only [Bool.and_eq_true] at v
      exact p_setR (asg_name h v.1.1 v.2) v.1.2
    · cases v
  | .par is cs, C, Wx, X, st, h, v => by
    simp only [okS] at v
    have vc := (Bool.and_eq_true_iff.mp v).1
    replace v := (Bool.and_eq_true_iff.mp v).2
    split at v
    · rename_i ts k p vs k' p' pos
      simp only [Bool.and_eq_true, decide_eq_true_eq, Bool.or_eq_true] at v
      obtain ⟨⟨⟨⟨⟨⟨v1, v2⟩, v3⟩, v4⟩, v5⟩, v6⟩, v7⟩ := v
      rcases v7 with v7 | ⟨⟨v7, v8⟩, v9⟩
      · obtain ⟨g1, g2, g3⟩ := namesC_ok h v1
        have pg : PG X (.Tuple ts k p) (gTup X.K is.length (gNames (is.map (·.1)))) := pg_tup (h.ec.calm (cold_ok vc)) g1 ((assign_len g3).1.trans g2) (assign_len g3).2
        exact p_parN v5 v6 (ps_asg (pe_tup (okA_par h.ec v4 v2 v3)) pg ((sole_eq _ _ _ _).trans rfl) (noSw_ok h v7) rfl)
      · exact par_sw h vc v1 v2 v3 v4 v5 (by simpa using v7) v8 v9
    · cases v
  | .augP i o c, C, Wx, X, st, h, v => by
    simp only [okS] at v
    split at v
    · rename_i t p e pos
      simp only [Bool.and_eq_true] at v
      obtain ⟨⟨⟨v1, v2⟩, v3⟩, v4⟩ := v
      have := opC_ok v2
      subst this
      obtain ⟨x, px, rfl, h1, h2, h3⟩ := isNm_ok h v3
      have hN : X.N.Nodup := by rw [h.ec.N]; exact h.ec.nd
      have E := (okE_ok c C X e h.ec v4).1
      cases o <;> first | cases v1 | skip
      · exact p_augP (j := 0) (ps_aug hN h1 h2 E ip_add h3)
      · exact p_augP (j := 0) (ps_aug hN h1 h2 E ip_sub h3)
    · cases v
  | .setI i ix c, C, Wx, X, st, h, v => by
    simp only [okS] at v
    split at v
    · rename_i o j p e pos
      simp only [Bool.and_eq_true] at v
      obtain ⟨⟨⟨⟨⟨v1, v2⟩, v3⟩, v4⟩, v5⟩, v6⟩ := v
      obtain ⟨x, px, rfl, hv⟩ := name_var h.ec v4
      exact p_setI (ps_asg (okE_ok c C X e h.ec v6).1 (pg_sub hv (okE_ok ix C X j h.ec v5).1 set_list (assign_sub v1)) ((sole_eq _ _ _ _).trans (noComp_sw v2 _ _ _)) rfl rfl) v3
    · cases v
  | .dput i ix c, C, Wx, X, st, h, v => by
    simp only [okS] at v
    split at v
    · rename_i o j p e pos
      simp only [Bool.and_eq_true] at v
      obtain ⟨⟨⟨⟨⟨v1, v2⟩, v3⟩, v4⟩, v5⟩, v6⟩ := v
      obtain ⟨x, px, rfl, hv⟩ := name_var h.ec v4
      exact p_dput (ps_asg (okE_ok c C X e h.ec v6).1 (pg_sub hv (okE_ok ix C X j h.ec v5).1 (set_any (by have := h.ec.un; omega)) (assign_sub v1)) ((sole_eq _ _ _ _).trans (noComp_sw v2 _ _ _)) rfl rfl) v3
    · cases v
  | .augI i o ix c, C, Wx, X, st, h, v => by
    simp only [okS] at v
    split at v
    · rename_i ob j tp p e pos
      simp only [Bool.and_eq_true] at v
      obtain ⟨⟨⟨⟨⟨v1, v2⟩, v3⟩, v4⟩, v5⟩, v6⟩ := v
      have := opC_ok v2
      subst this
      obtain ⟨x, px, rfl, hv⟩ := name_var h.ec v4
      have E := (okE_ok c C X e h.ec v6).1
      have J := (okE_ok ix C X j h.ec v5).1
      cases o <;> first | cases v1 | skip
      · exact p_augI rfl (ps_augS hv J get_list E ip_add set_list (aug_sub v3))
      · exact p_augI rfl (ps_augS hv J get_list E ip_sub set_list (aug_sub v3))
    · cases v
  | .app i c, C, Wx, X, st, h, v => by
    simp only [okS] at v
    split at v
    · rename_i o m ap e cp pos
      simp only [Bool.and_eq_true, decide_eq_true_eq] at v
      obtain ⟨⟨⟨⟨⟨v1, v2⟩, v3⟩, v4⟩, v5⟩, v6⟩ := v
      subst v1
      obtain ⟨x, px, rfl, hv⟩ := name_var h.ec v5
      have A := s_acons (okE_ok c C X e h.ec v6).1 v4 s_anil v3
      refine p_app (ps_expr (pe_bm PySem.F.plainAttrs_list PySem.F.slot_list_append PySem.F.type_list_append mt_append hv A rfl ?_ ?_ (star_plain v3) rfl) rfl)
      · rw [star_plain v3]; rfl
      · rw [v2]; exact beq_self_eq_true _
    · cases v
  | .popE i, C, Wx, X, st, h, v => by
    simp only [okS] at v
    split at v
    · rename_i o m ap cp pos
      simp only [Bool.and_eq_true, decide_eq_true_eq] at v
      obtain ⟨⟨v1, v2⟩, v4⟩ := v
      subst v1
      obtain ⟨x, px, rfl, hv⟩ := name_var h.ec v4
      exact p_popE (ps_expr (pe_bm0 PySem.F.plainAttrs_list PySem.F.slot_list_pop PySem.F.type_list_pop mt_pop hv rfl (by rw [v2]; exact beq_self_eq_true _)) rfl)
    · cases v
  | .setT is c, C, Wx, X, st, h, v => by
    simp only [okS] at v
    have vc := (Bool.and_eq_true_iff.mp v).1
    replace v := (Bool.and_eq_true_iff.mp v).2
    split at v
    · rename_i ts k p e pos
      simp only [Bool.and_eq_true, decide_eq_true_eq] at v
      obtain ⟨⟨⟨⟨⟨v1, v2⟩, v3⟩, v4⟩, v5⟩, v6⟩ := v
      obtain ⟨g1, g2, g3⟩ := okTg_ok h v4
      have pg : PG X (.Tuple ts k p) (gTup X.K is.length (gAsg X.K F is)) := pg_tup (h.ec.calm (cold_ok vc)) g1 ((assign_len g3).1.trans g2) (assign_len g3).2
      exact p_setT (ps_asg (okE_ok c C X e h.ec v5).1 pg ((sole_eq _ _ _ _).trans (noComp_sw v3 _ _ _)) (noSw_ok h v2) rfl) v1
    · cases v
  | .ins i ix c, C, Wx, X, st, h, v => by
    simp only [okS] at v
    split at v
    · rename_i o m ap x e cp pos
      simp only [Bool.and_eq_true, decide_eq_true_eq] at v
      obtain ⟨⟨⟨⟨⟨⟨⟨v1, v2⟩, v3⟩, v3'⟩, v4'⟩, v4⟩, v5⟩, v6', v6⟩ := v
      subst v1
      obtain ⟨y, py, rfl, hv⟩ := name_var h.ec v5
      have A := s_acons (okE_ok ix C X x h.ec v6').1 v4' (s_acons (okE_ok c C X e h.ec v6).1 v4 s_anil v3') v3
      refine p_ins (ps_expr (pe_bm PySem.F.plainAttrs_list PySem.F.slot_list_insert PySem.F.type_list_insert mt_insert hv A rfl ?_ ?_ (star_plain v3) (star_any (by simp [v3']))) rfl)
      · rw [star_plain v3, star_plain v3']; rfl
      · rw [v2]; exact beq_self_eq_true _
    · cases v
  | .ext i c, C, Wx, X, st, h, v => by
    simp only [okS] at v
    split at v
    · rename_i o m ap e cp pos
      simp only [Bool.and_eq_true, decide_eq_true_eq] at v
      obtain ⟨⟨⟨⟨v1, v2⟩, v3⟩, v5⟩, v6⟩ := v
      subst v1
      obtain ⟨x, px, rfl, hv⟩ := name_var h.ec v5
      have A := s_lcons (okE_ok c C X e h.ec v6).1 s_lnil v3
      refine p_ext (ps_expr (pe_bm PySem.F.plainAttrs_list PySem.F.slot_list_extend PySem.F.type_list_extend mt_extend hv A rfl ?_ ?_ (star_plain v3) rfl) rfl)
      · rw [star_plain v3]; rfl
      · rw [v2]; exact beq_self_eq_true _
    · cases v
  | .pop tg i, C, Wx, X, st, h, v => by
    simp only [okS] at v
    split at v
    · rename_i t o m ap cp pos
      simp only [Bool.and_eq_true, decide_eq_true_eq] at v
      obtain ⟨⟨⟨⟨v1, v2⟩, v3⟩, v4⟩, v5⟩ := v
      subst v1
      obtain ⟨x, px, rfl, hv⟩ := name_var h.ec v4
      have hw : swappedStores [t] (.Call (.Attribute (.Name x px) ("pop" : Str) ap) [] [] cp) X.env = pure none := by cases t <;> rfl
      exact p_pop (ps_asg (pe_bm0 PySem.F.plainAttrs_list PySem.F.slot_list_pop PySem.F.type_list_pop mt_pop hv rfl (by rw [v2]; exact beq_self_eq_true _)) (okT_ok h.ec tg t v5) ((sole_eq _ _ _ _).trans rfl) hw (plain_h1 v3)) fun _ _ _ _ q => q
    · cases v
  | .expr c, C, Wx, X, st, h, v => by
    simp only [okS] at v
    split at v
    · simp only [Bool.and_eq_true] at v
      exact p_expr (ps_expr (okE_ok c C X _ h.ec v.2).1 (noComp_sw v.1 _ _ _))
    · cases v
  | .ifs c a b, C, Wx, X, st, h, v => by
    simp only [okS] at v
    split at v
    · simp only [Bool.and_eq_true] at v
      exact p_ifs (okE_ok c C X _ h.ec v.1.1).2 (okSs_ok a C Wx X _ h v.1.2) (okSs_ok b C Wx X _ h v.2)
    · cases v
  | .for tg it b, C, Wx, X, st, h, v => by
    simp only [okS] at v
    have vc := (Bool.and_eq_true_iff.mp v).1
    replace v := (Bool.and_eq_true_iff.mp v).2
    split at v
    · simp only [Bool.and_eq_true] at v
      obtain ⟨⟨⟨⟨v1, v2⟩, v3⟩, v4⟩, v5⟩ := v
      exact p_for h.po (h.ec.calm (cold_ok vc)) (okI_ok it C X _ _ h.ec v4) v2 (okT_ok h.ec tg _ v3) (okSs_ok b C Wx X _ h v5) (noSet_ok v1 _)
    · cases v
  | .while c b, C, Wx, X, st, h, v => by
    simp only [okS] at v
    split at v
    · simp only [Bool.and_eq_true] at v
      exact p_while h.po (okE_ok c C X _ h.ec v.1).2 (okSs_ok b C Wx X _ h v.2)
    · cases v
  | .ret c, C, Wx, X, st, h, v => by
    simp only [okS] at v
    split at v
    · simp only [Bool.and_eq_true] at v
      exact p_ret (okE_ok c C X _ h.ec v.2).1 v.1
    · cases v
  | .retO i, C, Wx, X, st, h, v => by
    simp only [okS] at v
    split at v
    · obtain ⟨x, px, rfl, hv⟩ := name_var h.ec v
      exact p_retO hv
    · cases v
  | .retN, C, Wx, X, st, h, v => by
    simp only [okS] at v
    split at v
    · exact p_retN
    · cases v
  | .pass, C, Wx, X, st, h, v => by
    simp only [okS] at v
    split at v
    · exact p_pass ps_pass
    · exact p_pass ps_doc
    · cases v
  | .brk, C, Wx, X, st, h, v => by
    simp only [okS] at v
    split at v
    · exact p_brk
    · cases v
  | .cont, C, Wx, X, st, h, v => by
    simp only [okS] at v
    split at v
    · exact p_cont
    · cases v
  | .frz i, C, Wx, X, st, h, v => by simp only [okS] at v; cases v
  | .tryX b hs, C, Wx, X, st, h, v => by
    simp only [okS] at v
    have vc := (Bool.and_eq_true_iff.mp v).1
    replace v := (Bool.and_eq_true_iff.mp v).2
    split at v
    · rename_i x h0 r pos
      simp only [Bool.and_eq_true] at v
      obtain ⟨l, h1, h2⟩ := okHs_ok hs C Wx X (h0 :: r) h v.2
      have hN : X.N.Nodup := by rw [h.ec.N]; exact h.ec.nd
      exact p_tryX h.hs h.hf hN h.tk (fun W pn xe tk po => okSs_ok b C W (X.tr pn xe) x ⟨h.ec.tr pn xe, tk, po, h.hs, h.hf, h.allf⟩ v.1) h1 h2
    · cases v
  | .xcall k l es, C, Wx, X, st, h, v => by
    simp only [okS] at v
    have vc := (Bool.and_eq_true_iff.mp v).1
    replace v := (Bool.and_eq_true_iff.mp v).2
    cases k with
    | drop =>
      simp only at v
      split at v
      · exact p_xdrop (ps_expr (okX_ok h vc v).1 ((noComp_sw (okX_ok h vc v).2 _ _ _)))
      · cases v
    | set tg =>
      simp only at v
      split at v
      · rename_i t e pos
        simp only [Bool.and_eq_true] at v
        obtain ⟨⟨⟨v1, v2⟩, v3⟩, v4⟩ := v
        exact p_xset (ps_asg (okX_ok h vc v4).1 (okT_ok h.ec tg t v3) ((sole_eq _ _ _ _).trans (noComp_sw (okX_ok h vc v4).2 _ _ _)) (noSw_ok h v2) (plain_h1 v1)) fun _ _ _ _ q => q
      · cases v
    | ret =>
      simp only at v
      split at v
      · exact p_xret (okX_ok h vc v).1
      · cases v
  | .raise c es, C, Wx, X, st, h, v => by
    simp only [okS] at v
    have vc := (Bool.and_eq_true_iff.mp v).1
    replace v := (Bool.and_eq_true_iff.mp v).2
    split at v
    · rename_i x p1 ys p2 pos
      simp only [Bool.and_eq_true, decide_eq_true_eq] at v
      obtain ⟨⟨⟨rfl, v2⟩, v3⟩, v4⟩ := v
      have hr : c ∈ C.rs := by simpa using v3
      obtain ⟨hx, hz⟩ := h.ec.rz c hr
      obtain ⟨C', hC, hm, hdb⟩ := h.ec.xm c hx
      split at v4
      · split at v4
        · exact p_raise0 (h.ec.calm (cold_ok vc)) h.tk (hz C' hC) (of_decide_eq_true v4) hm (glC_ok h.ec v2) hdb
        · cases v4
      · rename_i y r
        simp only [Bool.and_eq_true, decide_eq_true_eq, Bool.not_eq_true', List.isEmpty_eq_false_iff] at v4
        obtain ⟨⟨⟨⟨⟨w1, w2⟩, w3⟩, w4⟩, w5⟩, w6⟩ := v4
        exact p_raise1 (h.ec.calm (cold_ok vc)) h.tk (hz C' hC) ⟨w4, w5⟩ hm (glC_ok h.ec v2) hdb (h.ec.rm (cold_ok vc)) ((okA_ok es C X _ h.ec w3).1 w2 w1) w1 w6
    · cases v
  | .bad, C, Wx, X, st, h, v => p_bad
theorem okSs_ok : ∀ (cs : List CS) (C : Ck) (Wx : WX) (X : Cx) (sts : List Stmt), SC C F Wx X → okSs C cs sts = true → PSs X sts (tSs X.K F Wx cs)
  | [], C, Wx, X, sts, h, v => by
    simp only [okSs] at v
    split at v
    · exact ss_nil
    · cases v
  | c :: cs, C, Wx, X, sts, h, v => by
    simp only [okSs] at v
    split at v
    · rename_i hf
      exact ss_frz' hf (okSs_ok cs C Wx X sts h v)
    · split at v
      · rename_i hb
        exact ss_bad' hb
      · split at v
        · rename_i st sts
          simp only [Bool.and_eq_true] at v
          exact ss_cons (okS_ok c C Wx X st h v.1) (okSs_ok cs C Wx X sts h v.2)
        · cases v
theorem okHs_ok : ∀ (chs : List CH) (C : Ck) (Wx : WX) (X : Cx) (hds : List ExceptHandler), SC C F Wx X → okHs C chs hds = true → ∃ l, HdsX X hds l ∧ HL X.K F chs l
  | [], C, Wx, X, hds, h, v => by
    simp only [okHs] at v
    split at v
    · exact ⟨[], .nil, .nil⟩
    · cases v
  | .hd d cs o b :: chs, C, Wx, X, hds, h, v => by
    simp only [okHs] at v
    split at v
    · rename_i x p1 n b₀ su p2 hds
      simp only [Bool.and_eq_true, decide_eq_true_eq] at v
      obtain ⟨⟨⟨⟨⟨⟨rfl, v2⟩, v3⟩, v4⟩, v5⟩, v6⟩, v7⟩ := v
      have hd : d ∈ C.xs := by simpa using v3
      obtain ⟨D, hD, hm, hdb⟩ := h.ec.xm d hd
      obtain ⟨l, h1, h2⟩ := okHs_ok chs C Wx X hds h v7
      refine ⟨_, .cons (c := .ref D) (o := o) ⟨glC_ok h.ec v2, hdb, .inl hm⟩ ?_ (fun a pn => okSs_ok b { C with hot := true } (fun _ _ _ _ => False) (X.suite a pn) (b₀ :: su) ⟨h.ec.suite a pn, takes0, PassesOwn.never, h.hs, h.hf, h.allf⟩ v6) h1,
        .cons (fun c hc C' hC => (h.ec.xb d hd D hD).exm (h.ec.xp c (all_mem v4 hc) d hd C' D hC hD)) h2⟩
      cases o with
      | none =>
        cases n with
        | none => trivial
        | some y => simp at v5
      | some i =>
        cases n with
        | none => simp at v5
        | some y =>
          simp only [Bool.and_eq_true, decide_eq_true_eq] at v5
          refine ⟨by rw [h.ec.N]; exact v5.1, ?_⟩
          rw [(blk_fn h).2]
          exact v5.2
    · cases v
end
end
end Ip

/-! Ip14: defs; the law. -/
namespace Ip
open PySem PySem.Spec PyProof.Rows L2

/-- a def: its name, its names' slots, how many are parameters, its core text -/
structure Ent where
  x : Str
  N : List Str
  np : Nat
  c : List CS
def idx : Nat → List Ent → List (Str × Nat)
  | _, [] => []
  | n, e :: es => (e.x, n) :: idx (n + 1) es
def Gam (tab : List Ent) : Nat → Option CFn := fun g => (tab[g]?).map fun e => ⟨e.N.length, e.np, e.c⟩
/-- what is known of the module: its defs, built-ins, constants; its error classes, those that are raised -/
structure Tb where
  fs : List (Str × Nat)
  bs : List Str
  cs : List (Str × T)
  xs : List Nat
  rs : List Nat
def mkC (B : Tb) (e : Ent) (sc : Scope) : Ck := ⟨e.N, sc, fun _ => true, B.fs, B.bs, B.cs, B.xs, B.rs, false⟩
def nmOk (x : Str) : Bool := !(x == ("__debug__" : Str)) && !(x == ("__classdict__" : Str))
def scOk (N P : List Str) (sc : Scope) : Bool :=
  (match sc.kind with | .function => true | _ => false) && !sc.isCoroutine && !sc.isGenerator && decide N.Nodup && decide (N.take P.length = P) &&
    P.all (fun x => match sc.names.lookup x with | some .local => true | some .cell => true | _ => false) && sc.names.all (fun y => match y.2 with | .free => false | _ => true)
theorem scOk_ok {N P : List Str} {sc : Scope} (h : scOk N P sc = true) : FnScope N P sc := by
  simp only [scOk, Bool.and_eq_true, Bool.not_eq_true', decide_eq_true_eq, List.all_eq_true] at h
  obtain ⟨⟨⟨⟨⟨⟨h1, h2⟩, h3⟩, h4⟩, h5⟩, h6⟩, h7⟩ := h
  refine ⟨?_, h2, h3, h4, h5, fun x hx => ?_, fun y hy z => ?_⟩
  · split at h1
    · assumption
    · cases h1
  · have := h6 x hx
    split at this
    · rename_i z; exact .inl z
    · rename_i z; exact .inr z
    · cases this
  · have := h7 y hy
    rw [z] at this
    cases this
def entOk (B : Tb) (e : Ent) (body : List Stmt) (sc : Scope) : Bool :=
  okSs (mkC B e sc) e.c body && scOk e.N (e.N.take e.np) sc && e.N.all nmOk && nmOk e.x && decide (e.np ≤ e.N.length)
/-- what the top has written of a def -/
def FF (K : W.Frag) (B : Tb) (e : Ent) (f : Addr) (fd : FuncData) : Prop :=
  ∃ (oc : Value) (od : Option Addr) (args : Arguments) (body : List Stmt) (sc : Scope) (kV doc pm : Value) (an : Option Addr) (cdv ct : Value) (osl : Array (Option Value)),
    PySem.W.nsIn K mainGlobals e.x = some (some (.ref f)) ∧ fd = PySem.W.fnOf e.x e.x args body sc .none kV doc pm an cdv ct ∧ K.lookup f = some ⟨oc, od, .func fd, osl⟩ ∧ PySem.W.codeIn K cdv e.x = true ∧ PySem.W.keepIn K (.ref f) = true ∧
    entOk B e body sc = true ∧ ∀ us : List Value, us.length = e.np → bindArgs fd ⟨us, []⟩ = pure ((e.N.take e.np).zip us)
theorem nmOk_ok {x : Str} (h : nmOk x = true) : (x == ("__debug__" : Str)) = false ∧ (x == ("__classdict__" : Str)) = false := by
  simp only [nmOk, Bool.and_eq_true, Bool.not_eq_true'] at h
  exact h
theorem idx_of : ∀ {es : List Ent} {n : Nat} {x : Str} {g : Nat}, (idx n es).lookup x = some g → ∃ e, es[g - n]? = some e ∧ e.x = x ∧ n ≤ g
  | [], n, x, g, h => by simp [idx] at h
  | e :: es, n, x, g, h => by
    simp only [idx, List.lookup_cons] at h
    split at h
    · rename_i hx
      cases h
      exact ⟨e, by simp, (eq_of_beq hx).symm, Nat.le_refl _⟩
    · obtain ⟨e', h1, h2, h3⟩ := idx_of h
      refine ⟨e', ?_, h2, by omega⟩
      have : g - n = (g - (n + 1)) + 1 := by omega
      rw [this, List.getElem?_cons_succ]
      exact h1

section
variable {K : W.Frag} {H H' : Hp} {φ : List Addr} {E E' : Excl} {S S' : Store}
theorem En.get_init : ∀ {ts : List T} {m i : Nat} {t : T}, En.get (ts.map some ++ List.replicate m none) i = some t → ts[i]? = some t
  | [], 0, i, t, h => by simp [En.get] at h
  | [], m + 1, 0, t, h => by simp [List.replicate_succ, En.get] at h
  | [], m + 1, i + 1, t, h => by
    simp only [List.map_nil, List.nil_append, List.replicate_succ, En.get] at h
    have := En.get_init (ts := []) (m := m) (i := i) (t := t) (by simpa using h)
    simp at this
  | x :: ts, m, 0, t, h => by
    simp only [List.map_cons, List.cons_append, En.get] at h
    simpa using h
  | x :: ts, m, i + 1, t, h => by
    simp only [List.map_cons, List.cons_append, En.get] at h
    simpa using En.get_init h
/-- the state at a def's entry -/
theorem SR.start {ts : List T} {vs : List V} {N : List Str} (st : StR K φ E H S) (r : Reps K H φ E ts vs) (hl : vs.length ≤ N.length) :
    SR K ⟨φ, E, H⟩ ⟨φ, E, fun _ => none⟩ (L2.start N vs) H (ts.map some ++ List.replicate (N.length - ts.length) none) S := by
  have tt : ∀ a, Wd.tot ⟨φ, E, fun _ => none⟩ a → E a := by
    rintro a (h | ⟨i, h⟩)
    · exact h
    · cases h
  have g : Grow H H E (Wd.tot ⟨φ, E, fun _ => none⟩) := Grow.less tt
  refine ⟨st.less tt fun a ha => .inl (st.pe a ha), st.pe, fun i a h => (by cases h), fun i a h => (by cases h), fun i j a h => (by cases h), fun a h => h, List.prefix_refl _, fun a h => .inl h, Kp.refl _ _, ?_, fun i t e => ?_⟩
  · simp only [L2.start, List.length_append, List.length_map, List.length_replicate, r.len]
  · have e1 := En.get_init e
    obtain ⟨v, h1, h2⟩ := r.get e1
    have hi := (List.getElem?_eq_some_iff.mp h1).1
    refine ⟨v, ?_, ?_⟩
    · simp only [L2.start]
      rw [List.getElem?_append_left (by simpa using hi), List.getElem?_map, h1]
      rfl
    · have h3 := Rep.grow g (List.prefix_refl φ) _ _ h2
      cases t with
      | own xs => simp only [Rep] at h2
      | odct ks xs => simp only [Rep] at h2
      | _ => exact h3
mutual
theorem Rep.noRef {φ' : List Addr} : ∀ (t : T) (v : V), noRef t = true → Rep K H φ' E t v → Rep K H φ E t v
  | .non, v, _, h => by simp only [Rep] at h ⊢; exact h
  | .bl b, v, _, h => by simp only [Rep] at h ⊢; exact h
  | .int i, v, _, h => by simp only [Rep] at h ⊢; exact h
  | .str s, v, _, h => by simp only [Rep] at h ⊢; exact h
  | .tup xs, v, n, h => by
    simp only [Rep] at h ⊢
    obtain ⟨a, vs, e, s, r⟩ := h
    exact ⟨a, vs, e, s, Reps.noRef xs vs (by simpa only [Ip.noRef] using n) r⟩
  | .lst xs, v, n, h => by
    simp only [Rep] at h ⊢
    obtain ⟨a, vs, e, z, s, r⟩ := h
    exact ⟨a, vs, e, z, s, Reps.noRef xs vs (by simpa only [Ip.noRef] using n) r⟩
  | .frz ns, v, _, h => by simp only [Rep] at h ⊢; exact h
  | .ref k, v, n, h => by simp [Ip.noRef] at n
  | .own _, v, _, h => by simp only [Rep] at h
  | .fn _ _, v, _, h => by simp only [Rep] at h ⊢; exact h
  | .exv _ _, v, _, h => by simp only [Rep] at h ⊢; exact h
  | .dct _ _ _, v, n, h => by simp [Ip.noRef] at n
  | .ctup _, v, n, h => by simp [Ip.noRef] at n
  | .odct _ _ _, v, _, h => by simp only [Rep] at h
theorem Reps.noRef {φ' : List Addr} : ∀ (ts : List T) (vs : List V), noRefs ts = true → Reps K H φ' E ts vs → Reps K H φ E ts vs
  | [], vs, _, h => by simp only [Reps] at h ⊢; exact h
  | x :: xs, vs, n, h => by
    simp only [noRefs, Bool.and_eq_true] at n
    simp only [Reps] at h ⊢
    obtain ⟨v, r, e, h1, h2⟩ := h
    exact ⟨v, r, e, Rep.noRef x v n.1 h1, Reps.noRef xs r n.2 h2⟩
end
theorem noRefs_get : ∀ {xs : List T} {i : Nat} {t : T}, noRefs xs = true → xs[i]? = some t → noRef t = true
  | [], i, t, h, e => by simp at e
  | x :: xs, 0, t, h, e => by
    simp only [noRefs, Bool.and_eq_true] at h
    simp at e; subst e; exact h.1
  | x :: xs, i + 1, t, h, e => by
    simp only [noRefs, Bool.and_eq_true] at h
    exact noRefs_get h.2 (by simpa using e)
/-- a def's end -/
theorem close_ok {f : Fm} {w : Wd} {σ : L2.St} {ρ : En} {t t' : T} {v : V} {S0 S2 : Store} (s : SR K f w σ H ρ S) (e : ER K w.φ w.tot true f.H0 H t v) (h0 : f.φ0.length = S0.length) (n0 : f.φ0.Nodup) (p0 : ∀ a ∈ f.φ0, f.E0 a) (hc : close S0.length t S = .ok (t', S2)) :
    Kp f.φ0 f.H0 H ∧ StR K f.φ0 f.E0 H S2 ∧ ER K f.φ0 f.E0 true f.H0 H t' v := by
  have tt : ∀ a, f.E0 a → w.tot a := fun a z => .inl (s.eE a z)
  have dm : ∀ a, f.E0 a → H a ≠ none := fun a z => s.st.dom a (tt a z)
  obtain ⟨r, hr⟩ := s.pre
  unfold close at hc
  split at hc
  · rename_i hl
    cases hc
    have hφ : w.φ = f.φ0 := by
      rw [← hr]
      have := s.st.len
      rw [← hr, List.length_append, h0, hl] at this
      have : r = [] := List.length_eq_zero_iff.mp (by omega)
      rw [this, List.append_nil]
    have st := s.st
    rw [hφ] at st e
    refine ⟨s.k0, st.ex p0 dm, ?_⟩
    cases e with
    | rep r => exact .rep (Rep.grow (Grow.less tt) (List.prefix_refl _) _ _ r)
    | new n hb ha ra => exact .new (fun z => n (tt _ z)) hb ha (ra.grow (Grow.less fun b z => z.elim (fun z => .inl (tt b z)) .inr) (List.prefix_refl _) _ _)
    | look z => cases z
    | newd n hb ha hl ra => exact .newd (fun z => n (tt _ z)) hb ha hl (ra.grow (Grow.less fun b z => z.elim (fun z => .inl (tt b z)) .inr) (List.prefix_refl _) _ _)
    | lookd z => cases z
  · split at hc
    · rename_i hl hn
      cases hc
      obtain ⟨n1, n2, n3⟩ := hn
      have ls := s.st.len
      refine ⟨s.k0, ⟨?_, n0, p0, dm, fun k t hk => ?_, fun k xs hk => ?_⟩, ?_⟩
      · rw [List.length_take, h0]; omega
      · have hk' : S[k]? = some t ∧ k < S0.length := by
          rw [List.getElem?_take] at hk
          split at hk
          · rename_i q; exact ⟨hk, q⟩
          · cases hk
        obtain ⟨a, h1, h2⟩ := s.st.obj k t hk'.1
        refine ⟨a, ?_, ?_⟩
        · rw [← hr, List.getElem?_append_left (by omega)] at h1
          exact h1
        · have nr := noRefs_get n3 hk
          cases t with
          | own xs =>
            simp only [ObjR] at h2 ⊢
            obtain ⟨ws, q, ra⟩ := h2
            refine ⟨ws, q, ?_⟩
            exact Reps.noRef xs ws (by simpa only [Ip.noRef] using nr) (ra.grow (Grow.less tt) (List.prefix_refl _) _ _)
          | _ => simp only [ObjR] at h2
      · rw [List.getElem?_take] at hk
        split at hk
        · exact s.st.nl k xs hk
        · cases hk
      · cases e with
        | rep r => exact .rep (Rep.noRef _ _ n2 (Rep.grow (Grow.less tt) (List.prefix_refl _) _ _ r))
        | new n hb ha ra =>
          exact .new (fun z => n (tt _ z)) hb ha (Reps.noRef _ _ (by simpa only [Ip.noRef] using n2) (ra.grow (Grow.less fun b z => z.elim (fun z => .inl (tt b z)) .inr) (List.prefix_refl _) _ _))
        | look z => cases z
        | newd n hb ha hl ra => simp [Ip.noRef] at n2
        | lookd z => cases z
    · cases hc
end
/-- what stands of the module -/
structure Top (K : W.Frag) (mg : Str → Option Value) (bs : List Str) (cs : List (Str × T)) (xs rs : List Nat) : Prop where
  bs : ∀ x ∈ bs, mg x = none
  cs : ∀ x t, cs.lookup x = some t → (x == ("__debug__" : Str)) = false ∧ ∃ v u, mg x = some u ∧ RelV v u ∧ ∀ H φ E, Rep K H φ E t v
  xb : ∀ c ∈ xs, ∀ C', ClsAt K c C' → XB K c C'
  xp : ∀ c ∈ xs, ∀ d ∈ xs, ∀ C' D', ClsAt K c C' → ClsAt K d D' → PySem.W.subIn K (.ref C') (.ref D') = some (mch c d)
  xm : ∀ c ∈ xs, ∃ C', ClsAt K c C' ∧ mg (clsN c) = some (.ref C') ∧ (clsN c == ("__debug__" : Str)) = false
  rz : ∀ c ∈ rs, c ∈ xs ∧ ∀ C', ClsAt K c C' → XRz K c C'
theorem callF_ok {Γ : Nat → Option CFn} {k g : Nat} {c : CFn} {ts : List T} {S : Store} {r : Res (T × Store)} (hG : Γ g = some c) (h : callF Γ (k + 1) g ts S = r) (n : r ≠ .bad) :
    ts.length = c.params ∧ ∃ fl, evalSs (callF Γ k) c.body (ts.map some ++ List.replicate (c.slots - c.params) none) S = .ok fl ∧ (match fl with
      | .nx _ S' => close S.length .non S'
      | .rt t S' => close S.length t S'
      | .xc k as _ S' => match close S.length .non S' with
        | .ok (_, S2) => .exc k as S2
        | _ => .bad
      | _ => .bad) = r := by
  simp only [callF, hG] at h
  split at h
  · rename_i hl
    refine ⟨hl, ?_⟩
    generalize e : evalSs (callF Γ k) c.body (ts.map some ++ List.replicate (c.slots - c.params) none) S = x at h
    cases x with
    | ok fl => exact ⟨fl, rfl, h⟩
    | exc a b d => exact absurd h.symm n
    | bad => exact absurd h.symm n
  · exact absurd h.symm n
theorem fns_ok {P : Program} {w : World} {K : W.Frag} {mg : Str → Option Value} {base : Heap} {tab : List Ent} {bs : List Str} {cs : List (Str × T)} {xs rs : List Nat} (T0 : Top K mg bs cs xs rs) (fa : Nat → Addr) (fd : Nat → FuncData)
    (hf : ∀ (g : Nat) (e : Ent), tab[g]? = some e → FF K ⟨idx 0 tab, bs, cs, xs, rs⟩ e (fa g) (fd g)) (hm : ∀ (g : Nat) (e : Ent), tab[g]? = some e → mg e.x = some (.ref (fa g))) :
    ∀ (k g : Nat) (e : Ent), tab[g]? = some e → FnOk P w K mg base (L2.CX P w) (k + 2) (fa g) (fd g) (e.N.take e.np) (sp K (callF (Gam tab) k) g) := by
  intro k
  induction k with
  | zero =>
    intro g e he
    refine ⟨fun vs H Q E h => ?_, fun A outer s H args us vs Q E _ _ _ _ h => ?_⟩
    · obtain ⟨φ, E, ts, S, st, r, ⟨t, S', ev, q⟩ | ⟨c, as, S', ev, q⟩⟩ := h
      · simp only [callF] at ev; cases ev
      · simp only [callF] at ev; cases ev
    · obtain ⟨φ, E, ts, S, st, r, ⟨t, S', ev, q⟩ | ⟨c, as, S', ev, q⟩⟩ := h
      · simp only [callF] at ev; cases ev
      · simp only [callF] at ev; cases ev
  | succ k ih =>
    intro g e he
    obtain ⟨oc, od, args, body, sc, kV, doc, pm, an, cdv, ct, osl, h1, h2, h3, h4, h5, h6, h7⟩ := hf g e he
    simp only [entOk, Bool.and_eq_true, decide_eq_true_eq, List.all_eq_true] at h6
    obtain ⟨⟨⟨⟨k1, k2⟩, k3⟩, k4⟩, k5⟩ := h6
    have S := scOk_ok k2
    have Fu : L2.Fun K e.x e.x (.FunctionDef e.x args body [] none [] sc none e.x ⟨0, 0, 0, 0⟩) (fa g) (fd g) := by
      rw [h2] at h3 ⊢
      exact fun_mk (st := .FunctionDef e.x args body [] none [] sc none e.x ⟨0, 0, 0, 0⟩) h3 h4 h5
    have hlen : (e.N.take e.np).length = e.np := by rw [List.length_take]; omega
    have hG : Gam tab g = some ⟨e.N.length, e.np, e.c⟩ := by unfold Gam; rw [he]; rfl
    refine Fu.okX (N := e.N) (k := k + 2) S (fun vs H Q E h => ?_) fun cdv A outer s H vs Q E rm h => ?_
    · obtain ⟨φ, E, ts, S, st, r, ⟨t, S', ev, q⟩ | ⟨c, as, S', ev, q⟩⟩ := h
      · rw [hlen, ← r.len, (callF_ok hG ev (by simp)).1]
      · rw [hlen, ← r.len, (callF_ok hG ev (by simp)).1]
    · have hun : Around.units (A.deeper (envOfC e.x (defScope (.FunctionDef e.x args body [] none [] sc none e.x ⟨0, 0, 0, 0⟩)) s.heap.objs.size (fa g) cdv)) + 100 < cLine := by
        have : (A.deeper (envOfC e.x (defScope (.FunctionDef e.x args body [] none [] sc none e.x ⟨0, 0, 0, 0⟩)) s.heap.objs.size (fa g) cdv)).units + 16 * (k + 2) + 200 < cLine := rm.un
        exact Nat.lt_of_le_of_lt (by show _ + 100 ≤ _ + 16 * (k + 2) + 200; exact Nat.add_le_add (Nat.le_add_right _ _) (by omega)) this
      refine ⟨tSs K (callF (Gam tab) k) (fun cls d _ H => E cls d H) e.c, okSs_ok e.c (mkC ⟨idx 0 tab, bs, cs, xs, rs⟩ e sc) _ _ body ⟨⟨rfl, S.nd, fun x hx => nmOk_ok (k3 x hx), rfl, S.kind, fun _ _ => rfl, fun _ => rfl, hun, fun _ x g' hg => ?_, T0.bs, T0.cs, T0.xb, T0.xp, T0.xm, T0.rz, fun _ => rm.mono (by omega)⟩,
        takes_of rfl rfl rfl rfl, passes_of rfl, rfl, rfl, fun _ => rfl⟩ k1, ?_⟩
      · obtain ⟨e', q1, q2, q3⟩ := idx_of hg
        rw [Nat.sub_zero] at q1
        obtain ⟨oc', od', args', body', sc', kV', doc', pm', an', cdv', ct', osl', i1, i2, i3, i4, i5, i6, i7⟩ := hf g' e' q1
        have nx : (x == ("__debug__" : Str)) = false := by
          simp only [entOk, Bool.and_eq_true, decide_eq_true_eq, List.all_eq_true] at i6
          rw [← q2]
          exact (nmOk_ok i6.1.2).1
        have i8 : e'.np ≤ e'.N.length := by
          simp only [entOk, Bool.and_eq_true, decide_eq_true_eq, List.all_eq_true] at i6
          exact i6.2
        refine ⟨k + 2, fa g', fd g', _, ih g' e' q1, rm, by rw [← q2]; exact hm g' e' q1, i5, Binds.all fun us hu => ?_, nx, by rw [← q2]; exact i1⟩
        exact i7 us (by rw [hu, List.length_take]; omega)
      · obtain ⟨φ, E0, ts, S0, st, r, h⟩ := h
        have go : ∀ {fl : Fl}, ts.length = e.np → evalSs (callF (Gam tab) k) e.c (ts.map some ++ List.replicate (e.N.length - e.np) none) S0 = .ok fl → EndOf K ⟨φ, E0, H⟩ ⟨φ, E0, fun _ => none⟩ H { nx := fun _ H' => Q .non H', rt := Q } (fun cls d _ H => E cls d H) fl →
            tSs K (callF (Gam tab) k) (fun cls d _ H => E cls d H) e.c { nx := fun _ H' => Q .non H', rt := Q } (L2.start e.N vs) H := by
          intro fl hl e1 q
          have s0 := SR.start (N := e.N) st r (by rw [← r.len, hl]; exact k5)
          rw [hl] at s0
          exact ⟨_, _, _, S0, s0, fl, e1, q⟩
        rcases h with ⟨t, S', ev, q⟩ | ⟨c, as, S', ev, q⟩
        · obtain ⟨hl, fl, e1, ev⟩ := callF_ok hG ev (by simp)
          refine go hl e1 ?_
          cases fl with
          | nx ρ S1 =>
            intro w' σ' H' s' _
            obtain ⟨c1, c2, c3⟩ := close_ok (t := .non) (v := .non) s' (.rep (by simp only [Rep])) st.len st.nd st.pe ev
            exact q _ _ c1 c2 c3
          | rt t1 S1 =>
            intro v w' σ' ρ' H' s' er
            obtain ⟨c1, c2, c3⟩ := close_ok s' er st.len st.nd st.pe ev
            exact q _ _ c1 c2 c3
          | bk ρ S1 => cases ev
          | ct ρ S1 => cases ev
          | xc c as ρ S1 =>
            simp only at ev
            split at ev <;> cases ev
        · obtain ⟨hl, fl, e1, ev⟩ := callF_ok hG ev (by simp)
          refine go hl e1 ?_
          have noC : ∀ {t : T} {S1 : Store}, close S0.length t S1 ≠ .exc c as S' := by
            intro t S1 z
            unfold close at z
            split at z
            · cases z
            · split at z <;> cases z
          cases fl with
          | nx ρ S1 => exact absurd ev noC
          | rt t1 S1 => exact absurd ev noC
          | bk ρ S1 => cases ev
          | ct ρ S1 => cases ev
          | xc c' as' ρ S1 =>
            simp only at ev
            split at ev
            · rename_i t2 S2 ec
              cases ev
              intro cls d w' σ' H' s' _ xr
              obtain ⟨c1, c2, c3⟩ := close_ok (t := .non) (v := .non) s' (.rep (by simp only [Rep])) st.len st.nd st.pe ec
              exact q cls d H' c1 c2 xr
            · cases ev
theorem only_frz {K : W.Frag} {H : Hp} {a : Addr} {xs : List V} (o : Only H) (h : SqL K H a xs) : FrzL K H a xs := by
  rcases h with (h | ⟨ob, h⟩) | h
  · rcases o a with z | ⟨ob, ys, z⟩
    · rw [z] at h; cases h
    · rw [z] at h; cases h
  · exact .inl ⟨ob, h⟩
  · exact .inr (.inr h)
/-- the error classes, with their addresses -/
inductive XTs (K : W.Frag) : List (Nat × Addr) → Prop
  | nil : XTs K []
  | cons {c : Nat} {C : Addr} {l : List (Nat × Addr)} (h : XB K c C) (r : XTs K l) : XTs K ((c, C) :: l)
inductive XRow (K : W.Frag) (c : Nat) (C : Addr) : List (Nat × Addr) → Prop
  | nil : XRow K c C []
  | cons {d : Nat} {D : Addr} {l : List (Nat × Addr)} (h : PySem.W.subIn K (.ref C) (.ref D) = some (mch c d)) (r : XRow K c C l) : XRow K c C ((d, D) :: l)
inductive XMat (K : W.Frag) (m : List (Nat × Addr)) : List (Nat × Addr) → Prop
  | nil : XMat K m []
  | cons {c : Nat} {C : Addr} {l : List (Nat × Addr)} (h : XRow K c C m) (r : XMat K m l) : XMat K m ((c, C) :: l)
def XR2 (K : W.Frag) (c : Nat) (C : Addr) : Prop := (clsF c = [] ∧ ∃ bmB B n i, ExcBaseFacts B n i bmB ∧ PySem.W.excIn K C bmB n = true) ∨ (clsF c ≠ [] ∧ ∃ fI fd, XI K c C fI fd)
inductive XRs (K : W.Frag) : List Nat → Prop
  | nil : XRs K []
  | cons {c : Nat} {C : Addr} {l : List Nat} (h : ClsAt K c C) (h2 : XR2 K c C) (r : XRs K l) : XRs K (c :: l)
theorem clsAt_of {K : W.Frag} {c : Nat} {C : Addr} {x : Str} (e : clsN c = x) (n : PySem.W.nsIn K mainGlobals x = some (some (.ref C))) : ClsAt K c C := by
  unfold ClsAt; rw [e]; exact n
theorem fl0 {K : W.Frag} {c : Nat} {C : Addr} (h : clsF c = []) : ∀ f ∈ clsF c, PySem.W.findIn K (.ref C) f = some none := fun f hf => by rw [h] at hf; cases hf
theorem fl1 {K : W.Frag} {c : Nat} {C : Addr} {f1 : Str} (h : clsF c = [f1]) (p : PySem.W.findIn K (.ref C) f1 = some none) : ∀ f ∈ clsF c, PySem.W.findIn K (.ref C) f = some none := fun f hf => by
  rw [h] at hf
  rcases List.mem_singleton.mp hf with rfl
  exact p
theorem fl2 {K : W.Frag} {c : Nat} {C : Addr} {f1 f2 : Str} (h : clsF c = [f1, f2]) (p : PySem.W.findIn K (.ref C) f1 = some none) (q : PySem.W.findIn K (.ref C) f2 = some none) : ∀ f ∈ clsF c, PySem.W.findIn K (.ref C) f = some none := fun f hf => by
  rw [h] at hf
  rcases List.mem_cons.mp hf with rfl | hf
  · exact p
  · rcases List.mem_singleton.mp hf with rfl
    exact q
theorem XB.of {K : W.Frag} {c : Nat} {C : Addr} {x : Str} (e : clsN c = x) (n : PySem.W.nsIn K mainGlobals x = some (some (.ref C))) (h1 : PySem.W.subIn K (.ref C) (.type "BaseException") = some true) (h2 : PySem.W.subIn K (.ref C) (.type "ValueError") = some true) (h3 : PySem.W.subIn K (.ref C) (.ref C) = some true)
    (h4 : PySem.W.typeIn K (.ref C) = some (.type "type")) (h5 : PySem.W.hasDictIn K C = true) (h6 : PySem.W.findIn K (.ref C) "__getattribute__" = some (some (.builtin "BaseException.__getattribute__"))) (h7 : PySem.W.findIn K (.ref C) "__getattr__" = some none)
    (h8 : PySem.W.findIn K (.ref C) "__class__" = some (some (.builtin "object.__class__"))) (h9 : PySem.W.mroIn K C (.type "object") = some true) (ha : PySem.W.keepIn K (.ref C) = true) (hb : ∀ f ∈ clsF c, PySem.W.findIn K (.ref C) f = some none)
    (hc : PySem.W.specialIn K (.builtin "object.__class__") "__get__" = some (some (.builtin "getset_descriptor.__get__"))) (hd : PySem.W.takesIn K (.builtin "object.__class__") = some true) : XB K c C := ⟨by unfold ClsAt; rw [e]; exact n, h1, h2, h3, h4, h5, h6, h7, h8, h9, ha, hb, hc, hd⟩
def initOk (c : Nat) (body : List Stmt) (sc : Scope) : Bool := initC (clsF c) body && scOk ("self" :: clsF c) ("self" :: clsF c) sc && (("self" : Str) :: clsF c).all nmOk && !(clsF c).isEmpty && decide ((clsF c).length ≤ 700)
theorem xr_init {K : W.Frag} {c : Nat} {C fI : Addr} {nm q : Str} {N : Addr} {bs bm : List Value} {sn : List Str} {sub : List Value} {ab : Bool} {col : _} {dd : Option Addr} {k0 k1 k2 k3 k5 : Option Value} {oc : Value} {od : Option Addr} {qual : Str} {args : Arguments} {body : List Stmt} {sc : Scope} {kV doc pm : Value} {an : Option Addr} {cdv ct : Value} {osl : Array (Option Value)}
    (xL : K.lookup C = some (excClassObj nm q C N bs bm true sn sub ab col dd k0 k1 k2 k3 k5 "ValueError.__new__")) (rv : PySem.HandSPX.refsVE bm = true) (sa : PySem.W.findIn K (.ref C) "__setattr__" = some (some (.builtin "object.__setattr__"))) (ex : PySem.W.subIn K (.ref C) (.type "BaseException") = some true)
    (ty : PySem.W.typeIn K (.ref C) = some (.type "type")) (kC : PySem.W.keepIn K (.ref C) = true) (fl : ∀ f ∈ clsF c, PySem.W.findIn K (.ref C) f = some none) (ii : PySem.W.findIn K (.ref C) "__init__" = some (some (.ref fI))) (ti : PySem.W.typeIn K (.ref fI) = some (.type "function"))
    (l : K.lookup fI = some ⟨oc, od, .func (PySem.W.fnOf "__init__" qual args body sc .none kV doc pm an cdv ct), osl⟩) (cd : PySem.W.codeIn K cdv qual = true) (kf : PySem.W.keepIn K (.ref fI) = true) (h5 : initOk c body sc = true)
    (h6 : ∀ us : List Value, us.length = (("self" : Str) :: clsF c).length → bindArgs (PySem.W.fnOf "__init__" qual args body sc .none kV doc pm an cdv ct) ⟨us, []⟩ = pure ((("self" : Str) :: clsF c).zip us)) : XR2 K c C := by
  simp only [initOk, Bool.and_eq_true, decide_eq_true_eq, Bool.not_eq_true', List.isEmpty_eq_false_iff, List.all_eq_true] at h5
  obtain ⟨⟨⟨⟨w1, w2⟩, w3⟩, w4⟩, w5⟩ := h5
  have Fu : L2.Fun K "__init__" qual (.FunctionDef "__init__" args body [] none [] sc none "__init__" ⟨0, 0, 0, 0⟩) fI _ := fun_mk (st := .FunctionDef "__init__" args body [] none [] sc none "__init__" ⟨0, 0, 0, 0⟩) l cd kf
  exact .inr ⟨w4, fI, _, xi_mk ⟨⟨nm, q, N, bs, bm, sn, sub, ab, col, dd, k0, k1, k2, k3, k5, xL, rv⟩, sa, ex, ty, kC⟩ fl ii ti Fu (scOk_ok w2) w1 w4 w5 (fun x hx => nmOk_ok (w3 x hx)) (Binds.all h6)⟩
structure XFacts (K : W.Frag) (xs rs : List Nat) (l : List (Nat × Addr)) : Prop where
  fst : l.map (·.1) = xs
  ts : XTs K l
  mat : XMat K l l
  xrs : XRs K rs
  sub : rs.all xs.contains = true
  db : xs.all (fun c => !(clsN c == ("__debug__" : Str))) = true
section
variable {K : W.Frag} {xs rs : List Nat} {l m : List (Nat × Addr)}
theorem XTs.get (h : XTs K l) : ∀ p ∈ l, XB K p.1 p.2 := by
  induction h with
  | nil => intro p hp; cases hp
  | cons h r ih =>
    intro p hp
    rcases List.mem_cons.mp hp with rfl | hp
    · exact h
    · exact ih p hp
theorem XRow.get {c : Nat} {C : Addr} (h : XRow K c C l) : ∀ q ∈ l, PySem.W.subIn K (.ref C) (.ref q.2) = some (mch c q.1) := by
  induction h with
  | nil => intro p hp; cases hp
  | cons h r ih =>
    intro p hp
    rcases List.mem_cons.mp hp with rfl | hp
    · exact h
    · exact ih p hp
theorem XMat.get (h : XMat K m l) : ∀ p ∈ l, XRow K p.1 p.2 m := by
  induction h with
  | nil => intro p hp; cases hp
  | cons h r ih =>
    intro p hp
    rcases List.mem_cons.mp hp with rfl | hp
    · exact h
    · exact ih p hp
theorem XRs.get (h : XRs K rs) : ∀ c ∈ rs, ∃ C, ClsAt K c C ∧ XR2 K c C := by
  induction h with
  | nil => intro p hp; cases hp
  | @cons c C l h h2 r ih =>
    intro p hp
    rcases List.mem_cons.mp hp with rfl | hp
    · exact ⟨C, h, h2⟩
    · exact ih p hp
theorem XFacts.at_ (h : XFacts K xs rs l) {c : Nat} (hc : c ∈ xs) : ∃ C, (c, C) ∈ l ∧ XB K c C := by
  rw [← h.fst] at hc
  obtain ⟨⟨c', C⟩, hp, e⟩ := List.mem_map.mp hc
  simp only at e
  subst e
  exact ⟨C, hp, h.ts.get _ hp⟩
theorem XFacts.xb (h : XFacts K xs rs l) : ∀ c ∈ xs, ∀ C', ClsAt K c C' → XB K c C' := fun c hc C' h' => by
  obtain ⟨C, _, b⟩ := h.at_ hc
  rw [h'.eq b.at_]; exact b
theorem XFacts.xp (h : XFacts K xs rs l) : ∀ c ∈ xs, ∀ d ∈ xs, ∀ C' D', ClsAt K c C' → ClsAt K d D' → PySem.W.subIn K (.ref C') (.ref D') = some (mch c d) := fun c hc d hd C' D' h1 h2 => by
  obtain ⟨C, m1, b1⟩ := h.at_ hc
  obtain ⟨D, m2, b2⟩ := h.at_ hd
  rw [h1.eq b1.at_, h2.eq b2.at_]
  exact (h.mat.get _ m1).get _ m2
theorem XFacts.xm (h : XFacts K xs rs l) : ∀ c ∈ xs, ∃ C', ClsAt K c C' ∧ (clsN c == ("__debug__" : Str)) = false := fun c hc => by
  obtain ⟨C, _, b⟩ := h.at_ hc
  exact ⟨C, b.at_, by simpa using List.all_eq_true.mp h.db c hc⟩
theorem XFacts.rz (h : XFacts K xs rs l) : ∀ c ∈ rs, c ∈ xs ∧ ∀ C', ClsAt K c C' → XRz K c C' := fun c hc => by
  refine ⟨all_mem h.sub hc, fun C' h' => ?_⟩
  obtain ⟨C, h1, h2⟩ := h.xrs.get c hc
  refine ⟨h.xb c (all_mem h.sub hc) C' h', ?_⟩
  rw [h'.eq h1]; exact h2
end
theorem law_walk {l : PySem.W.OpenLaw} {k : Nat} {q : Program} {loose : List Str} {XP : (Str → Option Value) → Heap → Prop} {YP : World → Heap → Prop} {d : DefRec} {K : Params → PySem.W.Frag} {x : Str} {tab : List Ent} {bs : List Str} {cs : List (Str × T)} {xs rs : List Nat} {g : Nat} {e : Ent}
    (hn : l.most = some 63) (hdf : d.params.defaults = []) (hr : Room (k + 2) callerA) (hY : ∀ (w : World) (h : Heap), YP w h → (K w.params).In h) (he : tab[g]? = some e) (hd : d.name = e.x) (hx : e.N.take e.np = [x])
    (F : ∀ w : World, ∃ (fa : Nat → Addr) (fd : Nat → FuncData), (∀ (g : Nat) (e : Ent), tab[g]? = some e → FF (K w.params) ⟨idx 0 tab, bs, cs, xs, rs⟩ e (fa g) (fd g)) ∧ (∃ l, XFacts (K w.params) xs rs l) ∧ (∀ x ∈ bs, PySem.W.nsIn (K w.params) mainGlobals x = some none) ∧
      ∀ x t, cs.lookup x = some t → (x == ("__debug__" : Str)) = false ∧ ∃ v u, PySem.W.nsIn (K w.params) mainGlobals x = some (some u) ∧ RelV v u ∧ ∀ H φ E, Rep (K w.params) H φ E t v)
    (hs : ∀ ns : List Int, ns.length ≤ 63 → callF (Gam tab) k g [.frz ns] [] = .ok (.bl true, [])) :
    PySem.W.WalkO q loose XP YP l.row.toRowW d [] (fun f vs => PySem.call f vs) := by
  refine L2.walk_of (n := 63) (k := k + 2) (x := x) (CX := fun w => L2.CX l.prog w) (sp := fun w => sp (K w.params) (callF (Gam tab) k) g) hn (by decide) hdf hr hY (fun w mg fa h KX G hmg => ?_) (fun w H a ns hl hO hS => ?_) fun w H s e s' z => (by obtain ⟨_, _, _, _, _, _, _, _, _, _, _, _, z⟩ := z; exact z)
  · obtain ⟨ga, gd, hf, ⟨xl, hX⟩, hb, hc⟩ := F w
    have hm : ∀ (g : Nat) (e : Ent), tab[g]? = some e → mg e.x = some (.ref (ga g)) := fun g e he => by
      obtain ⟨oc, od, args, body, sc, kV, doc, pm, an, cdv, ct, osl, h1, _⟩ := hf g e he
      exact PySem.W.mg_of KX G h1
    have ea : fa = ga g := by
      have := hm g e he
      rw [hd] at hmg
      rw [hmg] at this
      cases this; rfl
    obtain ⟨oc, od, args, body, sc, kV, doc, pm, an, cdv, ct, osl, h1, h2, h3, h4, h5, h6, h7⟩ := hf g e he
    have T0 : Top (K w.params) mg bs cs xs rs := ⟨fun x hx => PySem.W.mg_none_of KX G (hb x hx), fun x t ht => by
      obtain ⟨n, v, u, q1, q2, q3⟩ := hc x t ht
      exact ⟨n, v, u, PySem.W.mg_of KX G q1, q2, q3⟩, hX.xb, hX.xp, fun c hc => by
      obtain ⟨C, h1, h2⟩ := hX.xm c hc
      exact ⟨C, h1, PySem.W.mg_of KX G h1, h2⟩, hX.rz⟩
    refine ⟨gd g, fun s u => .of_eq ?_, fun base _ _ => ?_⟩
    · have hl : e.np = 1 := by
        have := congrArg List.length hx
        rw [List.length_take] at this
        have k5 : e.np ≤ e.N.length := by
          simp only [entOk, Bool.and_eq_true, decide_eq_true_eq, List.all_eq_true] at h6
          exact h6.2
        simp at this
        omega
      rw [h7 [u] (by rw [hl]; rfl), hx]
      rfl
    · rw [ea, ← hx]
      exact fns_ok T0 ga gd hf hm k g e he
  · refine ⟨[], fun _ => False, [.frz ns], [], ⟨rfl, List.nodup_nil, by simp, fun a z => z.elim, fun k t z => by simp at z, fun k t z => by simp at z⟩, Reps.cons (by simp only [Rep]; exact ⟨a, rfl, only_frz hO hS⟩) Reps.nil, .inl ⟨.bl true, [], hs ns hl, fun v H' _ _ r => r.lr.bl⟩⟩
theorem FF.mk {K : W.Frag} {B : Tb} {e : Ent} {f : Addr} {oc : Value} {od : Option Addr} {args : Arguments} {body : List Stmt} {sc : Scope} {kV doc pm : Value} {an : Option Addr} {cdv ct : Value} {osl : Array (Option Value)}
    (h1 : PySem.W.nsIn K mainGlobals e.x = some (some (.ref f))) (h2 : K.lookup f = some ⟨oc, od, .func (PySem.W.fnOf e.x e.x args body sc .none kV doc pm an cdv ct), osl⟩) (h3 : PySem.W.codeIn K cdv e.x = true) (h4 : PySem.W.keepIn K (.ref f) = true)
    (h5 : entOk B e body sc = true) (h6 : ∀ us : List Value, us.length = e.np → bindArgs (PySem.W.fnOf e.x e.x args body sc .none kV doc pm an cdv ct) ⟨us, []⟩ = pure ((e.N.take e.np).zip us)) :
    FF K B e f (PySem.W.fnOf e.x e.x args body sc .none kV doc pm an cdv ct) := ⟨oc, od, args, body, sc, kV, doc, pm, an, cdv, ct, osl, h1, rfl, h2, h3, h4, h5, h6⟩
inductive FFs (K : W.Frag) (B : Tb) : List Ent → List (Addr × FuncData) → Prop
  | nil : FFs K B [] []
  | cons {e : Ent} {es : List Ent} {f : Addr} {fd : FuncData} {l : List (Addr × FuncData)} : FF K B e f fd → FFs K B es l → FFs K B (e :: es) ((f, fd) :: l)
theorem FFs.exc {K : W.Frag} {B : Tb} {e : Ent} {es : List Ent} {f : Addr} {fd : FuncData} (h : FF K B e f fd) (hs : ∃ l, FFs K B es l) : ∃ l, FFs K B (e :: es) l := by
  obtain ⟨l, hl⟩ := hs
  exact ⟨_, .cons h hl⟩
theorem FFs.exn {K : W.Frag} {B : Tb} : ∃ l, FFs K B [] l := ⟨_, .nil⟩
theorem FFs.get {K : W.Frag} {B : Tb} : ∀ {es : List Ent} {l : List (Addr × FuncData)}, FFs K B es l → ∃ (fa : Nat → Addr) (fd : Nat → FuncData), ∀ (g : Nat) (e : Ent), es[g]? = some e → FF K B e (fa g) (fd g)
  | [], _, _ => ⟨fun _ => 0, fun _ => default, fun g e h => by simp at h⟩
  | _ :: _, (a0, d0) :: _, .cons h hs => by
    obtain ⟨fa, fd, k⟩ := FFs.get hs
    refine ⟨fun g => match g with | 0 => a0 | g + 1 => fa g, fun g => match g with | 0 => d0 | g + 1 => fd g, fun g e he => ?_⟩
    cases g with
    | zero =>
      simp only [List.getElem?_cons_zero, Option.some.injEq] at he
      subst he
      exact h
    | succ g => exact k g e (by simpa using he)
/-- a constant by its value -/
def CV : T → Value → Prop
  | .int i, u => ∃ t, u = .int i t
  | .str s, u => ∃ t, u = .str s t
  | .bl b, u => u = .bool b
  | .non, u => u = .none
  | _, _ => False
def CVs : List T → List Value → Prop
  | [], us => us = []
  | t :: ts, us => ∃ u r, us = u :: r ∧ CV t u ∧ CVs ts r
def cV : T → V
  | .int i => .int i
  | .str s => .str s
  | .bl b => .bl b
  | _ => .non
theorem CV.rel {K : W.Frag} : ∀ {t : T} {u : Value}, CV t u → RelV (cV t) u ∧ ∀ H φ E, Rep K H φ E t (cV t) := by
  intro t u h
  cases t <;> simp only [CV] at h
  · subst h; exact ⟨rfl, fun _ _ _ => by simp only [Rep, cV]⟩
  · subst h; exact ⟨rfl, fun _ _ _ => by simp only [Rep, cV]⟩
  · exact ⟨h, fun _ _ _ => by simp only [Rep, cV]⟩
  · exact ⟨h, fun _ _ _ => by simp only [Rep, cV]⟩
theorem CVs.rel {K : W.Frag} : ∀ {ts : List T} {us : List Value}, CVs ts us → Vals (ts.map cV) us ∧ ∀ H φ E, Reps K H φ E ts (ts.map cV)
  | [], us, h => by
    simp only [CVs] at h
    subst h
    exact ⟨.nil, fun _ _ _ => Reps.nil⟩
  | t :: ts, us, h => by
    simp only [CVs] at h
    obtain ⟨u, r, rfl, h1, h2⟩ := h
    obtain ⟨a, b⟩ := CV.rel (K := K) h1
    obtain ⟨c, d⟩ := CVs.rel (K := K) h2
    exact ⟨.cons a c, fun H φ E => Reps.cons (b H φ E) (d H φ E)⟩
/-- the constants of the module -/
inductive CSs (K : W.Frag) : List (Str × T) → Prop
  | nil : CSs K []
  | int {x : Str} {i : Int} {t : Tok} {cs : List (Str × T)} : PySem.W.nsIn K mainGlobals x = some (some (.int i t)) → (x == ("__debug__" : Str)) = false → CSs K cs → CSs K ((x, .int i) :: cs)
  | tup {x : Str} {ts : List T} {a : Addr} {dd : Option Addr} {its : Array Value} {n : Nat} {sl : Array (Option Value)} {cs : List (Str × T)} : PySem.W.nsIn K mainGlobals x = some (some (.ref a)) → K.lookup a = some ⟨.type "tuple", dd, .seq its n, sl⟩ → CVs ts its.toList → its.size ≤ sizeLine →
      (x == ("__debug__" : Str)) = false → CSs K cs → CSs K ((x, .ctup ts) :: cs)
theorem CSs.get {K : W.Frag} : ∀ {cs : List (Str × T)}, CSs K cs → ∀ x t, cs.lookup x = some t → (x == ("__debug__" : Str)) = false ∧ ∃ v u, PySem.W.nsIn K mainGlobals x = some (some u) ∧ RelV v u ∧ ∀ H φ E, Rep K H φ E t v
  | _, .nil, x, t, h => by simp at h
  | _, .int h1 h2 hs, x, t, h => by
    simp only [List.lookup_cons] at h
    split at h
    · rename_i e
      cases h
      have := eq_of_beq e
      subst this
      exact ⟨h2, .int _, _, h1, ⟨_, rfl⟩, fun H φ E => by simp only [Rep]⟩
    · exact CSs.get hs x t h
  | _, .tup (a := a) h1 hk hv hz h2 hs, x, t, h => by
    simp only [List.lookup_cons] at h
    split at h
    · rename_i e
      cases h
      have := eq_of_beq e
      subst this
      obtain ⟨r1, r2⟩ := CVs.rel (K := K) hv
      refine ⟨h2, .ref a, _, h1, rfl, fun H φ E => ?_⟩
      simp only [Rep]
      exact ⟨a, _, rfl, .inr ⟨_, _, _, hk, rfl, rfl, hz, r1⟩, r2 H φ E⟩
    · exact CSs.get hs x t h
theorem law_end {l : PySem.W.OpenLaw} {q : Program} {loose : List Str} {XP : (Str → Option Value) → Heap → Prop} {YP : World → Heap → Prop} {d : DefRec} {K : Params → PySem.W.Frag} (k : Nat) {x : Str} (tab : List Ent) (bs : List Str) (cs : List (Str × T)) (xs rs : List Nat) (g : Nat) {e : Ent}
    (hn : l.most = some 63) (hdf : d.params.defaults = []) (hr : Room (k + 2) callerA) (hY : ∀ (w : World) (h : Heap), YP w h → (K w.params).In h) (he : tab[g]? = some e) (hd : d.name = e.x) (hx : e.N.take e.np = [x])
    (hs : ∀ ns : List Int, ns.length ≤ 63 → callF (Gam tab) k g [.frz ns] [] = .ok (.bl true, []))
    (F : ∀ w : World, (∃ fl, FFs (K w.params) ⟨idx 0 tab, bs, cs, xs, rs⟩ tab fl) ∧ (∃ l, XFacts (K w.params) xs rs l) ∧ (∀ x ∈ bs, PySem.W.nsIn (K w.params) mainGlobals x = some none) ∧ CSs (K w.params) cs) :
    PySem.W.WalkO q loose XP YP l.row.toRowW d [] (fun f vs => PySem.call f vs) :=
  law_walk (tab := tab) (bs := bs) (cs := cs) (xs := xs) (rs := rs) hn hdf hr hY he hd hx (fun w => by
    obtain ⟨⟨fl, h1⟩, hX, h2, h3⟩ := F w
    obtain ⟨fa, fd, h4⟩ := h1.get
    exact ⟨fa, fd, h4, hX, h2, h3.get⟩) hs
end Ip

set_option maxHeartbeats 4000000
/-! Ip15: tools for the plain law: how the evaluator steps. -/
namespace Ip
open PySem
section
variable {F : Fns} {ρ : En} {S : Store}
@[simp] theorem Res.bind_okv {α β : Type} (a : α) (f : α → Res β) : Res.bind (.ok a) f = f a := rfl
@[simp] theorem Res.bind_badv {α β : Type} (f : α → Res β) : Res.bind (.bad : Res α) f = .bad := rfl
@[simp] theorem x_slot (i : Nat) : evalE F ρ (.slot i) S = match ρ.get i with
    | some t => if t.isOwn then .bad else .ok (t, S)
    | none => .bad := by simp only [evalE] <;> rfl
@[simp] theorem x_view (i : Nat) : evalE F ρ (.view i) S = match ρ.get i with
    | some t => .ok (t.view, S)
    | none => .bad := by simp only [evalE] <;> rfl
@[simp] theorem x_cst (t : T) : evalE F ρ (.cst t) S = .ok (t, S) := by simp only [evalE] <;> rfl
@[simp] theorem x_bin (o : BO) (a b : CE) : evalE F ρ (.bin o a b) S = (evalE F ρ a S >>= fun x => evalE F ρ b x.2 >>= fun y => (Res.of (bop o x.1 y.1)).bind fun t => .ok (t, y.2)) := by simp only [evalE] <;> rfl
@[simp] theorem x_neg (a : CE) : evalE F ρ (.neg a) S = (evalE F ρ a S >>= fun x => match x.1 with
    | .int i => .ok (.int (-i), x.2)
    | _ => .bad) := by simp only [evalE] <;> rfl
@[simp] theorem x_not (a : CE) : evalE F ρ (.not a) S = (evalE F ρ a S >>= fun x => (Res.of (truth x.1)).bind fun b => .ok (.bl (!b), x.2)) := by simp only [evalE] <;> rfl
@[simp] theorem x_and (a b : CE) : evalE F ρ (.and a b) S = (evalE F ρ a S >>= fun x => match x.1 with
    | .bl true => evalE F ρ b x.2
    | .bl false => .ok (.bl false, x.2)
    | .int i => if i = 0 then .ok (.int i, x.2) else evalE F ρ b x.2
    | _ => .bad) := by simp only [evalE] <;> rfl
@[simp] theorem x_or (a b : CE) : evalE F ρ (.or a b) S = (evalE F ρ a S >>= fun x => match x.1 with
    | .bl true => .ok (.bl true, x.2)
    | .bl false => evalE F ρ b x.2
    | .int i => if i = 0 then evalE F ρ b x.2 else .ok (.int i, x.2)
    | _ => .bad) := by simp only [evalE] <;> rfl
@[simp] theorem x_ite (c a b : CE) : evalE F ρ (.ite c a b) S = (evalE F ρ c S >>= fun x => (Res.of (truth x.1)).bind fun k => if k then evalE F ρ a x.2 else evalE F ρ b x.2) := by simp only [evalE] <;> rfl
@[simp] theorem x_cmp (o : CO) (a b : CE) : evalE F ρ (.cmp o a b) S = (evalE F ρ a S >>= fun x => evalE F ρ b x.2 >>= fun y => (Res.of (cop o x.1 y.1)).bind fun t => .ok (.bl t, y.2)) := by simp only [evalE] <;> rfl
@[simp] theorem x_isN (k : Bool) (a : CE) : evalE F ρ (.isN k a) S = (evalE F ρ a S >>= fun x => .ok (.bl (if k then !isNon x.1 else isNon x.1), x.2)) := by simp only [evalE] <;> rfl
@[simp] theorem x_isB (k : Bool) (a b : CE) : evalE F ρ (.isB k a b) S = (evalE F ρ a S >>= fun x => evalE F ρ b x.2 >>= fun y => match x.1, y.1 with
    | .bl p, .bl q => .ok (.bl (if k then !decide (p = q) else decide (p = q)), y.2)
    | _, _ => .bad) := by simp only [evalE] <;> rfl
@[simp] theorem x_isin (k : Bool) (a b : CE) : evalE F ρ (.isin k a b) S = (evalE F ρ a S >>= fun x => evalE F ρ b x.2 >>= fun y => (Res.of (inT x.1 y.1)).bind fun r => .ok (.bl (if k then !r else r), y.2)) := by simp only [evalE] <;> rfl
@[simp] theorem x_chain (o o' : CO) (a b c : CE) : evalE F ρ (.chain o o' a b c) S = (evalE F ρ a S >>= fun x => evalE F ρ b x.2 >>= fun y => (Res.of (cop o x.1 y.1)).bind fun r =>
      if r then evalE F ρ c y.2 >>= fun z => (Res.of (cop o' y.1 z.1)).bind fun r => .ok (.bl r, z.2) else .ok (.bl false, y.2)) := by simp only [evalE] <;> rfl
@[simp] theorem x_call (f : Nat) (es : List CE) : evalE F ρ (.call f es) S = (evalEs F ρ es S >>= fun x => F f x.1 x.2) := by simp only [evalE] <;> rfl
@[simp] theorem x_prim (p : PR) (es : List CE) : evalE F ρ (.prim p es) S = (evalEs F ρ es S >>= fun x => (Res.of (prim p (x.1.map (deref x.2)))).bind fun t => .ok (t, x.2)) := by simp only [evalE] <;> rfl
@[simp] theorem x_isinst (a : CE) (ts : List Ty) : evalE F ρ (.isinst a ts) S = (evalE F ρ a S >>= fun x => (Res.of (tyOf x.1)).bind fun y => .ok (.bl (ts.any (isA y)), x.2)) := by simp only [evalE] <;> rfl
@[simp] theorem x_tup (es : List CE) : evalE F ρ (.tup es) S = (evalEs F ρ es S >>= fun x => .ok (.tup x.1, x.2)) := by simp only [evalE] <;> rfl
@[simp] theorem x_lst (es : List CE) : evalE F ρ (.lst es) S = (evalEs F ρ es S >>= fun x => .ok (.own x.1, x.2)) := by simp only [evalE] <;> rfl
@[simp] theorem x_sub (a i : CE) : evalE F ρ (.sub a i) S = (evalE F ρ a S >>= fun x => evalE F ρ i x.2 >>= fun y => (Res.of (sub (deref y.2 x.1) y.1)).bind fun t => .ok (t, y.2)) := by simp only [evalE] <;> rfl
@[simp] theorem x_slice (a : CE) (lo hi : Option CE) : evalE F ρ (.slice a lo hi) S = (evalE F ρ a S >>= fun x => evalO F ρ lo x.2 >>= fun l => evalO F ρ hi l.2 >>= fun h => (Res.of (slice x.1 l.1 h.1)).bind fun t => .ok (t, h.2)) := by simp only [evalE] <;> rfl
/-- one turn of a comprehension -/
def turn (F : Fns) (ρ : En) (elt : CE) (tg : Tg) (cond : Option CE) (x : T) (S : Store) : Res (Option T × Store) := (Res.of (bindT tg x ρ)).bind fun ρ' => evalC F ρ' cond S >>= fun k => if k.1 then evalE F ρ' elt k.2 >>= fun y => .ok (some y.1, y.2) else .ok (none, k.2)
@[simp] theorem x_comp (elt : CE) (tg : Tg) (it : It) (cond : Option CE) : evalE F ρ (.comp elt tg it cond) S = (evalI F ρ it S >>= fun x => if szOk x.1.length then compL (turn F ρ elt tg cond) x.1 x.2 >>= fun y => .ok (.own y.1, y.2) else .bad) := by
  simp only [evalE] <;> rfl
@[simp] theorem xs_nil : evalEs F ρ [] S = .ok ([], S) := by simp only [evalEs] <;> rfl
@[simp] theorem xs_cons (e : CE) (es : List CE) : evalEs F ρ (e :: es) S = (evalE F ρ e S >>= fun x => evalEs F ρ es x.2 >>= fun y => .ok (x.1.view :: y.1, y.2)) := by simp only [evalEs] <;> rfl
@[simp] theorem xo_none : evalO F ρ none S = .ok (none, S) := by simp only [evalO] <;> rfl
@[simp] theorem xo_some (e : CE) : evalO F ρ (some e) S = (evalE F ρ e S >>= fun x => match x.1 with
    | .int i => .ok (some i, x.2)
    | _ => .bad) := by simp only [evalO] <;> rfl
@[simp] theorem xc_none : evalC F ρ none S = .ok (true, S) := by simp only [evalC] <;> rfl
@[simp] theorem xc_some (e : CE) : evalC F ρ (some e) S = (evalE F ρ e S >>= fun x => (Res.of (truth x.1)).bind fun b => .ok (b, x.2)) := by simp only [evalC] <;> rfl
@[simp] theorem xi_seq (e : CE) : evalI F ρ (.seq e) S = (evalE F ρ e S >>= fun x => (Res.of (seqOf x.1)).bind fun xs => .ok (xs, x.2)) := by simp only [evalI] <;> rfl
@[simp] theorem xi_rng1 (a : CE) : evalI F ρ (.rng1 a) S = (evalE F ρ a S >>= fun x => match x.1 with
    | .int j => if j ≤ 1000000 ∧ -1000000 ≤ j then .ok (rangeT 0 j.toNat, x.2) else .bad
    | _ => .bad) := by simp only [evalI] <;> rfl
@[simp] theorem xi_rng2 (a b : CE) : evalI F ρ (.rng2 a b) S = (evalE F ρ a S >>= fun x => evalE F ρ b x.2 >>= fun y => match x.1, y.1 with
    | .int i, .int j => if (i ≤ 1000000 ∧ -1000000 ≤ i) ∧ (j ≤ 1000000 ∧ -1000000 ≤ j) then .ok (rangeT i (j - i).toNat, y.2) else .bad
    | _, _ => .bad) := by simp only [evalI] <;> rfl
@[simp] theorem xi_rng3 (a b c : CE) : evalI F ρ (.rng3 a b c) S = (evalE F ρ a S >>= fun x => evalE F ρ b x.2 >>= fun y => evalE F ρ c y.2 >>= fun z => match x.1, y.1, z.1 with
    | .int i, .int j, .int (-1) => if (i ≤ 1000000 ∧ -1000000 ≤ i) ∧ (j ≤ 1000000 ∧ -1000000 ≤ j) then .ok ((List.range (i - j).toNat).map fun (k : Nat) => .int (i + (k : Int) * (-1)), z.2) else .bad
    | _, _, _ => .bad) := by simp only [evalI] <;> rfl
@[simp] theorem xi_enum (a : CE) : evalI F ρ (.enum a) S = (evalE F ρ a S >>= fun x => (Res.of (seqOf x.1)).bind fun xs => .ok (enumT 0 xs, x.2)) := by simp only [evalI] <;> rfl
@[simp] theorem xi_zip (a b : CE) : evalI F ρ (.zip a b) S = (evalE F ρ a S >>= fun x => evalE F ρ b x.2 >>= fun y => (Res.of (seqOf x.1)).bind fun xs => (Res.of (seqOf y.1)).bind fun ys => .ok (zipT xs ys, y.2)) := by simp only [evalI] <;> rfl
@[simp] theorem xp_nil : evalPar F ρ [] S = .ok ([], S) := by simp only [evalPar] <;> rfl
@[simp] theorem xp_cons (e : CE) (es : List CE) : evalPar F ρ (e :: es) S = (evalE F ρ e S >>= fun x => evalPar F ρ es x.2 >>= fun y => .ok (x.1 :: y.1, y.2)) := by simp only [evalPar] <;> rfl
/-! statements -/
@[simp] theorem xs_setP (tg : Tg) (e : CE) : evalS F (.setP tg e) ρ S = (evalE F ρ e S >>= fun x => (Res.of (bindT tg x.1.view ρ)).bind fun ρ => .ok (.nx ρ x.2)) := by simp only [evalS] <;> rfl
@[simp] theorem xs_setO (i : Nat) (e : CE) : evalS F (.setO i e) ρ S = (evalE F ρ e S >>= fun x => match x.1 with
    | .own xs => .ok (.nx (ρ.put i (.own xs)) x.2)
    | .odct ks xs m => .ok (.nx (ρ.put i (.odct ks xs m)) x.2)
    | _ => .bad) := by simp only [evalS] <;> rfl
@[simp] theorem x_fld (a : CE) (f : Str) (cs : List Nat) : evalE F ρ (.fld a f cs) S = (evalE F ρ a S >>= fun x => match x.1 with
    | .exv c as => if c ∈ cs then (Res.of (fldT (clsF c) as f)).bind fun t => .ok (t, x.2) else .bad
    | _ => .bad) := by simp only [evalE] <;> rfl
@[simp] theorem x_isexc (a : CE) (k : Option Nat) (cs : List Nat) : evalE F ρ (.isexc a k cs) S = (evalE F ρ a S >>= fun x => match x.1 with
    | .exv c _ => if c ∈ cs then .ok (.bl (match k with | some d => mch c d | none => true), x.2) else .bad
    | _ => .bad) := by simp only [evalE] <;> rfl
@[simp] theorem x_lidx (a b : CE) : evalE F ρ (.lidx a b) S = (evalE F ρ a S >>= fun x => evalE F ρ b x.2 >>= fun y => (Res.of (lidxT x.1 y.1)).bind fun t => .ok (t, y.2)) := by simp only [evalE] <;> rfl
@[simp] theorem x_lcnt (a b : CE) : evalE F ρ (.lcnt a b) S = (evalE F ρ a S >>= fun x => evalE F ρ b x.2 >>= fun y => (Res.of (lcntT x.1 y.1)).bind fun t => .ok (t, y.2)) := by simp only [evalE] <;> rfl
@[simp] theorem x_disp (k : Bool) (bs : List Bool) (es : List CE) : evalE F ρ (.disp k bs es) S = (evalEs F ρ es S >>= fun x => (Res.of (combS bs x.1)).bind fun xs => if szOk xs.length then .ok (if k then .tup xs else .own xs, x.2) else .bad) := by simp only [evalE] <;> rfl
@[simp] theorem x_rev (a : CE) : evalE F ρ (.rev a) S = (evalE F ρ a S >>= fun x => match x.1 with
    | .tup xs => .ok (.tup xs.reverse, x.2)
    | _ => .bad) := by simp only [evalE] <;> rfl
@[simp] theorem x_inv (a : CE) : evalE F ρ (.inv a) S = (evalE F ρ a S >>= fun x => match x.1 with
  | .int i => .ok (.int (Builtin.bitNot i), x.2)
  | _ => .bad) := by simp only [evalE] <;> rfl
@[simp] theorem x_rgL1 (k : Bool) (a : CE) : evalE F ρ (.rgL1 k a) S = (evalE F ρ a S >>= fun x => match x.1 with
    | .int j => (Res.of (rgT k 0 j)).bind fun t => .ok (t, x.2)
    | _ => .bad) := by simp only [evalE] <;> rfl
@[simp] theorem x_rgL2 (k : Bool) (a b : CE) : evalE F ρ (.rgL2 k a b) S = (evalE F ρ a S >>= fun x => evalE F ρ b x.2 >>= fun y => match x.1, y.1 with
    | .int i, .int j => (Res.of (rgT k i j)).bind fun t => .ok (t, y.2)
    | _, _ => .bad) := by simp only [evalE] <;> rfl
@[simp] theorem x_dnew (m : Option Bool) : evalE F ρ (.dnew m) S = .ok (.odct [] [] m, S) := by simp only [evalE] <;> rfl
@[simp] theorem xs_dput (i : Nat) (k e : CE) : evalS F (.dput i k e) ρ S = (evalE F ρ e S >>= fun x => evalE F ρ k x.2 >>= fun y => match ρ.get i with
    | some (.odct ks xs (some m)) => match keyO (some m) y.1 with
      | some key => if szOk ks.length then .ok (.nx (ρ.put i (.odct (dputK ks key) (dputV ks xs key x.1.view) (some m))) y.2) else .bad
      | none => .bad
    | some (.odct ks xs none) => match keyO none y.1, x.1 with
      | some key, .bl true => if szOk ks.length then .ok (.nx (ρ.put i (.odct (dputK ks key) (if ks.any (fun k' => decide (k' = key)) then xs else xs ++ [y.1]) none)) y.2) else .bad
      | _, _ => .bad
    | _ => .bad) := by simp only [evalS] <;> rfl
@[simp] theorem xs_setR (i : Nat) (e : CE) : evalS F (.setR i e) ρ S = (evalE F ρ e S >>= fun x => match x.1 with
    | .own xs => if nls xs then .ok (.nx (ρ.put i (.ref x.2.length)) (x.2 ++ [.own xs])) else .bad
    | _ => .bad) := by simp only [evalS] <;> rfl
@[simp] theorem xs_par (is : List (Nat × Bool)) (es : List CE) : evalS F (.par is es) ρ S = (evalPar F ρ es S >>= fun x => (Res.of (setParts is x.1 ρ)).bind fun ρ => .ok (.nx ρ x.2)) := by simp only [evalS] <;> rfl
@[simp] theorem xs_augP (i : Nat) (o : BO) (e : CE) : evalS F (.augP i o e) ρ S = match ρ.get i with
    | some x => evalE F ρ e S >>= fun y => match x, y.1 with
      | .int a, .int b => (Res.of (bopI o a b)).bind fun c => .ok (.nx (ρ.put i (.int c)) y.2)
      | _, _ => .bad
    | none => .bad := by simp only [evalS] <;> rfl
@[simp] theorem xs_setI (i : Nat) (ix e : CE) : evalS F (.setI i ix e) ρ S = (evalE F ρ e S >>= fun x => evalE F ρ ix x.2 >>= fun y => match ownOf ρ y.2 i, y.1 with
    | some xs, .int k => match L2.ixN xs.length k with
      | some j => if wrOk ρ i x.1 then .ok (.nx (putOwn ρ y.2 i (xs.set j x.1.view)).1 (putOwn ρ y.2 i (xs.set j x.1.view)).2) else .bad
      | none => .bad
    | _, _ => .bad) := by simp only [evalS] <;> rfl
@[simp] theorem xs_augI (i : Nat) (o : BO) (ix e : CE) : evalS F (.augI i o ix e) ρ S = (evalE F ρ ix S >>= fun k => match ownOf ρ k.2 i, k.1 with
    | some xs, .int j0 => match L2.ixN xs.length j0 with
      | some j => match xs[j]? with
        | some (.int a) => evalE F ρ e k.2 >>= fun y => match y.1 with
          | .int b => (Res.of (bopI o a b)).bind fun c => match ownOf ρ y.2 i with
            | some xs => match L2.ixN xs.length j0 with
              | some j => .ok (.nx (putOwn ρ y.2 i (xs.set j (.int c))).1 (putOwn ρ y.2 i (xs.set j (.int c))).2)
              | none => .bad
            | none => .bad
          | _ => .bad
        | _ => .bad
      | none => .bad
    | _, _ => .bad) := by simp only [evalS] <;> rfl
@[simp] theorem xs_popE (i : Nat) : evalS F (.popE i) ρ S = (match ownOf ρ S i with
  | some xs => if xs.isEmpty then .bad else .ok (.nx (putOwn ρ S i xs.dropLast).1 (putOwn ρ S i xs.dropLast).2)
  | none => .bad) := by simp only [evalS] <;> rfl
@[simp] theorem xs_setT (is : List (Nat × Option CE)) (c : CE) : evalS F (.setT is c) ρ S = (evalE F ρ c S >>= fun x => match x.1 with
  | .tup ts => (asgL F is ts ρ x.2).bind fun r => .ok (.nx r.1 r.2)
  | _ => .bad) := by simp only [evalS] <;> rfl
@[simp] theorem xs_ins (i : Nat) (ix e : CE) : evalS F (.ins i ix e) ρ S = (evalE F ρ ix S >>= fun x => evalE F ρ e x.2 >>= fun y => match ownOf ρ y.2 i, x.1 with
  | some xs, .int k => if szOk xs.length && wrOk ρ i y.1 && decide (0 ≤ k) && decide (k ≤ 1000000) then .ok (.nx (putOwn ρ y.2 i (xs.take k.toNat ++ [y.1.view] ++ xs.drop k.toNat)).1 (putOwn ρ y.2 i (xs.take k.toNat ++ [y.1.view] ++ xs.drop k.toNat)).2) else .bad
  | _, _ => .bad) := by simp only [evalS] <;> rfl
@[simp] theorem xs_ext (i : Nat) (e : CE) : evalS F (.ext i e) ρ S = (evalE F ρ e S >>= fun x => match ρ.get i, x.1.view with
  | some (.own xs), .lst ys => if szOk xs.length && szOk ys.length then .ok (.nx (ρ.put i (.own (xs ++ ys))) x.2) else .bad
  | _, _ => .bad) := by simp only [evalS] <;> rfl
@[simp] theorem xs_app (i : Nat) (e : CE) : evalS F (.app i e) ρ S = (evalE F ρ e S >>= fun x => match ownOf ρ x.2 i with
    | some xs => if szOk xs.length && wrOk ρ i x.1 then .ok (.nx (putOwn ρ x.2 i (xs ++ [x.1.view])).1 (putOwn ρ x.2 i (xs ++ [x.1.view])).2) else .bad
    | none => .bad) := by simp only [evalS] <;> rfl
@[simp] theorem xs_pop (tg : Tg) (i : Nat) : evalS F (.pop tg i) ρ S = match ownOf ρ S i with
    | some xs => match xs.getLast? with
      | some x => (Res.of (bindT tg x (putOwn ρ S i xs.dropLast).1)).bind fun ρ' => .ok (.nx ρ' (putOwn ρ S i xs.dropLast).2)
      | none => .bad
    | none => .bad := by simp only [evalS] <;> rfl
@[simp] theorem xs_expr (e : CE) : evalS F (.expr e) ρ S = (evalE F ρ e S >>= fun x => .ok (.nx ρ x.2)) := by simp only [evalS] <;> rfl
@[simp] theorem xs_ifs (c : CE) (a b : List CS) : evalS F (.ifs c a b) ρ S = (evalE F ρ c S >>= fun x => (Res.of (truth x.1)).bind fun k => if k then evalSs F a ρ x.2 else evalSs F b ρ x.2) := by simp only [evalS] <;> rfl
@[simp] theorem xs_for (tg : Tg) (it : It) (b : List CS) : evalS F (.for tg it b) ρ S = (evalI F ρ it S >>= fun x => forL tg (evalSs F b) x.1 ρ x.2) := by simp only [evalS] <;> rfl
/-- a while loop's test -/
def tst (F : Fns) (c : CE) (ρ : En) (S : Store) : Res (Bool × Store) := evalE F ρ c S >>= fun x => (Res.of (truth x.1)).bind fun k => .ok (k, x.2)
@[simp] theorem xs_while (c : CE) (b : List CS) : evalS F (.while c b) ρ S = whileL (tst F c) (evalSs F b) wf ρ S := by simp only [evalS] <;> rfl
@[simp] theorem xs_ret (e : CE) : evalS F (.ret e) ρ S = (evalE F ρ e S >>= fun x => .ok (.rt x.1 x.2)) := by simp only [evalS] <;> rfl
@[simp] theorem xs_retO (i : Nat) : evalS F (.retO i) ρ S = match ρ.get i with
    | some (.own xs) => .ok (.rt (.own xs) S)
    | some (.odct ks xs m) => .ok (.rt (.odct ks xs m) S)
    | _ => .bad := by simp only [evalS] <;> rfl
@[simp] theorem xs_retN : evalS F .retN ρ S = .ok (.rt .non S) := by simp only [evalS] <;> rfl
@[simp] theorem xs_pass : evalS F .pass ρ S = .ok (.nx ρ S) := by simp only [evalS] <;> rfl
@[simp] theorem xs_brk : evalS F .brk ρ S = .ok (.bk ρ S) := by simp only [evalS] <;> rfl
@[simp] theorem xs_cont : evalS F .cont ρ S = .ok (.ct ρ S) := by simp only [evalS] <;> rfl
@[simp] theorem xs_frz (i : Nat) : evalS F (.frz i) ρ S = match ρ.get i with
    | some (.own xs) => .ok (.nx (ρ.put i (.lst xs)) S)
    | some (.odct ks xs m) => .ok (.nx (ρ.put i (.dct ks xs m)) S)
    | _ => .ok (.nx ρ S) := by simp only [evalS] <;> rfl
@[simp] theorem xs_tryX (b : List CS) (hs : List CH) : evalS F (.tryX b hs) ρ S = match evalSs F b ρ S with
    | .ok (.xc c as ρ S) => evalHs F hs c as ρ S
    | .ok r => .ok r
    | _ => .bad := by simp only [evalS] <;> rfl
@[simp] theorem xs_xcall (k : KO) (l : CL) (es : List CE) : evalS F (.xcall k l es) ρ S = match callX F ρ l es S with
    | .ok (t, S) => koS k ρ t S
    | .exc c as S => .ok (.xc c as ρ S)
    | .bad => .bad := by simp only [evalS] <;> rfl
@[simp] theorem xs_raise (c : Nat) (es : List CE) : evalS F (.raise c es) ρ S = match evalEs F ρ es S with
    | .ok (ts, S) => if ts.all sim && decide (ts.length = (clsF c).length) then .ok (.xc c ts ρ S) else .bad
    | _ => .bad := by simp only [evalS] <;> rfl
@[simp] theorem xh_nil (c : Nat) (as : List T) : evalHs F [] c as ρ S = .ok (.xc c as ρ S) := by simp only [evalHs] <;> rfl
@[simp] theorem xh_cons (d : Nat) (cs : List Nat) (o : Option Nat) (b : List CS) (hs : List CH) (c : Nat) (as : List T) : evalHs F (.hd d cs o b :: hs) c as ρ S = if c ∈ cs then (if mch c d then (match evalSs F b (match o with | some i => ρ.put i (.exv c as) | none => ρ) S with
      | .ok (.xc ..) => .bad
      | .ok f => .ok (f.gone o)
      | _ => .bad) else evalHs F hs c as ρ S) else .bad := by simp only [evalHs] <;> rfl
@[simp] theorem callX_fv (n : Nat) (es : List CE) : callX F ρ (.f n) es S = match evalEs F ρ es S with
    | .ok (ts, S) => F n ts S
    | _ => .bad := by simp only [callX] <;> rfl
@[simp] theorem callX_ev (c : CE) (L : List (Str × Nat)) (es : List CE) : callX F ρ (.e c L) es S = match evalE F ρ c S with
    | .ok (.fn x n, S) => if (x, n) ∈ L then (match evalEs F ρ es S with
      | .ok (ts, S) => F n ts S
      | _ => .bad) else .bad
    | _ => .bad := by simp only [callX] <;> rfl
@[simp] theorem koS_drop (t : T) : koS .drop ρ t S = .ok (.nx ρ S) := rfl
@[simp] theorem koS_set (tg : Tg) (t : T) : koS (.set tg) ρ t S = (Res.of (bindT tg t.view ρ)).bind fun ρ => .ok (.nx ρ S) := rfl
@[simp] theorem koS_ret (t : T) : koS .ret ρ t S = .ok (.rt t S) := rfl
@[simp] theorem ss_nilv : evalSs F [] ρ S = .ok (.nx ρ S) := by simp only [evalSs] <;> rfl
@[simp] theorem ss_consv (c : CS) (cs : List CS) : evalSs F (c :: cs) ρ S = (evalS F c ρ S >>= fun f => match f with
    | .nx ρ S => evalSs F cs ρ S
    | f => .ok f) := by
  simp only [evalSs] <;> rfl
end
/-! the values' operations -/
@[simp] theorem get_nil (i : Nat) : En.get [] i = none := by cases i <;> rfl
@[simp] theorem get_zero (x : Option T) (r : En) : En.get (x :: r) 0 = x := rfl
@[simp] theorem get_succ (x : Option T) (r : En) (n : Nat) : En.get (x :: r) (n + 1) = En.get r n := rfl
theorem get_lit (x : Option T) (r : En) (n : Nat) (h : 0 < n) : En.get (x :: r) n = En.get r (n - 1) := by
  cases n with
  | zero => omega
  | succ n => rfl
theorem put_lit (x : Option T) (r : En) (n : Nat) (t : T) (h : 0 < n) : En.put (x :: r) n t = x :: En.put r (n - 1) t := by
  cases n with
  | zero => omega
  | succ n => rfl
@[simp] theorem put_zero (x : Option T) (r : En) (t : T) : En.put (x :: r) 0 t = some t :: r := rfl
@[simp] theorem put_succ (x : Option T) (r : En) (n : Nat) (t : T) : En.put (x :: r) (n + 1) t = x :: En.put r n t := rfl
@[simp] theorem own_tup (xs : List T) : (T.tup xs).isOwn = false := rfl
@[simp] theorem own_int (i : Int) : (T.int i).isOwn = false := rfl
@[simp] theorem own_bl (i : Bool) : (T.bl i).isOwn = false := rfl
@[simp] theorem own_str (i : Str) : (T.str i).isOwn = false := rfl
@[simp] theorem own_lst (xs : List T) : (T.lst xs).isOwn = false := rfl
@[simp] theorem own_own (xs : List T) : (T.own xs).isOwn = true := rfl
@[simp] theorem own_non : (T.non).isOwn = false := rfl
@[simp] theorem own_ref (k : Nat) : (T.ref k).isOwn = false := rfl
@[simp] theorem own_frz (k : List Int) : (T.frz k).isOwn = false := rfl
@[simp] theorem vw_tup (xs : List T) : (T.tup xs).view = .tup xs := rfl
@[simp] theorem vw_int (i : Int) : (T.int i).view = .int i := rfl
@[simp] theorem vw_bl (i : Bool) : (T.bl i).view = .bl i := rfl
@[simp] theorem vw_str (i : Str) : (T.str i).view = .str i := rfl
@[simp] theorem vw_lst (xs : List T) : (T.lst xs).view = .lst xs := rfl
@[simp] theorem vw_own (xs : List T) : (T.own xs).view = .lst xs := rfl
@[simp] theorem vw_odct (ks : List (List L2.Key)) (xs : List T) (m : Option Bool) : (T.odct ks xs m).view = .dct ks xs m := rfl
@[simp] theorem vw_dct (ks : List (List L2.Key)) (xs : List T) (m : Option Bool) : (T.dct ks xs m).view = .dct ks xs m := rfl
@[simp] theorem own_dct (ks : List (List L2.Key)) (xs : List T) (m : Option Bool) : (T.dct ks xs m).isOwn = false := rfl
@[simp] theorem own_odct (ks : List (List L2.Key)) (xs : List T) (m : Option Bool) : (T.odct ks xs m).isOwn = true := rfl
@[simp] theorem keyO_t (kt : List T) : keyO (some false) (.tup kt) = keysT kt := rfl
@[simp] theorem keyO_i (i : Int) : keyO (some true) (.int i) = some [.inl i] := rfl
@[simp] theorem keyO_s (s : Str) : keyO (some true) (.str s) = some [.inr s] := rfl
@[simp] theorem vw_non : (T.non).view = .non := rfl
@[simp] theorem vw_ref (k : Nat) : (T.ref k).view = .ref k := rfl
@[simp] theorem vw_frz (k : List Int) : (T.frz k).view = .frz k := rfl
section
variable (S : Store)
@[simp] theorem dr_tup (xs : List T) : deref S (.tup xs) = .tup xs := rfl
@[simp] theorem dr_int (i : Int) : deref S (.int i) = .int i := rfl
@[simp] theorem dr_bl (i : Bool) : deref S (.bl i) = .bl i := rfl
@[simp] theorem dr_str (i : Str) : deref S (.str i) = .str i := rfl
@[simp] theorem dr_lst (xs : List T) : deref S (.lst xs) = .lst xs := rfl
@[simp] theorem dr_own (xs : List T) : deref S (.own xs) = .own xs := rfl
@[simp] theorem dr_dct (ks : List (List L2.Key)) (xs : List T) (m : Option Bool) : deref S (.dct ks xs m) = .dct ks xs m := rfl
@[simp] theorem dr_non : deref S .non = .non := rfl
@[simp] theorem dr_frz (xs : List Int) : deref S (.frz xs) = .frz xs := rfl
@[simp] theorem dr_ref0 (t : T) (r : Store) : deref (t :: r) (.ref 0) = t := rfl
end
@[simp] theorem sb_tup (xs : List T) (i : Int) : sub (.tup xs) (.int i) = L2.atI xs i := rfl
@[simp] theorem sb_lst (xs : List T) (i : Int) : sub (.lst xs) (.int i) = L2.atI xs i := rfl
@[simp] theorem sb_own (xs : List T) (i : Int) : sub (.own xs) (.int i) = L2.atI xs i := rfl
@[simp] theorem sb_frz (xs : List Int) (i : Int) : sub (.frz xs) (.int i) = (L2.atI xs i).map .int := rfl
theorem atI_nn {α : Type} (xs : List α) (i : Int) (h : 0 ≤ i) : L2.atI xs i = xs[i.toNat]? := by
  unfold L2.atI L2.ixN
  rw [if_pos h]
  split
  · rfl
  · rename_i n
    rw [List.getElem?_eq_none (by omega)]
    rfl
@[simp] theorem atI_2' {α : Type} (xs : List α) : L2.atI xs 2 = xs[2]? := by
  rw [atI_nn _ _ (by omega)]; rfl
@[simp] theorem atI_3' {α : Type} (xs : List α) : L2.atI xs 3 = xs[3]? := by
  rw [atI_nn _ _ (by omega)]; rfl
@[simp] theorem atI_4' {α : Type} (xs : List α) : L2.atI xs 4 = xs[4]? := by
  rw [atI_nn _ _ (by omega)]; rfl
@[simp] theorem atI_5' {α : Type} (xs : List α) : L2.atI xs 5 = xs[5]? := by
  rw [atI_nn _ _ (by omega)]; rfl
@[simp] theorem atI_6' {α : Type} (xs : List α) : L2.atI xs 6 = xs[6]? := by
  rw [atI_nn _ _ (by omega)]; rfl
@[simp] theorem atI_7' {α : Type} (xs : List α) : L2.atI xs 7 = xs[7]? := by
  rw [atI_nn _ _ (by omega)]; rfl
@[simp] theorem atI_zero {α : Type} (xs : List α) : L2.atI xs 0 = xs[0]? := by
  rw [atI_nn _ _ (by omega)]; rfl
@[simp] theorem atI_one {α : Type} (xs : List α) : L2.atI xs 1 = xs[1]? := by
  rw [atI_nn _ _ (by omega)]; rfl
theorem atI_cast {α : Type} (xs : List α) (n : Nat) : L2.atI xs (n : Int) = xs[n]? := by
  rw [atI_nn _ _ (by omega)]; simp
theorem ixN_nn (n : Nat) (i : Int) (h : 0 ≤ i) (h' : i < n) : L2.ixN n i = some i.toNat := by
  unfold L2.ixN
  rw [if_pos h, if_pos h']
section
@[simp] theorem cp_int (o : CO) (i j : Int) : cop o (.int i) (.int j) = some (ltI o i j) := by
  unfold cop; rfl
@[simp] theorem cp_bl (i j : Bool) : cop .eq (.bl i) (.bl j) = some (i == j) := by
  cases i <;> cases j <;> rfl
@[simp] theorem cp_blN (i j : Bool) : cop .ne (.bl i) (.bl j) = some (i != j) := by
  cases i <;> cases j <;> rfl
@[simp] theorem lt_lt (i j : Int) : ltI .lt i j = decide (i < j) := rfl
@[simp] theorem lt_le (i j : Int) : ltI .le i j = decide (i ≤ j) := rfl
@[simp] theorem lt_gt (i j : Int) : ltI .gt i j = decide (j < i) := rfl
@[simp] theorem lt_ge (i j : Int) : ltI .ge i j = decide (j ≤ i) := rfl
@[simp] theorem lt_eq (i j : Int) : ltI .eq i j = decide (i = j) := rfl
@[simp] theorem lt_ne (i j : Int) : ltI .ne i j = !decide (i = j) := rfl
@[simp] theorem tr_bl (b : Bool) : truth (.bl b) = some b := rfl
@[simp] theorem tr_int (i : Int) : truth (.int i) = some (i != 0) := rfl
@[simp] theorem tr_non : truth .non = some false := rfl
@[simp] theorem tr_tup (xs : List T) : truth (.tup xs) = some (!xs.isEmpty) := rfl
@[simp] theorem tr_lst (xs : List T) : truth (.lst xs) = some (!xs.isEmpty) := rfl
@[simp] theorem tr_own (xs : List T) : truth (.own xs) = some (!xs.isEmpty) := rfl
@[simp] theorem bo_add (i j : Int) : bop .add (.int i) (.int j) = some (.int (i + j)) := rfl
@[simp] theorem bo_sub (i j : Int) : bop .sub (.int i) (.int j) = some (.int (i - j)) := rfl
theorem bo_mul (i j : Int) (h : numOk i = true) (h' : numOk j = true) : bop .mul (.int i) (.int j) = some (.int (i * j)) := by
  simp only [bop, bopI, h, h', Bool.and_self, if_true, Option.map_some]
theorem bo_fdiv (i j : Int) (h : 0 < j) (h' : numOk j = true) : bop .fdiv (.int i) (.int j) = some (.int (i / j)) := by
  simp only [bop, bopI, h, h', decide_true, Bool.and_self, if_true, Option.map_some]
theorem bo_mod (i j : Int) (h : 0 < j) : bop .mod (.int i) (.int j) = some (.int (i % j)) := by
  simp only [bop, bopI, h, decide_true, if_true, Option.map_some]
theorem bo_tadd (xs ys : List T) (h : xs.length + ys.length ≤ 1000000) : bop .add (.tup xs) (.tup ys) = some (.tup (xs ++ ys)) := by
  simp only [bop, szOk, decide_eq_true_eq, h, if_true, decide_true]
@[simp] theorem pr_lenT (xs : List T) : prim .len [.tup xs] = some (.int xs.length) := rfl
@[simp] theorem pr_lenL (xs : List T) : prim .len [.lst xs] = some (.int xs.length) := rfl
@[simp] theorem pr_lenF (xs : List Int) : prim .len [.frz xs] = some (.int xs.length) := rfl
@[simp] theorem pr_int (i : Int) : prim .int [.int i] = some (.int i) := rfl
@[simp] theorem pr_abs (i : Int) : prim .abs [.int i] = some (.int (if i < 0 then -i else i)) := rfl
@[simp] theorem pr_tupL (xs : List T) : prim .tuple [.lst xs] = some (.tup xs) := rfl
@[simp] theorem pr_tupT (xs : List T) : prim .tuple [.tup xs] = some (.tup xs) := rfl
@[simp] theorem pr_lstT (xs : List T) : prim .list [.tup xs] = some (.own xs) := rfl
@[simp] theorem pr_lstL (xs : List T) : prim .list [.lst xs] = some (.own xs) := rfl
@[simp] theorem pr_min2 (i j : Int) : prim .min2 [.int i, .int j] = some (.int (if j < i then j else i)) := rfl
@[simp] theorem pr_max2 (i j : Int) : prim .max2 [.int i, .int j] = some (.int (if j > i then j else i)) := rfl
@[simp] theorem intsT_map (ns : List Int) : intsT (ns.map .int) = some ns := by
  induction ns with
  | nil => rfl
  | cons n ns ih => simp [intsT, ih]
@[simp] theorem truths_map (ns : List Bool) : truthsT (ns.map .bl) = some ns := by
  induction ns with
  | nil => rfl
  | cons n ns ih => simp [truthsT, ih]
@[simp] theorem bools_map (ns : List Bool) : bools (ns.map .bl) = some ns := by
  induction ns with
  | nil => rfl
  | cons n ns ih => simp [bools, ih]
theorem pr_sumT (ns : List Int) : prim .sum [.tup (ns.map .int)] = some (.int ns.sum) := by simp [prim]
theorem pr_sumL (ns : List Int) : prim .sum [.lst (ns.map .int)] = some (.int ns.sum) := by simp [prim]
theorem pr_allL (ns : List Bool) : prim .all [.lst (ns.map .bl)] = some (.bl (ns.all id)) := by simp [prim]
theorem pr_anyL (ns : List Bool) : prim .any [.lst (ns.map .bl)] = some (.bl (ns.any id)) := by simp [prim]
@[simp] theorem ty_int (i : Int) : tyOf (.int i) = some .int := rfl
@[simp] theorem ty_bl (i : Bool) : tyOf (.bl i) = some .bool := rfl
@[simp] theorem ty_str (i : Str) : tyOf (.str i) = some .str := rfl
@[simp] theorem ty_tup (xs : List T) : tyOf (.tup xs) = some .tuple := rfl
@[simp] theorem ty_lst (xs : List T) : tyOf (.lst xs) = some .list := rfl
@[simp] theorem sq_tup (xs : List T) : seqOf (.tup xs) = some xs := rfl
@[simp] theorem sq_lst (xs : List T) : seqOf (.lst xs) = some xs := rfl
@[simp] theorem sq_own (xs : List T) : seqOf (.own xs) = some xs := rfl
@[simp] theorem iN_int (i : Int) : isNon (.int i) = false := rfl
@[simp] theorem iN_non : isNon .non = true := rfl
@[simp] theorem iN_tup (xs : List T) : isNon (.tup xs) = false := rfl
@[simp] theorem iN_bl (b : Bool) : isNon (.bl b) = false := rfl
end
/-! numbers that are small -/
theorem numOk_of {i : Int} (h : -(2 ^ 64) ≤ i) (h' : i ≤ 2 ^ 64) : numOk i = true := by
  simp only [numOk, decide_eq_true_eq]
  have : i.natAbs ≤ 2 ^ 64 := by omega
  exact Nat.lt_of_le_of_lt this (Nat.pow_lt_pow_right (by omega) (by omega))
/-! calls -/
theorem call_eq {Γ : Nat → Option CFn} {f : Nat} {c : CFn} (h : Γ f = some c) {n : Nat} {ts : List T} {S : Store} (hl : ts.length = c.params) :
    callF Γ (n + 1) f ts S = (pureR (evalSs (callF Γ n) c.body (ts.map some ++ List.replicate (c.slots - c.params) none) S) >>= fun f => match f with
      | .nx _ S' => close S.length .non S'
      | .rt t S' => close S.length t S'
      | .xc k as _ S' => match close S.length .non S' with
        | .ok (_, S2) => .exc k as S2
        | _ => .bad
      | _ => .bad) := by
  simp only [callF, h, hl, if_true] <;> rfl
@[simp] theorem close_same (t : T) (S S' : Store) (h : S'.length = S.length) : close S.length t S' = .ok (t, S') := by
  simp [close, h]
theorem close_eq {t : T} {S S' : Store} (h : S'.length = S.length) : close S.length t S' = .ok (t, S') := by
  simp [close, h]
/-! loops -/
/-- a for loop by an invariant: its turns end -/
theorem forL_inv {tg : Tg} {b : En → Store → Res Fl} {xs : List T} (I : Nat → En → Store → Prop)
    (h : ∀ i ρ S, (hi : i < xs.length) → I i ρ S → ∃ ρ1 ρ2 S2, bindT tg xs[i] ρ = some ρ1 ∧ b ρ1 S = .ok (.nx ρ2 S2) ∧ I (i + 1) ρ2 S2) :
    ∀ {i : Nat} {ρ : En} {S : Store}, i ≤ xs.length → I i ρ S → ∃ ρ2 S2, forL tg b (xs.drop i) ρ S = .ok (.nx ρ2 S2) ∧ I xs.length ρ2 S2 := by
  intro i
  generalize hk : xs.length - i = k
  induction k generalizing i with
  | zero =>
    intro ρ S hi hI
    have : i = xs.length := by omega
    subst this
    exact ⟨ρ, S, by rw [List.drop_length]; rfl, hI⟩
  | succ k ih =>
    intro ρ S hi hI
    have hlt : i < xs.length := by omega
    obtain ⟨ρ1, ρ2, S2, h1, h2, h3⟩ := h i ρ S hlt hI
    obtain ⟨ρ3, S3, h4, h5⟩ := ih (i := i + 1) (by omega) (by omega) h3
    refine ⟨ρ3, S3, ?_, h5⟩
    rw [drop_cons hlt]
    simp only [forL, h1, Res.of_some, Res.bind_okv, h2, Res.ok_bind]
    exact h4
theorem forL_all {tg : Tg} {b : En → Store → Res Fl} {xs : List T} (I : Nat → En → Store → Prop) {ρ : En} {S : Store} (h0 : I 0 ρ S)
    (h : ∀ i ρ S, (hi : i < xs.length) → I i ρ S → ∃ ρ1 ρ2 S2, bindT tg xs[i] ρ = some ρ1 ∧ b ρ1 S = .ok (.nx ρ2 S2) ∧ I (i + 1) ρ2 S2) :
    ∃ ρ2 S2, forL tg b xs ρ S = .ok (.nx ρ2 S2) ∧ I xs.length ρ2 S2 := by
  have := forL_inv I h (i := 0) (Nat.zero_le _) h0
  rwa [List.drop_zero] at this
/-- a comprehension by an invariant of the store and the items so far -/
theorem compL_inv {step : T → Store → Res (Option T × Store)} {xs : List T} (I : Nat → List T → Store → Prop)
    (h : ∀ i ys S, (hi : i < xs.length) → I i ys S → ∃ o S2, step xs[i] S = .ok (o, S2) ∧ I (i + 1) (ys ++ (match o with | some y => [y.view] | none => [])) S2) :
    ∀ {i : Nat} {ys : List T} {S : Store}, i ≤ xs.length → I i ys S → ∃ zs S2, compL step (xs.drop i) S = .ok (zs, S2) ∧ I xs.length (ys ++ zs) S2 := by
  intro i
  generalize hk : xs.length - i = k
  induction k generalizing i with
  | zero =>
    intro ys S hi hI
    have : i = xs.length := by omega
    subst this
    exact ⟨[], S, by rw [List.drop_length]; rfl, by rw [List.append_nil]; exact hI⟩
  | succ k ih =>
    intro ys S hi hI
    have hlt : i < xs.length := by omega
    obtain ⟨o, S2, h2, h3⟩ := h i ys S hlt hI
    obtain ⟨zs, S3, h4, h5⟩ := ih (i := i + 1) (by omega) (by omega) h3
    rw [drop_cons hlt]
    cases o with
    | some y => exact ⟨y.view :: zs, S3, by simp only [compL, h2, Res.ok_bind, h4], by rw [List.append_assoc] at h5; exact h5⟩
    | none => exact ⟨zs, S3, by simp only [compL, h2, Res.ok_bind, h4], by rw [List.append_nil] at h5; exact h5⟩
theorem compL_all {step : T → Store → Res (Option T × Store)} {xs : List T} (I : Nat → List T → Store → Prop) {S : Store} (h0 : I 0 [] S)
    (h : ∀ i ys S, (hi : i < xs.length) → I i ys S → ∃ o S2, step xs[i] S = .ok (o, S2) ∧ I (i + 1) (ys ++ (match o with | some y => [y.view] | none => [])) S2) :
    ∃ zs S2, compL step xs S = .ok (zs, S2) ∧ I xs.length zs S2 := by
  have := compL_inv I h (i := 0) (Nat.zero_le _) h0
  simpa using this
/-- a comprehension that changes nothing, every item kept -/
theorem compL_map {step : T → Store → Res (Option T × Store)} {S : Store} (g : T → T) : ∀ {xs : List T}, (∀ x ∈ xs, step x S = .ok (some (g x), S)) → compL step xs S = .ok (xs.map fun x => (g x).view, S)
  | [], _ => rfl
  | x :: xs, h => by
    have h1 := h x (by simp)
    have h2 := compL_map g (xs := xs) fun y hy => h y (by simp [hy])
    simp only [compL, h1, Res.ok_bind, h2, List.map_cons]
/-- .. some of them kept -/
theorem compL_filter {step : T → Store → Res (Option T × Store)} {S : Store} (g : T → Option T) : ∀ {xs : List T}, (∀ x ∈ xs, step x S = .ok (g x, S)) → compL step xs S = .ok (xs.filterMap fun x => (g x).map T.view, S)
  | [], _ => rfl
  | x :: xs, h => by
    have h1 := h x (by simp)
    have h2 := compL_filter g (xs := xs) fun y hy => h y (by simp [hy])
    simp only [compL, h1, Res.ok_bind, h2]
    cases e : g x <;> simp [e]
/-- a comprehension that draws -/
theorem compL_draw {step : T → Store → Res (Option T × Store)} (J : Store → Prop) (Q : T → Prop) : ∀ {xs : List T} {S : Store}, J S → (∀ x ∈ xs, ∀ S, J S → ∃ y S', step x S = .ok (some y, S') ∧ J S' ∧ Q y.view) →
    ∃ zs S', compL step xs S = .ok (zs, S') ∧ J S' ∧ zs.length = xs.length ∧ ∀ z ∈ zs, Q z
  | [], S, j, _ => ⟨[], S, rfl, j, rfl, by simp⟩
  | x :: xs, S, j, h => by
    obtain ⟨y, S1, h1, j1, q1⟩ := h x (by simp) S j
    obtain ⟨zs, S2, h2, j2, l2, q2⟩ := compL_draw J Q (xs := xs) j1 fun z hz => h z (by simp [hz])
    exact ⟨y.view :: zs, S2, by simp only [compL, h1, Res.ok_bind, h2], j2, by simp [l2], fun z hz => by
      rcases List.mem_cons.mp hz with rfl | hz
      · exact q1
      · exact q2 z hz⟩
theorem ints_of {P : Int → Prop} : ∀ {zs : List T}, (∀ z ∈ zs, ∃ v, z = .int v ∧ P v) → ∃ L : List Int, zs = L.map .int ∧ ∀ x ∈ L, P x
  | [], _ => ⟨[], rfl, by simp⟩
  | z :: zs, h => by
    obtain ⟨v, rfl, hv⟩ := h z (by simp)
    obtain ⟨L, rfl, hL⟩ := ints_of (zs := zs) fun y hy => h y (by simp [hy])
    exact ⟨v :: L, rfl, fun x hx => by
      rcases List.mem_cons.mp hx with rfl | hx
      · exact hv
      · exact hL x hx⟩
/-- an item -/
def gi (L : List Int) (i : Nat) : Int := L.getD i 0
theorem gi_eq {L : List Int} {i : Nat} (h : i < L.length) : gi L i = L[i] := by simp [gi, h]
theorem gi_mem (L : List Int) (i : Nat) (h : i < L.length) : gi L i ∈ L := by rw [gi_eq h]; simp
@[simp] theorem gi_zero (a : Int) (L : List Int) : gi (a :: L) 0 = a := rfl
@[simp] theorem gi_succ (a : Int) (L : List Int) (i : Nat) : gi (a :: L) (i + 1) = gi L i := rfl
abbrev ti (L : List Int) : T := .tup (L.map .int)
theorem atI_ti (L : List Int) (i : Nat) (h : i < L.length) : L2.atI (L.map T.int) (i : Int) = some (.int (gi L i)) := by
  rw [atI_cast, List.getElem?_map, gi_eq h]
  simp [h]
theorem atI_tiZ (L : List Int) (i : Int) (h0 : 0 ≤ i) (h : i < L.length) : L2.atI (L.map T.int) i = some (.int (gi L i.toNat)) := by
  obtain ⟨n, rfl⟩ := Int.eq_ofNat_of_zero_le h0
  exact atI_ti L n (by omega)
theorem rangeT_len (lo : Int) (n : Nat) : (rangeT lo n).length = n := by simp [rangeT]
theorem rangeT_at (lo : Int) (n i : Nat) (h : i < (rangeT lo n).length) : (rangeT lo n)[i] = .int (lo + i) := by simp [rangeT]
theorem rangeT_mem {lo : Int} {n : Nat} {x : T} (h : x ∈ rangeT lo n) : ∃ i : Nat, i < n ∧ x = .int (lo + i) := by
  simp only [rangeT, List.mem_map, List.mem_range] at h
  obtain ⟨i, hi, rfl⟩ := h
  exact ⟨i, hi, rfl⟩
theorem enumT_at {xs : List T} {i : Nat} (h : i < (enumT 0 xs).length) : (enumT 0 xs)[i] = .tup [.int (i : Nat), xs[i]'(by rw [enumT_len] at h; exact h)] := by
  obtain ⟨y, h1, h2⟩ := enumT_get (List.getElem?_eq_getElem h)
  rw [h2]
  have := List.getElem?_eq_getElem (l := xs) (i := i) (by rw [enumT_len] at h; exact h)
  rw [this] at h1
  cases h1
  rfl
theorem zipT_at {xs ys : List T} {i : Nat} (h : i < (zipT xs ys).length) : (zipT xs ys)[i] = .tup [xs[i]'(by rw [zipT_len] at h; omega), ys[i]'(by rw [zipT_len] at h; omega)] := by
  obtain ⟨x, y, h1, h2, h3⟩ := zipT_get _ _ _ _ (List.getElem?_eq_getElem h)
  rw [h3]
  have e1 := List.getElem?_eq_getElem (l := xs) (i := i) (by rw [zipT_len] at h; omega)
  have e2 := List.getElem?_eq_getElem (l := ys) (i := i) (by rw [zipT_len] at h; omega)
  rw [e1] at h1
  rw [e2] at h2
  cases h1; cases h2
  rfl
theorem cut_ti (L : List Int) (a b : Nat) (h : a ≤ b) (hb : b ≤ L.length) : cut (L.map T.int) (some (a : Int)) (some (b : Int)) = ((L.drop a).take (b - a)).map T.int := by
  unfold cut
  rw [HT.sIx_nat, HT.sIx_nat, List.length_map, Nat.min_eq_left (by omega), Nat.min_eq_left (by omega), List.map_take, List.map_drop]
/-- [0] * n -/
theorem zeros (n : Nat) (h : n ≤ 1000000) : ∃ Z : List Int, bop .mul (.own [.int 0]) (.int (n : Int)) = some (.own (Z.map .int)) ∧ Z.length = n ∧ ∀ j, (Z.take j).sum = 0 ∧ ∀ x ∈ Z, x = 0 := by
  refine ⟨List.replicate n 0, ?_, by simp, fun j => ⟨by simp, fun x hx => List.eq_of_mem_replicate hx⟩⟩
  have e1 : repOk [T.int 0] (n : Int) = true := by simp [repOk, szOk]; omega
  have e2 : rep [T.int 0] (n : Int) = (List.replicate n (0 : Int)).map T.int := by
    unfold rep
    rw [Int.toNat_natCast]
    clear h e1
    induction n with
    | zero => rfl
    | succ k ih => rw [List.replicate_succ, List.flatten_cons, ih, List.replicate_succ]; rfl
  simp only [bop, e1, if_true, e2]
theorem bools_true : ∀ {zs : List T}, (∀ z ∈ zs, z = .bl true) → ∃ bs, truthsT zs = some bs ∧ bs.all id = true
  | [], _ => ⟨[], rfl, rfl⟩
  | z :: zs, h => by
    obtain ⟨bs, h1, h2⟩ := bools_true (zs := zs) fun y hy => h y (by simp [hy])
    rw [h z (by simp)]
    exact ⟨true :: bs, by simp [truthsT, h1], by simp [h2]⟩
theorem bools_false : ∀ {zs : List T}, (∀ z ∈ zs, z = .bl false) → ∃ bs, truthsT zs = some bs ∧ bs.any id = false
  | [], _ => ⟨[], rfl, rfl⟩
  | z :: zs, h => by
    obtain ⟨bs, h1, h2⟩ := bools_false (zs := zs) fun y hy => h y (by simp [hy])
    rw [h z (by simp)]
    exact ⟨false :: bs, by simp [truthsT, h1], by simp [h2]⟩
theorem pr_all_true {zs : List T} (h : ∀ z ∈ zs, z = .bl true) : prim .all [.lst zs] = some (.bl true) := by
  obtain ⟨bs, h1, h2⟩ := bools_true h
  simp [prim, h1, h2]
theorem pr_any_false {zs : List T} (h : ∀ z ∈ zs, z = .bl false) : prim .any [.lst zs] = some (.bl false) := by
  obtain ⟨bs, h1, h2⟩ := bools_false h
  simp [prim, h1, h2]
@[simp] theorem cp_nil : cop .eq (.own []) (.own []) = some true := by decide
@[simp] theorem sz_ti (L : List Int) : szOk (L.map T.int).length = szOk L.length := by simp
theorem compL_const {step : T → Store → Res (Option T × Store)} {S : Store} {xs : List T} (b : Bool) (h : ∀ x ∈ xs, step x S = .ok (some (.bl b), S)) : ∃ zs, compL step xs S = .ok (zs, S) ∧ zs.length = xs.length ∧ ∀ z ∈ zs, z = .bl b :=
  ⟨_, compL_map (fun _ => .bl b) h, by simp, by simp⟩
theorem compL_none {step : T → Store → Res (Option T × Store)} {S : Store} {xs : List T} (h : ∀ x ∈ xs, step x S = .ok (none, S)) : compL step xs S = .ok ([], S) := by
  have := compL_filter (fun _ => none) h
  rw [this]
  congr 2
  induction xs with
  | nil => rfl
  | cons x xs ih => simp
theorem step_nx {F : Fns} {c : CS} {cs : List CS} {ρ ρ' : En} {S S' : Store} (h : evalS F c ρ S = .ok (.nx ρ' S')) : evalSs F (c :: cs) ρ S = evalSs F cs ρ' S' := by
  rw [ss_consv, h]; rfl
theorem step_rt {F : Fns} {c : CS} {cs : List CS} {ρ : En} {S S' : Store} {t : T} (h : evalS F c ρ S = .ok (.rt t S')) : evalSs F (c :: cs) ρ S = .ok (.rt t S') := by
  rw [ss_consv, h]; rfl
theorem law_done {Γ : Nat → Option CFn} {f : Nat} {c : CFn} {n : Nat} {ts : List T} {S : Store} (h : Γ f = some c) (hl : ts.length = c.params) (hs : evalSs (callF Γ n) c.body (ts.map some ++ List.replicate (c.slots - c.params) none) [] = .ok (.rt (.bl true) S)) :
    callF Γ (n + 1) f ts [] = .ok (.bl true, []) := by
  rw [call_eq h hl, hs]
  show close 0 (.bl true) S = _
  unfold close
  split
  · rename_i e
    rw [List.length_eq_zero_iff.mp e]
  · simp [noRef, noRefs]
/-- a while loop by an invariant with its measure -/
theorem whileL_ok {c : En → Store → Res (Bool × Store)} {b : En → Store → Res Fl} (I : Nat → En → Store → Prop) (Q : En → Store → Prop)
    (h : ∀ k ρ S, I k ρ S → (∃ S', c ρ S = .ok (false, S') ∧ Q ρ S') ∨ ∃ S1 ρ2 S2 j, c ρ S = .ok (true, S1) ∧ b ρ S1 = .ok (.nx ρ2 S2) ∧ j < k ∧ I j ρ2 S2) :
    ∀ (n k : Nat) (ρ : En) (S : Store), I k ρ S → k < n → ∃ ρ2 S2, whileL c b n ρ S = .ok (.nx ρ2 S2) ∧ Q ρ2 S2 := by
  intro n
  induction n with
  | zero => intro k ρ S _ hk; omega
  | succ n ih =>
    intro k ρ S hI hk
    rcases h k ρ S hI with ⟨S', h1, h2⟩ | ⟨S1, ρ2, S2, j, h1, h2, h3, h4⟩
    · exact ⟨ρ, S', by simp only [whileL, h1, Res.ok_bind, Bool.false_eq_true, if_false], h2⟩
    · obtain ⟨ρ3, S3, h5, h6⟩ := ih j ρ2 S2 h4 (by omega)
      exact ⟨ρ3, S3, by simp only [whileL, h1, Res.ok_bind, if_true, h2, h5], h6⟩
theorem while_ok {c : En → Store → Res (Bool × Store)} {b : En → Store → Res Fl} (I : Nat → En → Store → Prop) (Q : En → Store → Prop) {k : Nat} {ρ : En} {S : Store} (h0 : I k ρ S) (hk : k ≤ 1000000)
    (h : ∀ k ρ S, I k ρ S → (∃ S', c ρ S = .ok (false, S') ∧ Q ρ S') ∨ ∃ S1 ρ2 S2 j, c ρ S = .ok (true, S1) ∧ b ρ S1 = .ok (.nx ρ2 S2) ∧ j < k ∧ I j ρ2 S2) :
    ∃ ρ2 S2, whileL c b wf ρ S = .ok (.nx ρ2 S2) ∧ Q ρ2 S2 :=
  whileL_ok I Q h wf k ρ S h0 (by unfold wf; omega)
/-! the draw row -/
def rowT (ns : List Int) (i s r : Int) : T := .own [.frz ns, .int i, .int s, .int r]
def Row (ns : List Int) (S : Store) : Prop := ∃ i s r : Int, S = [rowT ns i s r] ∧ 0 ≤ i ∧ 0 ≤ s ∧ s < 2147483647
/-! conditional forms: no test is left in the term -/
theorem it_rng1 {F : Fns} {ρ : En} {S S' : Store} {a : CE} {j : Int} (h : evalE F ρ a S = .ok (.int j, S')) (hj : j ≤ 1000000 ∧ -1000000 ≤ j) : evalI F ρ (.rng1 a) S = .ok (rangeT 0 j.toNat, S') := by
  rw [xi_rng1, h, Res.ok_bind]
  exact if_pos hj
theorem it_rng2 {F : Fns} {ρ : En} {S S' S'' : Store} {a b : CE} {i j : Int} (h : evalE F ρ a S = .ok (.int i, S')) (h' : evalE F ρ b S' = .ok (.int j, S'')) (hi : i ≤ 1000000 ∧ -1000000 ≤ i) (hj : j ≤ 1000000 ∧ -1000000 ≤ j) : evalI F ρ (.rng2 a b) S = .ok (rangeT i (j - i).toNat, S'') := by
  rw [xi_rng2, h, Res.ok_bind, h', Res.ok_bind]
  exact if_pos ⟨hi, hj⟩
theorem it_seq {F : Fns} {ρ : En} {S S' : Store} {a : CE} {t : T} {xs : List T} (h : evalE F ρ a S = .ok (t, S')) (hs : seqOf t = some xs) : evalI F ρ (.seq a) S = .ok (xs, S') := by
  rw [xi_seq, h, Res.ok_bind, hs]
  rfl
theorem ev_comp {F : Fns} {ρ : En} {S S' S'' : Store} {elt : CE} {tg : Tg} {it : It} {cond : Option CE} {xs ys : List T} (h : evalI F ρ it S = .ok (xs, S')) (hz : xs.length ≤ 1000000) (hc : compL (turn F ρ elt tg cond) xs S' = .ok (ys, S'')) : evalE F ρ (.comp elt tg it cond) S = .ok (.own ys, S'') := by
  rw [x_comp, h, Res.ok_bind, if_pos (show szOk xs.length = true from decide_eq_true hz), hc]
  rfl
theorem ev_prim1 {F : Fns} {ρ : En} {S S' : Store} {p : PR} {a : CE} {t r : T} (h : evalE F ρ a S = .ok (t, S')) (hp : prim p [deref S' t.view] = some r) : evalE F ρ (.prim p [a]) S = .ok (r, S') := by
  rw [x_prim, xs_cons, h, Res.ok_bind, xs_nil, Res.ok_bind, Res.ok_bind]
  show (Res.of (prim p [deref S' t.view])).bind _ = _
  rw [hp]
  rfl
theorem st_for {F : Fns} {ρ ρ' : En} {S S' S'' : Store} {tg : Tg} {it : It} {b : List CS} {xs : List T} (h : evalI F ρ it S = .ok (xs, S')) (hl : forL tg (evalSs F b) xs ρ S' = .ok (.nx ρ' S'')) : evalS F (.for tg it b) ρ S = .ok (.nx ρ' S'') := by
  rw [xs_for, h, Res.ok_bind]
  exact hl
theorem st_app {F : Fns} {ρ : En} {S S' : Store} {i : Nat} {e : CE} {t : T} {xs : List T} (h : evalE F ρ e S = .ok (t, S')) (ho : ρ.get i = some (.own xs)) (hz : xs.length ≤ 1000000) (hw : wrOk ρ i t = true) : evalS F (.app i e) ρ S = .ok (.nx (ρ.put i (.own (xs ++ [t.view]))) S') := by
  rw [xs_app, h, Res.ok_bind]
  have ho' : ownOf ρ S' i = some xs := by unfold ownOf; rw [ho]
  have hz' : szOk xs.length = true := decide_eq_true hz
  simp only [ho', hz', hw, Bool.and_self, if_true]
  have hp : putOwn ρ S' i (xs ++ [t.view]) = (ρ.put i (.own (xs ++ [t.view])), S') := by unfold putOwn; rw [ho]
  rw [hp]
end Ip

namespace Lw
open Ip PySem
abbrev i__law_taken : Nat := 0
abbrev i__law_pick : Nat := 1
abbrev i__law_lowered : Nat := 2
abbrev i__law_bounds : Nat := 3
abbrev i__law_sets : Nat := 4
abbrev i__law_mix_rows : Nat := 5
abbrev i__law_plus : Nat := 6
abbrev i__law_sum : Nat := 7
abbrev i__law_times : Nat := 8
abbrev i__law_part : Nat := 9
abbrev i__law_mix_point : Nat := 10
abbrev i_below : Nat := 11
abbrev i_is_int : Nat := 12
abbrev i_common_divisor : Nat := 13
abbrev i_is_ratio : Nat := 14
abbrev i_need_bounds : Nat := 15
abbrev i_need_mix : Nat := 16
abbrev i_mixing_rows : Nat := 17
abbrev i_ratio : Nat := 18
abbrev i_minus : Nat := 19
abbrev i_ceiling : Nat := 20
abbrev i_part_of : Nat := 21
abbrev i_in_order : Nat := 22
abbrev i_plus : Nat := 23
abbrev i_times : Nat := 24
abbrev i_mix_gap : Nat := 25
abbrev i_first_broken_mix : Nat := 26
abbrev i_broken_mix : Nat := 27
abbrev i__law_less : Nat := 28
abbrev i__law_mix_gap : Nat := 29
abbrev i__law_alike : Nat := 30
abbrev i_is_in : Nat := 31
abbrev i_need_mixing_row : Nat := 32
abbrev i_mixing_gap : Nat := 33
abbrev i_law : Nat := 34
def c__law_taken : List CS := [.ifs (.cmp .gt (.sub (.slot 0) (.cst (.int 3))) (.cst (.int 0))) [.setP (.name 3) (.bin .mod (.prim .int [.sub (.slot 0) (.cst (.int 3))]) (.slot 1)), .setI 0 (.cst (.int 3)) (.bin .fdiv (.sub (.slot 0) (.cst (.int 3))) (.slot 1)), .ret (.slot 3)] [], .setI 0 (.cst (.int 1)) (.bin .add (.sub (.slot 0) (.cst (.int 1))) (.cst (.int 1))), .ifs (.cmp .gt (.sub (.slot 0) (.cst (.int 1))) (.prim .len [.sub (.slot 0) (.cst (.int 0))])) [.setI 0 (.cst (.int 2)) (.bin .mod (.prim .int [.bin .add (.bin .mul (.sub (.slot 0) (.cst (.int 2))) (.cst (.int 48271))) (.cst (.int 11))]) (.cst (.int 2147483647))), .ret (.bin .mod (.prim .int [.bin .fdiv (.sub (.slot 0) (.cst (.int 2))) (.cst (.int 7))]) (.slot 1))] [], .setP (.name 2) (.sub (.sub (.slot 0) (.cst (.int 0))) (.bin .sub (.sub (.slot 0) (.cst (.int 1))) (.cst (.int 1)))), .setI 0 (.cst (.int 2)) (.bin .mod (.prim .int [.bin .add (.bin .add (.bin .mul (.sub (.slot 0) (.cst (.int 2))) (.cst (.int 48271))) (.slot 2)) (.cst (.int 11))]) (.cst (.int 2147483647))), .ifs (.cmp .ge (.slot 2) (.bin .pow (.cst (.int 10)) (.cst (.int 18)))) [.setI 0 (.cst (.int 3)) (.bin .fdiv (.slot 2) (.slot 1))] [], .ret (.bin .mod (.prim .int [.slot 2]) (.slot 1))]
def c__law_pick : List CS := [.ret (.sub (.slot 1) (.call i__law_taken [.slot 0, .prim .len [.slot 1]]))]
def c__law_lowered : List CS := [.par [(2, false), (3, false)] [.prim .abs [.slot 0], .prim .abs [.slot 1]], .for (.name 4) (.rng1 (.cst (.int 2000))) [.ifs (.cmp .eq (.slot 3) (.cst (.int 0))) [.brk] [], .par [(2, false), (3, false)] [.slot 3, .bin .mod (.slot 2) (.slot 3)]], .setP (.name 5) (.ite (.cmp .gt (.slot 1) (.cst (.int 0))) (.cst (.int 1)) (.neg (.cst (.int 1)))), .ret (.tup [.bin .fdiv (.bin .mul (.slot 5) (.slot 0)) (.slot 2), .bin .fdiv (.bin .mul (.slot 5) (.slot 1)) (.slot 2)])]
def c__law_bounds : List CS := [.setP (.name 1) (.call i__law_pick [.slot 0, .lst [.cst (.int 1), .cst (.int 2), .cst (.int 3), .cst (.int 4), .cst (.int 7)]]), .ret (.prim .tuple [.comp (.call i__law_lowered [.call i__law_taken [.slot 0, .cst (.int 20)], .slot 1]) (.name 2) (.rng1 (.bin .add (.cst (.int 1)) (.call i__law_taken [.slot 0, .cst (.int 4)]))) none])]
def c__law_sets : List CS := [.setP (.name 1) (.lst [.tup []]), .for (.name 2) (.rng1 (.slot 0)) [.setP (.name 1) (.bin .add (.slot 1) (.comp (.bin .add (.slot 3) (.tup [.slot 2])) (.name 3) (.seq (.slot 1)) none))], .ret (.slot 1)]
def c__law_mix_rows : List CS := [.setP (.name 1) (.lst []), .for (.name 2) (.seq (.call i__law_sets [.slot 0])) [.ifs (.cmp .ne (.slot 2) (.tup [])) [.setP (.name 1) (.bin .add (.slot 1) (.lst [.tup [.slot 2, .cst (.bl false)], .tup [.slot 2, .cst (.bl true)]]))] []], .ret (.prim .sorted [.slot 1])]
def c__law_plus : List CS := [.ret (.call i__law_lowered [.bin .add (.bin .mul (.sub (.slot 0) (.cst (.int 0))) (.sub (.slot 1) (.cst (.int 1)))) (.bin .mul (.sub (.slot 1) (.cst (.int 0))) (.sub (.slot 0) (.cst (.int 1)))), .bin .mul (.sub (.slot 0) (.cst (.int 1))) (.sub (.slot 1) (.cst (.int 1)))])]
def c__law_sum : List CS := [.setP (.name 1) (.tup [.cst (.int 0), .cst (.int 1)]), .for (.name 2) (.seq (.slot 0)) [.setP (.name 1) (.call i__law_plus [.slot 1, .slot 2])], .ret (.slot 1)]
def c__law_times : List CS := [.ret (.call i__law_lowered [.bin .mul (.sub (.slot 0) (.cst (.int 0))) (.sub (.slot 1) (.cst (.int 0))), .bin .mul (.sub (.slot 0) (.cst (.int 1))) (.sub (.slot 1) (.cst (.int 1)))])]
def c__law_part : List CS := [.setP (.name 1) (.bin .sub (.cst (.int 0)) (.bin .fdiv (.bin .sub (.cst (.int 0)) (.sub (.slot 0) (.cst (.int 0)))) (.sub (.slot 0) (.cst (.int 1))))), .ret (.tup [.call i__law_plus [.slot 0, .tup [.bin .sub (.cst (.int 1)) (.slot 1), .cst (.int 1)]], .slot 1])]
def c__law_mix_point : List CS := [.par [(2, true), (3, false), (4, false)] [.lst [], .cst (.int 0), .bin .add (.cst (.int 1)) (.call i__law_taken [.slot 0, .cst (.int 6)])], .for (.name 5) (.rng1 (.bin .add (.cst (.int 1)) (.call i__law_taken [.slot 0, .cst (.int 3)]))) [.setP (.name 6) (.ite (.cmp .eq (.call i__law_taken [.slot 0, .cst (.int 2)]) (.cst (.int 0))) (.call i__law_lowered [.call i__law_taken [.slot 0, .bin .mul (.cst (.int 2)) (.slot 4)], .slot 4]) (.sub (.call i__law_part [.call i__law_pick [.slot 0, .slot 1]]) (.cst (.int 0)))), .setO 7 (.lst []), .for (.name 9) (.seq (.slot 1)) [.setP (.name 11) (.call i__law_plus [.slot 9, .tup [.bin .sub (.cst (.int 0)) (.sub (.slot 6) (.cst (.int 0))), .sub (.slot 6) (.cst (.int 1))]]), .app 7 (.bin .add (.bin .sub (.cst (.int 0)) (.bin .fdiv (.bin .sub (.cst (.int 0)) (.sub (.slot 11) (.cst (.int 0)))) (.sub (.slot 11) (.cst (.int 1))))) (.ite (.cmp .eq (.call i__law_taken [.slot 0, .cst (.int 5)]) (.cst (.int 0))) (.cst (.int 1)) (.cst (.int 0))))], .setP (.name 10) (.bin .add (.cst (.int 1)) (.call i__law_taken [.slot 0, .cst (.int 3)])), .frz 7, .app 2 (.tup [.slot 10, .slot 6, .slot 7]), .setP (.name 3) (.bin .add (.slot 3) (.slot 10))], .setP (.name 6) (.call i__law_sum [.comp (.call i__law_times [.call i__law_lowered [.sub (.slot 12) (.cst (.int 0)), .slot 3], .sub (.slot 12) (.cst (.int 1))]) (.name 12) (.seq (.view 2)) none]), .setO 7 (.lst []), .for (.name 8) (.rng1 (.prim .len [.slot 1])) [.app 7 (.call i__law_lowered [.prim .sum [.comp (.bin .mul (.sub (.slot 12) (.cst (.int 0))) (.sub (.sub (.slot 12) (.cst (.int 2))) (.slot 8))) (.name 12) (.seq (.view 2)) none], .slot 3])], .ifs (.cmp .eq (.call i__law_taken [.slot 0, .cst (.int 2)]) (.cst (.int 0))) [.setP (.name 8) (.call i__law_taken [.slot 0, .prim .len [.slot 1]]), .setI 7 (.slot 8) (.call i__law_plus [.sub (.view 7) (.slot 8), .tup [.bin .sub (.cst (.int 0)) (.cst (.int 1)), .bin .add (.cst (.int 2)) (.call i__law_taken [.slot 0, .cst (.int 8)])]])] [], .ifs (.cmp .eq (.call i__law_taken [.slot 0, .cst (.int 3)]) (.cst (.int 0))) [.setP (.name 6) (.call i__law_times [.slot 6, .tup [.cst (.int 1), .bin .add (.cst (.int 1)) (.call i__law_taken [.slot 0, .cst (.int 3)])]])] [], .ret (.tup [.slot 6, .prim .tuple [.view 7]])]
def c_below : List CS := [.ret (.cmp .lt (.bin .mul (.sub (.slot 0) (.cst (.int 0))) (.sub (.slot 1) (.cst (.int 1)))) (.bin .mul (.sub (.slot 1) (.cst (.int 0))) (.sub (.slot 0) (.cst (.int 1)))))]
def c_is_int : List CS := [.ret (.and (.isinst (.slot 0) [.int]) (.not (.isinst (.slot 0) [.bool])))]
def c_common_divisor : List CS := [.par [(0, false), (1, false)] [.prim .abs [.slot 0], .prim .abs [.slot 1]], .while (.cmp .ne (.slot 1) (.cst (.int 0))) [.par [(0, false), (1, false)] [.slot 1, .bin .mod (.slot 0) (.slot 1)]], .ret (.slot 0)]
def c_is_ratio : List CS := [.ifs (.or (.not (.isinst (.slot 0) [.tuple])) (.or (.cmp .ne (.prim .len [.slot 0]) (.cst (.int 2))) (.or (.not (.call i_is_int [.sub (.slot 0) (.cst (.int 0))])) (.not (.call i_is_int [.sub (.slot 0) (.cst (.int 1))]))))) [.ret (.cst (.bl false))] [], .ret (.and (.cmp .gt (.sub (.slot 0) (.cst (.int 1))) (.cst (.int 0))) (.cmp .eq (.call i_common_divisor [.sub (.slot 0) (.cst (.int 0)), .sub (.slot 0) (.cst (.int 1))]) (.cst (.int 1))))]
def c_need_bounds : List CS := [.ifs (.or (.not (.isinst (.slot 0) [.tuple])) (.not (.chain .le .le (.cst (.int 1)) (.prim .len [.slot 0]) (.cst (.int 5))))) [.raise 26 []] [], .for (.name 1) (.seq (.slot 0)) [.ifs (.or (.not (.call i_is_ratio [.slot 1])) (.or (.cmp .lt (.sub (.slot 1) (.cst (.int 0))) (.cst (.int 0))) (.call i_below [.tup [.cst (.int 999), .cst (.int 1)], .slot 1]))) [.raise 26 []] []]]
def c_need_mix : List CS := [.ifs (.or (.not (.isinst (.slot 1) [.tuple])) (.or (.cmp .ne (.prim .len [.slot 1]) (.cst (.int 2))) (.or (.not (.call i_is_ratio [.sub (.slot 1) (.cst (.int 0))])) (.cmp .lt (.sub (.sub (.slot 1) (.cst (.int 0))) (.cst (.int 0))) (.cst (.int 0)))))) [.raise 27 []] [], .ifs (.or (.not (.isinst (.sub (.slot 1) (.cst (.int 1))) [.tuple])) (.cmp .ne (.prim .len [.sub (.slot 1) (.cst (.int 1))]) (.prim .len [.slot 0]))) [.raise 27 []] [], .ifs (.not (.prim .all [.comp (.call i_is_ratio [.slot 2]) (.name 2) (.seq (.sub (.slot 1) (.cst (.int 1)))) none])) [.raise 27 []] []]
def c_mixing_rows : List CS := [.setP (.name 1) (.lst []), .for (.name 2) (.rng2 (.cst (.int 1)) (.bin .shl (.cst (.int 1)) (.slot 0))) [.setP (.name 3) (.prim .tuple [.comp (.slot 4) (.name 4) (.rng1 (.slot 0)) (some (.bin .band (.bin .shr (.slot 2) (.slot 4)) (.cst (.int 1))))]), .setP (.name 1) (.bin .add (.slot 1) (.lst [.tup [.slot 3, .cst (.bl false)], .tup [.slot 3, .cst (.bl true)]]))], .ret (.prim .sorted [.slot 1])]
def c_ratio : List CS := [.setP (.name 2) (.call i_common_divisor [.slot 0, .slot 1]), .ifs (.cmp .lt (.slot 1) (.cst (.int 0))) [.setP (.name 2) (.neg (.slot 2))] [], .ret (.tup [.bin .fdiv (.slot 0) (.slot 2), .bin .fdiv (.slot 1) (.slot 2)])]
def c_minus : List CS := [.ret (.call i_ratio [.bin .sub (.bin .mul (.sub (.slot 0) (.cst (.int 0))) (.sub (.slot 1) (.cst (.int 1)))) (.bin .mul (.sub (.slot 1) (.cst (.int 0))) (.sub (.slot 0) (.cst (.int 1)))), .bin .mul (.sub (.slot 0) (.cst (.int 1))) (.sub (.slot 1) (.cst (.int 1)))])]
def c_ceiling : List CS := [.ret (.neg (.bin .fdiv (.neg (.sub (.slot 0) (.cst (.int 0)))) (.sub (.slot 0) (.cst (.int 1)))))]
def c_part_of : List CS := [.ret (.call i_minus [.slot 0, .tup [.bin .sub (.call i_ceiling [.slot 0]) (.cst (.int 1)), .cst (.int 1)]])]
def c_in_order : List CS := [.setO 2 (.lst []), .for (.name 3) (.seq (.slot 1)) [.setP (.name 4) (.prim .len [.comp (.slot 5) (.name 5) (.seq (.view 2)) (some (.not (.call i_below [.call i_part_of [.sub (.slot 0) (.slot 3)], .call i_part_of [.sub (.slot 0) (.slot 5)]])))]), .ins 2 (.slot 4) (.slot 3)], .retO 2]
def c_plus : List CS := [.ret (.call i_ratio [.bin .add (.bin .mul (.sub (.slot 0) (.cst (.int 0))) (.sub (.slot 1) (.cst (.int 1)))) (.bin .mul (.sub (.slot 1) (.cst (.int 0))) (.sub (.slot 0) (.cst (.int 1)))), .bin .mul (.sub (.slot 0) (.cst (.int 1))) (.sub (.slot 1) (.cst (.int 1)))])]
def c_times : List CS := [.ret (.call i_ratio [.bin .mul (.sub (.slot 0) (.cst (.int 0))) (.sub (.slot 1) (.cst (.int 0))), .bin .mul (.sub (.slot 0) (.cst (.int 1))) (.sub (.slot 1) (.cst (.int 1)))])]
def c_mix_gap : List CS := [.par [(3, false), (4, false), (5, false)] [.call i_in_order [.slot 0, .sub (.slot 2) (.cst (.int 0))], .tup [.cst (.int 0), .cst (.int 1)], .tup [.cst (.int 0), .cst (.int 1)]], .for (.name 6) (.seq (.slot 3)) [.setP (.name 7) (.call i_minus [.call i_part_of [.sub (.slot 0) (.slot 6)], .slot 4]), .setP (.name 5) (.call i_plus [.slot 5, .call i_times [.slot 7, .call i_minus [.tup [.call i_ceiling [.sub (.slot 0) (.slot 6)], .cst (.int 1)], .sub (.sub (.slot 1) (.cst (.int 1))) (.slot 6)]]]), .setP (.name 4) (.call i_part_of [.sub (.slot 0) (.slot 6)])], .ifs (.sub (.slot 2) (.cst (.int 1))) [.setP (.name 8) (.sub (.slot 3) (.cst (.int 0))), .setP (.name 5) (.call i_plus [.slot 5, .call i_times [.call i_minus [.tup [.cst (.int 1), .cst (.int 1)], .slot 4], .call i_minus [.tup [.bin .sub (.call i_ceiling [.sub (.slot 0) (.slot 8)]) (.cst (.int 1)), .cst (.int 1)], .sub (.sub (.slot 1) (.cst (.int 1))) (.slot 8)]]])] [], .ret (.call i_minus [.sub (.slot 1) (.cst (.int 0)), .slot 5])]
def c_first_broken_mix : List CS := [.for (.name 2) (.seq (.call i_mixing_rows [.prim .len [.slot 0]])) [.ifs (.cmp .lt (.sub (.call i_mix_gap [.slot 0, .slot 1, .slot 2]) (.cst (.int 0))) (.cst (.int 0))) [.ret (.slot 2)] []], .ret (.cst (.non))]
def c_broken_mix : List CS := [.xcall .drop (.f i_need_bounds) [.slot 0], .xcall .drop (.f i_need_mix) [.slot 0, .slot 1], .ret (.call i_first_broken_mix [.slot 0, .slot 1])]
def c__law_less : List CS := [.ret (.cmp .lt (.bin .mul (.sub (.slot 0) (.cst (.int 0))) (.sub (.slot 1) (.cst (.int 1)))) (.bin .mul (.sub (.slot 1) (.cst (.int 0))) (.sub (.slot 0) (.cst (.int 1)))))]
def c__law_mix_gap : List CS := [.setP (.name 3) (.lst []), .for (.name 4) (.seq (.sub (.slot 2) (.cst (.int 0)))) [.setP (.name 7) (.cst (.int 0)), .while (.and (.cmp .lt (.slot 7) (.prim .len [.slot 3])) (.not (.call i__law_less [.sub (.call i__law_part [.sub (.slot 0) (.slot 4)]) (.cst (.int 0)), .sub (.call i__law_part [.sub (.slot 0) (.sub (.slot 3) (.slot 7))]) (.cst (.int 0))]))) [.augP 7 .add (.cst (.int 1))], .setP (.name 3) (.bin .add (.bin .add (.slice (.slot 3) none (some (.slot 7))) (.lst [.slot 4])) (.slice (.slot 3) (some (.slot 7)) none))], .par [(5, false), (6, false)] [.sub (.slot 1) (.cst (.int 0)), .tup [.cst (.int 0), .cst (.int 1)]], .for (.name 4) (.seq (.slot 3)) [.setP (.tup [(.name 8), (.name 9)]) (.call i__law_part [.sub (.slot 0) (.slot 4)]), .setP (.name 10) (.call i__law_plus [.tup [.slot 9, .cst (.int 1)], .tup [.bin .sub (.cst (.int 0)) (.sub (.sub (.sub (.slot 1) (.cst (.int 1))) (.slot 4)) (.cst (.int 0))), .sub (.sub (.sub (.slot 1) (.cst (.int 1))) (.slot 4)) (.cst (.int 1))]]), .setP (.name 11) (.call i__law_times [.call i__law_plus [.slot 8, .tup [.bin .sub (.cst (.int 0)) (.sub (.slot 6) (.cst (.int 0))), .sub (.slot 6) (.cst (.int 1))]], .slot 10]), .par [(5, false), (6, false)] [.call i__law_plus [.slot 5, .tup [.bin .sub (.cst (.int 0)) (.sub (.slot 11) (.cst (.int 0))), .sub (.slot 11) (.cst (.int 1))]], .slot 8]], .ifs (.sub (.slot 2) (.cst (.int 1))) [.setP (.name 10) (.call i__law_plus [.tup [.bin .sub (.sub (.call i__law_part [.sub (.slot 0) (.sub (.slot 3) (.cst (.int 0)))]) (.cst (.int 1))) (.cst (.int 1)), .cst (.int 1)], .tup [.bin .sub (.cst (.int 0)) (.sub (.sub (.sub (.slot 1) (.cst (.int 1))) (.sub (.slot 3) (.cst (.int 0)))) (.cst (.int 0))), .sub (.sub (.sub (.slot 1) (.cst (.int 1))) (.sub (.slot 3) (.cst (.int 0)))) (.cst (.int 1))]]), .setP (.name 11) (.call i__law_times [.call i__law_plus [.tup [.cst (.int 1), .cst (.int 1)], .tup [.bin .sub (.cst (.int 0)) (.sub (.slot 6) (.cst (.int 0))), .sub (.slot 6) (.cst (.int 1))]], .slot 10]), .setP (.name 5) (.call i__law_plus [.slot 5, .tup [.bin .sub (.cst (.int 0)) (.sub (.slot 11) (.cst (.int 0))), .sub (.slot 11) (.cst (.int 1))]])] [], .ret (.slot 5)]
def c__law_alike : List CS := [.ifs (.isinst (.slot 1) [.tuple, .list]) [.ifs (.or (.not (.isinst (.slot 0) [.tuple, .list])) (.cmp .ne (.isinst (.slot 0) [.list]) (.isinst (.slot 1) [.list]))) [.ret (.cst (.bl false))] [], .ifs (.cmp .ne (.prim .len [.slot 0]) (.prim .len [.slot 1])) [.ret (.cst (.bl false))] [], .ret (.cmp .eq (.comp (.slot 2) (.name 2) (.rng1 (.prim .len [.slot 1])) (some (.not (.call i__law_alike [.sub (.slot 0) (.slot 2), .sub (.slot 1) (.slot 2)])))) (.lst []))] [], .ifs (.or (.isN false (.slot 1)) (.isinst (.slot 1) [.str])) [.ret (.and (.cmp .eq (.slot 0) (.slot 1)) (.cmp .eq (.isinst (.slot 0) [.str]) (.isinst (.slot 1) [.str])))] [], .ret (.and (.isinst (.slot 0) [.int]) (.and (.cmp .eq (.isinst (.slot 0) [.bool]) (.isinst (.slot 1) [.bool])) (.cmp .eq (.slot 0) (.slot 1))))]
def c_is_in : List CS := [.ret (.and (.call i_is_int [.slot 0]) (.chain .le .le (.slot 1) (.slot 0) (.slot 2)))]
def c_need_mixing_row : List CS := [.ifs (.or (.not (.isinst (.slot 1) [.tuple])) (.or (.cmp .ne (.prim .len [.slot 1]) (.cst (.int 2))) (.or (.not (.isinst (.sub (.slot 1) (.cst (.int 0))) [.tuple])) (.not (.isinst (.sub (.slot 1) (.cst (.int 1))) [.bool]))))) [.raise 11 []] [], .ifs (.or (.cmp .eq (.sub (.slot 1) (.cst (.int 0))) (.tup [])) (.not (.prim .all [.comp (.call i_is_in [.slot 2, .cst (.int 0), .bin .sub (.prim .len [.slot 0]) (.cst (.int 1))]) (.name 2) (.seq (.sub (.slot 1) (.cst (.int 0)))) none]))) [.raise 11 []] [], .ifs (.not (.prim .all [.comp (.cmp .lt (.sub (.sub (.slot 1) (.cst (.int 0))) (.bin .sub (.slot 2) (.cst (.int 1)))) (.sub (.sub (.slot 1) (.cst (.int 0))) (.slot 2))) (.name 2) (.rng2 (.cst (.int 1)) (.prim .len [.sub (.slot 1) (.cst (.int 0))])) none])) [.raise 11 []] []]
def c_mixing_gap : List CS := [.xcall .drop (.f i_need_bounds) [.slot 0], .xcall .drop (.f i_need_mix) [.slot 0, .slot 1], .xcall .drop (.f i_need_mixing_row) [.slot 0, .slot 2], .ret (.call i_mix_gap [.slot 0, .slot 1, .slot 2])]
def c_law : List CS := [.setR 1 (.lst [.slot 0, .cst (.int 0), .cst (.int 3358), .cst (.int 0)]), .setP (.name 2) (.call i__law_bounds [.slot 1]), .par [(3, false), (4, true)] [.call i__law_lowered [.call i__law_taken [.slot 1, .cst (.int 20)], .bin .add (.cst (.int 1)) (.call i__law_taken [.slot 1, .cst (.int 7)])], .lst []], .for (.name 5) (.seq (.slot 2)) [.setP (.name 9) (.call i__law_plus [.slot 5, .tup [.bin .sub (.cst (.int 0)) (.sub (.slot 3) (.cst (.int 0))), .sub (.slot 3) (.cst (.int 1))]]), .app 4 (.tup [.bin .add (.bin .sub (.cst (.int 0)) (.bin .fdiv (.bin .sub (.cst (.int 0)) (.sub (.slot 9) (.cst (.int 0)))) (.sub (.slot 9) (.cst (.int 1))))) (.ite (.cmp .eq (.call i__law_taken [.slot 1, .cst (.int 2)]) (.cst (.int 0))) (.call i__law_taken [.slot 1, .cst (.int 3)]) (.cst (.int 0))), .cst (.int 1)])], .par [(6, false), (7, false)] [.tup [.slot 3, .prim .tuple [.view 4]], .call i__law_mix_point [.slot 1, .slot 2]], .ifs (.isN true (.call i_broken_mix [.slot 2, .slot 6])) [.ret (.cst (.bl false))] [], .for (.name 8) (.seq (.call i__law_mix_rows [.prim .len [.slot 2]])) [.setP (.name 10) (.call i__law_mix_gap [.slot 2, .slot 6, .slot 8]), .ifs (.or (.cmp .lt (.sub (.slot 10) (.cst (.int 0))) (.cst (.int 0))) (.not (.call i__law_alike [.call i_mixing_gap [.slot 2, .slot 6, .slot 8], .slot 10]))) [.ret (.cst (.bl false))] [], .ifs (.not (.call i__law_alike [.call i_mixing_gap [.slot 2, .slot 7, .slot 8], .call i__law_mix_gap [.slot 2, .slot 7, .slot 8]])) [.ret (.cst (.bl false))] []], .ret (.cst (.bl true))]

abbrev e__law_taken : Ent := ⟨"_law_taken", ["_law_row", "_law_many", "_law_cell", "_law_found"], 2, c__law_taken⟩
abbrev e__law_pick : Ent := ⟨"_law_pick", ["_law_row", "_law_things"], 2, c__law_pick⟩
abbrev e__law_lowered : Ent := ⟨"_law_lowered", ["_law_top", "_law_low", "_law_one", "_law_other", "_law_turn", "_law_sign"], 2, c__law_lowered⟩
abbrev e__law_bounds : Ent := ⟨"_law_bounds", ["_law_row", "_law_low", "_law_at"], 1, c__law_bounds⟩
abbrev e__law_sets : Ent := ⟨"_law_sets", ["_law_many", "_law_found", "_law_at", "_law_told"], 1, c__law_sets⟩
abbrev e__law_mix_rows : Ent := ⟨"_law_mix_rows", ["_law_many", "_law_found", "_law_told"], 1, c__law_mix_rows⟩
abbrev e__law_plus : Ent := ⟨"_law_plus", ["_law_one", "_law_other"], 2, c__law_plus⟩
abbrev e__law_sum : Ent := ⟨"_law_sum", ["_law_some", "_law_found", "_law_told"], 1, c__law_sum⟩
abbrev e__law_times : Ent := ⟨"_law_times", ["_law_one", "_law_other"], 2, c__law_times⟩
abbrev e__law_part : Ent := ⟨"_law_part", ["_law_bound", "_law_ceiling"], 1, c__law_part⟩
abbrev e__law_mix_point : Ent := ⟨"_law_mix_point", ["_law_row", "_law_bounds_here", "_law_parts", "_law_whole", "_law_low", "_law_turn", "_law_rest", "_law_numbers", "_law_at", "_law_bound", "_law_weight", "_law_need", "_law_told"], 2, c__law_mix_point⟩
abbrev e_below : Ent := ⟨"below", ["one", "other"], 2, c_below⟩
abbrev e_is_int : Ent := ⟨"is_int", ["value"], 1, c_is_int⟩
abbrev e_common_divisor : Ent := ⟨"common_divisor", ["one", "other"], 2, c_common_divisor⟩
abbrev e_is_ratio : Ent := ⟨"is_ratio", ["value"], 1, c_is_ratio⟩
abbrev e_need_bounds : Ent := ⟨"need_bounds", ["value", "bound"], 1, c_need_bounds⟩
abbrev e_need_mix : Ent := ⟨"need_mix", ["bounds", "value", "part"], 2, c_need_mix⟩
abbrev e_mixing_rows : Ent := ⟨"mixing_rows", ["many", "found", "mask", "places", "at"], 1, c_mixing_rows⟩
abbrev e_ratio : Ent := ⟨"ratio", ["numerator", "denominator", "common"], 2, c_ratio⟩
abbrev e_minus : Ent := ⟨"minus", ["one", "other"], 2, c_minus⟩
abbrev e_ceiling : Ent := ⟨"ceiling", ["bound"], 1, c_ceiling⟩
abbrev e_part_of : Ent := ⟨"part_of", ["bound"], 1, c_part_of⟩
abbrev e_in_order : Ent := ⟨"in_order", ["bounds", "places", "found", "place", "at", "one"], 2, c_in_order⟩
abbrev e_plus : Ent := ⟨"plus", ["one", "other"], 2, c_plus⟩
abbrev e_times : Ent := ⟨"times", ["one", "other"], 2, c_times⟩
abbrev e_mix_gap : Ent := ⟨"mix_gap", ["bounds", "point", "row", "told", "last", "asked", "place", "step", "first"], 3, c_mix_gap⟩
abbrev e_first_broken_mix : Ent := ⟨"first_broken_mix", ["bounds", "point", "row"], 2, c_first_broken_mix⟩
abbrev e_broken_mix : Ent := ⟨"broken_mix", ["bounds", "point"], 2, c_broken_mix⟩
abbrev e__law_less : Ent := ⟨"_law_less", ["_law_one", "_law_other"], 2, c__law_less⟩
abbrev e__law_mix_gap : Ent := ⟨"_law_mix_gap", ["_law_bounds_here", "_law_point", "_law_row", "_law_told", "_law_place", "_law_found", "_law_last", "_law_at", "_law_part_here", "_law_ceiling", "_law_gap", "_law_ask"], 3, c__law_mix_gap⟩
abbrev e__law_alike : Ent := ⟨"_law_alike", ["_law_found", "_law_due", "_law_k"], 2, c__law_alike⟩
abbrev e_is_in : Ent := ⟨"is_in", ["value", "least", "most"], 3, c_is_in⟩
abbrev e_need_mixing_row : Ent := ⟨"need_mixing_row", ["bounds", "row", "at"], 2, c_need_mixing_row⟩
abbrev e_mixing_gap : Ent := ⟨"mixing_gap", ["bounds", "point", "row"], 3, c_mixing_gap⟩
abbrev e_law : Ent := ⟨"law", ["_law_script", "_law_row", "_law_bounds_here", "_law_rest", "_law_numbers", "_law_bound", "_law_whole", "_law_point", "_law_told", "_law_need", "_law_due"], 1, c_law⟩
def tab : List Ent := [e__law_taken, e__law_pick, e__law_lowered, e__law_bounds, e__law_sets, e__law_mix_rows, e__law_plus, e__law_sum, e__law_times, e__law_part, e__law_mix_point, e_below, e_is_int, e_common_divisor, e_is_ratio, e_need_bounds, e_need_mix, e_mixing_rows, e_ratio, e_minus, e_ceiling, e_part_of, e_in_order, e_plus, e_times, e_mix_gap, e_first_broken_mix, e_broken_mix, e__law_less, e__law_mix_gap, e__law_alike, e_is_in, e_need_mixing_row, e_mixing_gap, e_law]
theorem g__law_taken : Gam tab i__law_taken = some ⟨4, 2, c__law_taken⟩ := rfl
theorem g__law_pick : Gam tab i__law_pick = some ⟨2, 2, c__law_pick⟩ := rfl
theorem g__law_lowered : Gam tab i__law_lowered = some ⟨6, 2, c__law_lowered⟩ := rfl
theorem g__law_bounds : Gam tab i__law_bounds = some ⟨3, 1, c__law_bounds⟩ := rfl
theorem g__law_sets : Gam tab i__law_sets = some ⟨4, 1, c__law_sets⟩ := rfl
theorem g__law_mix_rows : Gam tab i__law_mix_rows = some ⟨3, 1, c__law_mix_rows⟩ := rfl
theorem g__law_plus : Gam tab i__law_plus = some ⟨2, 2, c__law_plus⟩ := rfl
theorem g__law_sum : Gam tab i__law_sum = some ⟨3, 1, c__law_sum⟩ := rfl
theorem g__law_times : Gam tab i__law_times = some ⟨2, 2, c__law_times⟩ := rfl
theorem g__law_part : Gam tab i__law_part = some ⟨2, 1, c__law_part⟩ := rfl
theorem g__law_mix_point : Gam tab i__law_mix_point = some ⟨13, 2, c__law_mix_point⟩ := rfl
theorem g_below : Gam tab i_below = some ⟨2, 2, c_below⟩ := rfl
theorem g_is_int : Gam tab i_is_int = some ⟨1, 1, c_is_int⟩ := rfl
theorem g_common_divisor : Gam tab i_common_divisor = some ⟨2, 2, c_common_divisor⟩ := rfl
theorem g_is_ratio : Gam tab i_is_ratio = some ⟨1, 1, c_is_ratio⟩ := rfl
theorem g_need_bounds : Gam tab i_need_bounds = some ⟨2, 1, c_need_bounds⟩ := rfl
theorem g_need_mix : Gam tab i_need_mix = some ⟨3, 2, c_need_mix⟩ := rfl
theorem g_mixing_rows : Gam tab i_mixing_rows = some ⟨5, 1, c_mixing_rows⟩ := rfl
theorem g_ratio : Gam tab i_ratio = some ⟨3, 2, c_ratio⟩ := rfl
theorem g_minus : Gam tab i_minus = some ⟨2, 2, c_minus⟩ := rfl
theorem g_ceiling : Gam tab i_ceiling = some ⟨1, 1, c_ceiling⟩ := rfl
theorem g_part_of : Gam tab i_part_of = some ⟨1, 1, c_part_of⟩ := rfl
theorem g_in_order : Gam tab i_in_order = some ⟨6, 2, c_in_order⟩ := rfl
theorem g_plus : Gam tab i_plus = some ⟨2, 2, c_plus⟩ := rfl
theorem g_times : Gam tab i_times = some ⟨2, 2, c_times⟩ := rfl
theorem g_mix_gap : Gam tab i_mix_gap = some ⟨9, 3, c_mix_gap⟩ := rfl
theorem g_first_broken_mix : Gam tab i_first_broken_mix = some ⟨3, 2, c_first_broken_mix⟩ := rfl
theorem g_broken_mix : Gam tab i_broken_mix = some ⟨2, 2, c_broken_mix⟩ := rfl
theorem g__law_less : Gam tab i__law_less = some ⟨2, 2, c__law_less⟩ := rfl
theorem g__law_mix_gap : Gam tab i__law_mix_gap = some ⟨12, 3, c__law_mix_gap⟩ := rfl
theorem g__law_alike : Gam tab i__law_alike = some ⟨3, 2, c__law_alike⟩ := rfl
theorem g_is_in : Gam tab i_is_in = some ⟨3, 3, c_is_in⟩ := rfl
theorem g_need_mixing_row : Gam tab i_need_mixing_row = some ⟨3, 2, c_need_mixing_row⟩ := rfl
theorem g_mixing_gap : Gam tab i_mixing_gap = some ⟨3, 3, c_mixing_gap⟩ := rfl
theorem g_law : Gam tab i_law = some ⟨11, 1, c_law⟩ := rfl
def xs : List Nat := [11, 26, 27]
def rs : List Nat := [11, 26, 27]
def bs : List Str := ["int", "len", "abs", "range", "tuple", "sorted", "sum", "isinstance", "bool", "all", "list", "str"]
def cs : List (Str × T) := [("MOST_BOUNDS", (.int 5)), ("MOST_BOUND", (.int 999))]
/-! the draw -/
abbrev FF (n : Nat) : Fns := callF (Gam tab) n
theorem mod_lt' {a m : Int} (h : 0 < m) : 0 ≤ a % m ∧ a % m < m := ⟨Int.emod_nonneg _ (by omega), Int.emod_lt_of_pos _ h⟩
theorem taken_ok (n : Nat) (ns : List Int) (S : Store) (m : Int) (h : Row ns S) (hm : 0 < m) (hm2 : m ≤ 1000000) : ∃ (v : Int) (S' : Store), FF (n + 1) i__law_taken [.ref 0, .int m] S = .ok (.int v, S') ∧ Row ns S' ∧ 0 ≤ v ∧ v < m := by
  obtain ⟨i, s, r, rfl, hi, hs, hs2⟩ := h
  have nm : numOk m = true := numOk_of (by omega) (by omega)
  unfold FF
  rw [call_eq g__law_taken rfl]
  unfold c__law_taken
  by_cases h1 : 0 < r
  · obtain ⟨z1, z2⟩ := mod_lt' (a := r) hm
    refine ⟨r % m, [rowT ns i s (r / m)], ?_, ⟨i, s, _, rfl, hi, hs, hs2⟩, z1, z2⟩
    simp [rowT, h1, bo_mod, bo_fdiv, hm, nm, bindT, ownOf, putOwn, wrOk, nl, L2.ixN, close, Lw.c__law_taken]
  · have n48 : numOk 48271 = true := numOk_of (by omega) (by omega)
    have ns' : numOk s = true := numOk_of (by omega) (by omega)
    have n7 : numOk 7 = true := numOk_of (by omega) (by omega)
    by_cases h2 : (ns.length : Int) < i + 1
    · have z0 : (0 : Int) < 2147483647 := by omega
      obtain ⟨z1, z2⟩ := mod_lt' (a := (s * 48271 + 11) % 2147483647 / 7) hm
      obtain ⟨z3, z4⟩ := mod_lt' (a := s * 48271 + 11) z0
      refine ⟨_, [rowT ns (i + 1) ((s * 48271 + 11) % 2147483647) r], ?_, ⟨_, _, _, rfl, by omega, z3, z4⟩, z1, z2⟩
      simp [rowT, h1, h2, bo_mod, bo_fdiv, bo_mul, hm, nm, n48, ns', n7, bindT, ownOf, putOwn, wrOk, nl, L2.ixN, close]
    · have hx : i.toNat < ns.length := by omega
      have ha : L2.atI ns i = some ns[i.toNat] := by
        rw [atI_nn _ _ hi]
        simp [hx]
      have z0 : (0 : Int) < 2147483647 := by omega
      obtain ⟨z1, z2⟩ := mod_lt' (a := ns[i.toNat]) hm
      obtain ⟨z3, z4⟩ := mod_lt' (a := s * 48271 + ns[i.toNat] + 11) z0
      have hp : bop .pow (.int 10) (.int 18) = some (.int 1000000000000000000) := by rfl
      by_cases h3 : 1000000000000000000 ≤ ns[i.toNat]
      · refine ⟨_, [rowT ns (i + 1) ((s * 48271 + ns[i.toNat] + 11) % 2147483647) (ns[i.toNat] / m)], ?_, ⟨_, _, _, rfl, by omega, z3, z4⟩, z1, z2⟩
        simp [rowT, h1, h2, h3, ha, hp, bo_mod, bo_fdiv, bo_mul, hm, nm, n48, ns', n7, bindT, ownOf, putOwn, wrOk, nl, L2.ixN, close]
      · refine ⟨_, [rowT ns (i + 1) ((s * 48271 + ns[i.toNat] + 11) % 2147483647) r], ?_, ⟨_, _, _, rfl, by omega, z3, z4⟩, z1, z2⟩
        simp [rowT, h1, h2, h3, ha, hp, bo_mod, bo_fdiv, bo_mul, hm, nm, n48, ns', n7, bindT, ownOf, putOwn, wrOk, nl, L2.ixN, close]

theorem pick_ok (n : Nat) (ns : List Int) (S : Store) (xs : List T) (h : Row ns S) (h0 : 0 < xs.length) (h1 : xs.length ≤ 1000) :
    ∃ (t : T) (S' : Store), FF (n + 2) i__law_pick [.ref 0, .lst xs] S = .ok (t, S') ∧ Row ns S' ∧ t ∈ xs := by
  unfold FF
  rw [call_eq g__law_pick rfl]
  unfold c__law_pick
  obtain ⟨v, S', e, j, v0, v1⟩ := taken_ok n ns S xs.length h (by omega) (by omega)
  unfold FF at e
  have hx : v.toNat < xs.length := by omega
  refine ⟨xs[v.toNat], S', ?_, j, by simp⟩
  have hl : S'.length = S.length := by
    obtain ⟨_, _, _, rfl, _⟩ := j
    obtain ⟨_, _, _, rfl, _⟩ := h
    rfl
  have ha : L2.atI xs v = some xs[v.toNat] := by
    rw [atI_nn _ _ v0]
    simp [hx]
  simp [e, ha, close, hl]
structure Prob where
  d : List Int
  s : List Int
  u : List Int
  h : List Int
def Prob.t (P : Prob) : T := .tup [ti P.d, ti P.s, ti P.u, ti P.h]
def Ents (L : List Int) (m : Nat) : Prop := L.length = m ∧ ∀ x ∈ L, 0 ≤ x ∧ x ≤ 999
structure Prob.Ok (P : Prob) (m : Nat) : Prop where
  d : Ents P.d m
  s : Ents P.s m
  u : Ents P.u m
  h : Ents P.h m
theorem row_len {ns : List Int} {S S' : Store} (h : Row ns S) (h' : Row ns S') : S'.length = S.length := by
  obtain ⟨_, _, _, rfl, _⟩ := h
  obtain ⟨_, _, _, rfl, _⟩ := h'
  rfl
theorem sum_nn : ∀ {L : List Int}, (∀ x ∈ L, 0 ≤ x) → 0 ≤ L.sum
  | [], _ => by simp
  | x :: L, h => by
    have h1 := h x (by simp)
    have h2 := sum_nn (L := L) fun y hy => h y (by simp [hy])
    simp only [List.sum_cons]
    omega
theorem sum_le {b : Int} : ∀ {L : List Int}, (∀ x ∈ L, x ≤ b) → L.sum ≤ b * L.length
  | [], _ => by simp
  | x :: L, h => by
    have h1 := h x (by simp)
    have h2 := sum_le (L := L) fun y hy => h y (by simp [hy])
    simp only [List.sum_cons, List.length_cons]
    have : b * ((L.length + 1 : Nat) : Int) = b * L.length + b := by
      rw [Int.natCast_add, Int.mul_add]; simp
    omega
def sumTo (f : Nat → Int) (k : Nat) : Int := ((List.range k).map f).sum
theorem sumTo_succ (f : Nat → Int) (k : Nat) : sumTo f (k + 1) = sumTo f k + f k := by
  simp [sumTo, List.range_succ]
theorem take_succ_sum (D : List Int) (k : Nat) (h : k < D.length) : (D.take (k + 1)).sum = (D.take k).sum + gi D k := by
  rw [List.take_succ_eq_append_getElem h, List.sum_append, gi_eq h]
  simp

theorem is_int_ok (n : Nat) (x : Int) (S : Store) : FF (n + 1) i_is_int [.int x] S = .ok (.bl true, S) := by
  unfold FF
  rw [call_eq g_is_int rfl]
  simp [c_is_int, isA, close]
theorem is_in_ok (n : Nat) (x a b : Int) (S : Store) : FF (n + 2) i_is_in [.int x, .int a, .int b] S = .ok (.bl (decide (a ≤ x) && decide (x ≤ b)), S) := by
  have e := is_int_ok n x S
  unfold FF at e ⊢
  rw [call_eq g_is_in rfl]
  by_cases h : a ≤ x
  · simp [c_is_in, e, close, h]
  · simp [c_is_in, e, close, h]
theorem np_inner (n m : Nat) (L : List Int) (hL : Ents L m) (a b c x3 x4 : Option T) (S : Store) : ∃ y3 y4, forL (.tup [.name 3, .name 4]) (evalSs (FF (n + 2)) [.ifs (.not (.call i_is_in [.slot 4, .cst (.int 0), .cst (.int 999)])) [.raise 1 [.slot 1, .slot 3]] []]) (enumT 0 (L.map .int)) [a, b, c, x3, x4] S = .ok (.nx [a, b, c, y3, y4] S) := by
  obtain ⟨ρ2, S2, e, rfl, y3, y4, rfl⟩ := forL_all (tg := .tup [.name 3, .name 4]) (b := evalSs (FF (n + 2)) [.ifs (.not (.call i_is_in [.slot 4, .cst (.int 0), .cst (.int 999)])) [.raise 1 [.slot 1, .slot 3]] []]) (xs := enumT 0 (L.map .int))
    (fun k ρ S' => S' = S ∧ ∃ x3 x4, ρ = [a, b, c, x3, x4]) (ρ := [a, b, c, x3, x4]) (S := S) ⟨rfl, _, _, rfl⟩ (by
      rintro k ρ S' hk ⟨rfl, x3, x4, rfl⟩
      have hk' : k < L.length := by simpa [enumT_len] using hk
      have hx := hL.2 _ (gi_mem L k hk')
      have e := is_in_ok n (gi L k) 0 999 S'
      refine ⟨[a, b, c, some (.int k), some (.int (gi L k))], [a, b, c, some (.int k), some (.int (gi L k))], S', ?_, ?_, rfl, _, _, rfl⟩
      · rw [enumT_at, gi_eq hk']
        simp [bindT, bindTs]
      · unfold FF at e ⊢
        simp [e, hx.1, hx.2])
  exact ⟨y3, y4, e⟩
/-! values of all kinds: the checks -/
@[simp] theorem own_exv (c : Nat) (as : List T) : (T.exv c as).isOwn = false := rfl
@[simp] theorem own_fnv (x : Str) (f : Nat) : (T.fn x f).isOwn = false := rfl
@[simp] theorem view_exv (c : Nat) (as : List T) : (T.exv c as).view = T.exv c as := rfl
@[simp] theorem view_fnv (x : Str) (f : Nat) : (T.fn x f).view = T.fn x f := rfl
def vk : T → Bool
  | .non => true
  | .bl _ => true
  | .int _ => true
  | .str _ => true
  | .tup _ => true
  | .lst _ => true
  | .dct _ _ (some _) => true
  | _ => false
def isI : T → Bool
  | .int _ => true
  | _ => false
def inI (a b : Int) : T → Bool
  | .int x => decide (a ≤ x) && decide (x ≤ b)
  | _ => false
theorem vk_none {ks : List (List L2.Key)} {xs : List T} (h : vk (.dct ks xs none) = true) : False := by cases h
theorem vk_own {t : T} (h : vk t = true) : t.isOwn = false := by cases t <;> first | rfl | (cases h; done)
theorem vk_view {t : T} (h : vk t = true) : t.view = t := by cases t <;> first | rfl | (cases h; done)
theorem vk_ty {t : T} (h : vk t = true) : ∃ y, tyOf t = some y ∧ isA y .tuple = isTup t := by
  cases t with
  | dct ks xs m =>
    cases m with
    | none => exact (vk_none h).elim
    | some m => exact ⟨_, rfl, rfl⟩
  | _ => first | (cases h; done) | exact ⟨_, rfl, rfl⟩
theorem is_int_any (n : Nat) (t : T) (h : vk t = true) (S : Store) : FF (n + 1) i_is_int [t] S = .ok (.bl (isI t), S) := by
  unfold FF
  rw [call_eq g_is_int rfl]
  cases t with
  | dct ks xs m =>
    cases m with
    | none => exact (vk_none h).elim
    | some m => simp [c_is_int, isA, isI, tyOf, close, T.isOwn]
  | _ => first | (cases h; done) | simp [c_is_int, isA, isI, tyOf, close, T.isOwn]
theorem is_in_any (n : Nat) (t : T) (a b : Int) (h : vk t = true) (S : Store) : FF (n + 2) i_is_in [t, .int a, .int b] S = .ok (.bl (inI a b t), S) := by
  have e := is_int_any n t h S
  have o := vk_own h
  unfold FF at e ⊢
  rw [call_eq g_is_in rfl]
  cases t with
  | int x =>
    by_cases c : a ≤ x
    · simp [c_is_in, e, isI, inI, close, c]
    · simp [c_is_in, e, isI, inI, close, c]
  | dct ks xs m =>
    cases m with
    | none => exact (vk_none h).elim
    | some m => have v := vk_view h; simp [c_is_in, o, v, e, isI, inI, close]
  | _ => first | (cases h; done) | (have v := vk_view h; simp [c_is_in, o, v, e, isI, inI, close])
/-- the first one that is out of bounds -/
def fb (a b : Int) : List T → Option Nat
  | [] => none
  | t :: ts => if inI a b t then (fb a b ts).map (· + 1) else some 0
abbrev bNP : List CS := [.ifs (.not (.call i_is_in [.slot 4, .cst (.int 0), .cst (.int 999)])) [.raise 1 [.slot 1, .slot 3]] []]
theorem fb_tail {a b : Int} {t : T} {L : List T} (h : inI a b t = true) : fb a b (t :: L) = (fb a b L).map (· + 1) := by simp only [fb, h, if_true]
theorem np_in (n : Nat) (p : Int) (S : Store) (a c : Option T) : ∀ (L : List T) (k : Nat) (x3 x4 : Option T), L.all vk = true →
    (fb 0 999 L = none → ∃ y3 y4, forL (.tup [.name 3, .name 4]) (evalSs (FF (n + 2)) bNP) (enumT k L) [a, some (.int p), c, x3, x4] S = .ok (.nx [a, some (.int p), c, y3, y4] S)) ∧
    (∀ i, fb 0 999 L = some i → ∃ ρ, forL (.tup [.name 3, .name 4]) (evalSs (FF (n + 2)) bNP) (enumT k L) [a, some (.int p), c, x3, x4] S = .ok (.xc 1 [.int p, .int ((k + i : Nat) : Int)] ρ S))
  | [], k, x3, x4, _ => ⟨fun _ => ⟨x3, x4, rfl⟩, fun i h => by cases h⟩
  | t :: L, k, x3, x4, h => by
    simp only [List.all_cons, Bool.and_eq_true] at h
    have e := is_in_any n t 0 999 h.1 S
    have o := vk_own h.1
    have v := vk_view h.1
    have ih := np_in n p S a c L (k + 1) (some (.int k)) (some t) h.2
    have eb : bindT (.tup [.name 3, .name 4]) (.tup [.int k, t]) [a, some (.int p), c, x3, x4] = some [a, some (.int p), c, some (.int k), some t] := by simp [bindT, bindTs, o]
    have hF : (clsF 1).length = 2 := rfl
    by_cases hi : inI 0 999 t = true
    · have es : evalSs (FF (n + 2)) bNP [a, some (.int p), c, some (.int k), some t] S = .ok (.nx [a, some (.int p), c, some (.int k), some t] S) := by
        unfold FF at e ⊢
        simp [o, v, e, hi]
      have ef : forL (.tup [.name 3, .name 4]) (evalSs (FF (n + 2)) bNP) (enumT k (t :: L)) [a, some (.int p), c, x3, x4] S = forL (.tup [.name 3, .name 4]) (evalSs (FF (n + 2)) bNP) (enumT (k + 1) L) [a, some (.int p), c, some (.int k), some t] S := by
        show (Res.of (bindT _ _ _)).bind _ = _
        rw [eb]
        show (evalSs (FF (n + 2)) bNP _ S >>= _) = _
        rw [es]
        rfl
      rw [fb_tail hi, ef]
      refine ⟨fun z => ih.1 (by simpa using z), fun i z => ?_⟩
      cases q : fb 0 999 L with
      | none => rw [q] at z; cases z
      | some j =>
        rw [q] at z
        cases z
        obtain ⟨ρ, e2⟩ := ih.2 j q
        refine ⟨ρ, ?_⟩
        rw [e2, Nat.add_right_comm, Nat.add_assoc]
    · have hi' : inI 0 999 t = false := by simpa using hi
      have es : evalSs (FF (n + 2)) bNP [a, some (.int p), c, some (.int k), some t] S = .ok (.xc 1 [.int p, .int k] [a, some (.int p), c, some (.int k), some t] S) := by
        unfold FF at e ⊢
        simp [o, v, e, hi', hF, sim]
      have ef : forL (.tup [.name 3, .name 4]) (evalSs (FF (n + 2)) bNP) (enumT k (t :: L)) [a, some (.int p), c, x3, x4] S = .ok (.xc 1 [.int p, .int k] [a, some (.int p), c, some (.int k), some t] S) := by
        show (Res.of (bindT _ _ _)).bind _ = _
        rw [eb]
        show (evalSs (FF (n + 2)) bNP _ S >>= _) = _
        rw [es]
        rfl
      rw [ef]
      have hb : fb 0 999 (t :: L) = some 0 := by simp only [fb, hi', Bool.false_eq_true, if_false]
      rw [hb]
      refine ⟨fun z => (by cases z), fun i z => ?_⟩
      cases z
      exact ⟨_, rfl⟩
/-- which error a value has as a problem -/
def probErr : T → Option (T × T)
  | .tup [.tup a, .tup b, .tup c, .tup d] => if (1 ≤ a.length ∧ a.length ≤ 12) ∧ b.length = a.length ∧ c.length = a.length ∧ d.length = a.length then
      (match fb 0 999 a with
      | some i => some (.int 0, .int i)
      | none => match fb 0 999 b with
        | some i => some (.int 1, .int i)
        | none => match fb 0 999 c with
          | some i => some (.int 2, .int i)
          | none => match fb 0 999 d with
            | some i => some (.int 3, .int i)
            | none => none)
      else some (.non, .non)
  | _ => some (.non, .non)
/-- a value whose parts are values, and theirs -/
def vk2 : T → Bool
  | .tup xs => xs.all fun x => vk x && (match x with | .tup ys => ys.all vk && decide (ys.length ≤ 1000) | _ => true)
  | t => vk t
def prE (o : Option (T × T)) (S : Store) : Res (T × Store) := match o with
  | none => .ok (.non, S)
  | some (p, i) => .exc 1 [p, i] S
theorem all4 {a b c d : Bool} : prim .all [.lst [.bl a, .bl b, .bl c, .bl d]] = some (.bl (a && (b && (c && d)))) := by simp [prim, truthsT]
theorem any4 {a b c d : Bool} : prim .any [.lst [.bl a, .bl b, .bl c, .bl d]] = some (.bl (a || (b || (c || d)))) := by simp [prim, truthsT]
/-! segments -/
def segS (L : List Int) (a b : Nat) : Int := ((L.drop a).take (b - a)).sum
theorem segS_cut (L : List Int) (a b : Nat) (h : a ≤ b) (hb : b ≤ L.length) : prim .sum [.lst (cut (L.map T.int) (some (a : Int)) (some (b : Int)))] = some (.int (segS L a b)) ∧ prim .sum [.tup (cut (L.map T.int) (some (a : Int)) (some (b : Int)))] = some (.int (segS L a b)) := by
  rw [cut_ti L a b h hb]
  exact ⟨pr_sumL _, pr_sumT _⟩
theorem segS_self (L : List Int) (a : Nat) : segS L a a = 0 := by simp [segS]
/-! the least cost of a plan: plain -/
theorem sumTo_zero (f : Nat → Int) : sumTo f 0 = 0 := rfl
theorem sumTo_congr {f g : Nat → Int} : ∀ {k : Nat}, (∀ i, i < k → f i = g i) → sumTo f k = sumTo g k
  | 0, _ => rfl
  | k + 1, h => by rw [sumTo_succ, sumTo_succ, sumTo_congr (k := k) fun i hi => h i (by omega), h k (by omega)]
theorem sumTo_add (f g : Nat → Int) (k : Nat) : sumTo (fun i => f i + g i) k = sumTo f k + sumTo g k := by
  induction k with
  | zero => rfl
  | succ k ih => rw [sumTo_succ, sumTo_succ, sumTo_succ, ih]; omega
theorem sumTo_le {f g : Nat → Int} : ∀ {k : Nat}, (∀ i, i < k → f i ≤ g i) → sumTo f k ≤ sumTo g k
  | 0, _ => Int.le_refl _
  | k + 1, h => by
    have h1 := sumTo_le (k := k) fun i hi => h i (by omega)
    have h2 := h k (by omega)
    rw [sumTo_succ, sumTo_succ]
    omega
theorem sumTo_nn {f : Nat → Int} {k : Nat} (h : ∀ i, i < k → 0 ≤ f i) : 0 ≤ sumTo f k := by
  have := sumTo_le (f := fun _ => 0) (g := f) h
  have e : sumTo (fun _ => 0) k = 0 := by
    clear this h
    induction k with
    | zero => rfl
    | succ k ih => rw [sumTo_succ, ih]; rfl
  omega
theorem sumTo_zero' {f : Nat → Int} {k : Nat} (h : ∀ i, i < k → f i = 0) : sumTo f k = 0 := by
  rw [sumTo_congr h]
  clear h
  induction k with
  | zero => rfl
  | succ k ih => rw [sumTo_succ, ih]; rfl
theorem sumTo_split (f : Nat → Int) (a k : Nat) : sumTo f (a + k) = sumTo f a + sumTo (fun i => f (a + i)) k := by
  induction k with
  | zero => simp [sumTo_zero]
  | succ k ih => rw [← Nat.add_assoc, sumTo_succ, sumTo_succ, ih]; omega
theorem sumTo_mul (f : Nat → Int) (c : Int) (k : Nat) : sumTo (fun i => c * f i) k = c * sumTo f k := by
  induction k with
  | zero => simp [sumTo_zero]
  | succ k ih => rw [sumTo_succ, sumTo_succ, ih, Int.mul_add]
theorem gi_nn {L : List Int} (h : ∀ x ∈ L, 0 ≤ x) (i : Nat) : 0 ≤ gi L i := by
  by_cases hi : i < L.length
  · exact h _ (gi_mem L i hi)
  · unfold gi
    rw [List.getD_eq_getElem?_getD, List.getElem?_eq_none (by omega)]
    exact Int.le_refl _
theorem gi_out {L : List Int} {i : Nat} (h : L.length ≤ i) : gi L i = 0 := by
  unfold gi
  rw [List.getD_eq_getElem?_getD, List.getElem?_eq_none h]
  rfl
theorem take_sumTo (L : List Int) (k : Nat) : (L.take k).sum = sumTo (gi L) k := by
  induction k with
  | zero => simp [sumTo_zero]
  | succ k ih =>
    rw [sumTo_succ, ← ih]
    by_cases hk : k < L.length
    · exact take_succ_sum L k hk
    · rw [gi_out (by omega), List.take_of_length_le (by omega), List.take_of_length_le (by omega)]
      omega
theorem segS_sumTo (L : List Int) (a b : Nat) (h : a ≤ b) : segS L a b = sumTo (gi L) b - sumTo (gi L) a := by
  have e1 := take_sumTo L a
  have e2 := take_sumTo L b
  have e3 : L.take b = L.take a ++ (L.drop a).take (b - a) := by
    obtain ⟨k, rfl⟩ : ∃ k, b = a + k := ⟨b - a, by omega⟩
    rw [List.take_add, Nat.add_sub_cancel_left]
  rw [e3, List.sum_append] at e2
  unfold segS
  omega
theorem segS_succ (L : List Int) (a b : Nat) (h : a ≤ b) : segS L a (b + 1) = segS L a b + gi L b := by
  rw [segS_sumTo L a b h, segS_sumTo L a (b + 1) (by omega), sumTo_succ]
  omega
/-- a unit made at s, kept until t -/
def kI (P : Prob) (s t : Nat) : Int := gi P.u s + segS P.h s t
theorem kI_succ (P : Prob) (s t : Nat) (h : s ≤ t) : kI P s (t + 1) = kI P s t + gi P.h t := by
  unfold kI
  rw [segS_succ _ _ _ h]
  omega
theorem kI_self (P : Prob) (s : Nat) : kI P s s = gi P.u s := by
  unfold kI
  rw [segS_self]
  omega
/-- what units of a lot cost -/
def lotV (P : Prob) (s e : Nat) : Int := sumTo (fun i => kI P s (s + i) * gi P.d (s + i)) (e - s)
def lotI (P : Prob) (s e : Nat) : Int := if segS P.d s e = 0 then 0 else gi P.s s + lotV P s e
theorem lotV_succ (P : Prob) (s e : Nat) (h : s ≤ e) : lotV P s (e + 1) = lotV P s e + kI P s e * gi P.d e := by
  unfold lotV
  have : e + 1 - s = (e - s) + 1 := by omega
  rw [this, sumTo_succ]
  have : s + (e - s) = e := by omega
  rw [this]
theorem lotV_self (P : Prob) (s : Nat) : lotV P s s = 0 := by
  unfold lotV
  rw [Nat.sub_self]
  rfl
structure Prob.Nn (P : Prob) : Prop where
  d : ∀ i, 0 ≤ gi P.d i
  s : ∀ i, 0 ≤ gi P.s i
  u : ∀ i, 0 ≤ gi P.u i
  h : ∀ i, 0 ≤ gi P.h i
theorem Prob.Ok.nn {P : Prob} {m : Nat} (h : P.Ok m) : P.Nn :=
  ⟨fun i => gi_nn (fun x hx => (h.d.2 x hx).1) i, fun i => gi_nn (fun x hx => (h.s.2 x hx).1) i, fun i => gi_nn (fun x hx => (h.u.2 x hx).1) i, fun i => gi_nn (fun x hx => (h.h.2 x hx).1) i⟩
theorem kI_nn {P : Prob} (h : P.Nn) (s t : Nat) (hst : s ≤ t) : 0 ≤ kI P s t := by
  unfold kI
  have h1 := h.u s
  obtain ⟨k, rfl⟩ : ∃ k, t = s + k := ⟨t - s, by omega⟩
  have h2 := sumTo_split (gi P.h) s k
  have h3 := sumTo_nn (f := fun i => gi P.h (s + i)) (k := k) fun i _ => h.h _
  rw [segS_sumTo _ _ _ hst]
  omega
theorem lotV_nn {P : Prob} (h : P.Nn) (s e : Nat) : 0 ≤ lotV P s e :=
  sumTo_nn fun i _ => Int.mul_nonneg (kI_nn h _ _ (by omega)) (h.d _)
theorem lotI_le {P : Prob} (h : P.Nn) (s e : Nat) : lotI P s e ≤ gi P.s s + lotV P s e := by
  unfold lotI
  have h1 := h.s s
  have h2 := lotV_nn h s e
  split <;> omega
theorem lotI_nn {P : Prob} (h : P.Nn) (s e : Nat) : 0 ≤ lotI P s e := by
  unfold lotI
  have h1 := h.s s
  have h2 := lotV_nn h s e
  split <;> omega
/-- the least of f 0 .. f (n - 1) -/
def minO (f : Nat → Int) : Nat → Int
  | 0 => 0
  | 1 => f 0
  | n + 2 => if f (n + 1) < minO f (n + 1) then f (n + 1) else minO f (n + 1)
theorem minO_le (f : Nat → Int) : ∀ (n i : Nat), i < n → minO f n ≤ f i
  | 0, i, h => by omega
  | 1, i, h => by
    have : i = 0 := by omega
    subst this
    exact Int.le_refl _
  | n + 2, i, h => by
    show (if f (n + 1) < minO f (n + 1) then f (n + 1) else minO f (n + 1)) ≤ f i
    by_cases hi : i = n + 1
    · subst hi
      split <;> omega
    · have := minO_le f (n + 1) i (by omega)
      split <;> omega
theorem minO_mem (f : Nat → Int) : ∀ n, 0 < n → ∃ i, i < n ∧ minO f n = f i
  | 0, h => by omega
  | 1, _ => ⟨0, by omega, rfl⟩
  | n + 2, _ => by
    obtain ⟨i, hi, e⟩ := minO_mem f (n + 1) (by omega)
    show ∃ i, i < n + 2 ∧ (if f (n + 1) < minO f (n + 1) then f (n + 1) else minO f (n + 1)) = f i
    split
    · exact ⟨n + 1, by omega, rfl⟩
    · exact ⟨i, by omega, e⟩
theorem minO_congr {f g : Nat → Int} {n : Nat} (h : ∀ i, i < n → f i = g i) : minO f n = minO g n := by
  induction n with
  | zero => rfl
  | succ n ih =>
    cases n with
    | zero => exact h 0 (by omega)
    | succ n =>
      have e := ih fun i hi => h i (by omega)
      show (if f (n + 1) < minO f (n + 1) then f (n + 1) else minO f (n + 1)) = (if g (n + 1) < minO g (n + 1) then g (n + 1) else minO g (n + 1))
      rw [e, h (n + 1) (by omega)]
/-- the stages -/
def stL (P : Prob) : Nat → List Int
  | 0 => [0]
  | e + 1 => stL P e ++ [minO (fun s => gi (stL P e) s + lotI P s (e + 1)) (e + 1)]
theorem stL_len (P : Prob) : ∀ e, (stL P e).length = e + 1
  | 0 => rfl
  | e + 1 => by simp [stL, stL_len P e]
def stg (P : Prob) (e : Nat) : Int := gi (stL P e) e
theorem gi_append_l (L M : List Int) (i : Nat) (h : i < L.length) : gi (L ++ M) i = gi L i := by
  simp [gi, List.getElem?_append_left h]
theorem gi_append_r (L : List Int) (x : Int) : gi (L ++ [x]) L.length = x := by
  simp [gi]
theorem stL_gi (P : Prob) : ∀ (k e : Nat), e ≤ k → gi (stL P k) e = stg P e
  | 0, e, h => by
    have : e = 0 := by omega
    subst this
    rfl
  | k + 1, e, h => by
    by_cases he : e = k + 1
    · subst he; rfl
    · show gi (stL P k ++ _) e = _
      rw [gi_append_l _ _ _ (by rw [stL_len]; omega), stL_gi P k e (by omega)]
theorem stg_zero (P : Prob) : stg P 0 = 0 := rfl
theorem stg_succ (P : Prob) (e : Nat) : stg P (e + 1) = minO (fun s => stg P s + lotI P s (e + 1)) (e + 1) := by
  show gi (stL P e ++ _) (e + 1) = _
  have hl := stL_len P e
  have := gi_append_r (stL P e) (minO (fun s => gi (stL P e) s + lotI P s (e + 1)) (e + 1))
  rw [hl] at this
  rw [this]
  exact minO_congr fun i hi => by rw [stL_gi P e i (by omega)]
theorem stg_le (P : Prob) (s e : Nat) (h : s < e) : stg P e ≤ stg P s + lotI P s e := by
  obtain ⟨k, rfl⟩ : ∃ k, e = k + 1 := ⟨e - 1, by omega⟩
  rw [stg_succ]
  exact minO_le (fun s => stg P s + lotI P s (k + 1)) (k + 1) s h
theorem stg_at (P : Prob) (e : Nat) (h : 0 < e) : ∃ s, s < e ∧ stg P e = stg P s + lotI P s e := by
  obtain ⟨k, rfl⟩ : ∃ k, e = k + 1 := ⟨e - 1, by omega⟩
  rw [stg_succ]
  exact minO_mem (fun s => stg P s + lotI P s (k + 1)) (k + 1) h
theorem stg_nn {P : Prob} (h : P.Nn) : ∀ k e, e ≤ k → 0 ≤ stg P e
  | k, 0, _ => Int.le_refl _
  | 0, e + 1, hk => by omega
  | k + 1, e + 1, hk => by
    obtain ⟨s, hs, e1⟩ := stg_at P (e + 1) (by omega)
    have := stg_nn h k s (by omega)
    have := lotI_nn h s (e + 1)
    omega
/-! a plan's cheapest starts -/
def btr (P : Prob) (t : Nat) : Option Nat → Bool
  | none => true
  | some b => decide (kI P t t ≤ kI P b t)
def bst (P : Prob) (A : List Int) : Nat → Option Nat
  | 0 => none
  | t + 1 => if 0 < gi A t ∧ btr P t (bst P A t) = true then some t else bst P A t
/-- setups and units up to t -/
def wsum (P : Prob) (A : List Int) (k : Nat) : Int := sumTo (fun t => (if 0 < gi A t then gi P.s t else 0) + (match bst P A (t + 1) with | none => 0 | some b => kI P b t * gi P.d t)) k
theorem bst_lt (P : Prob) (A : List Int) : ∀ e b, bst P A e = some b → b < e ∧ 0 < gi A b
  | 0, b, h => by cases h
  | e + 1, b, h => by
    unfold bst at h
    split at h
    · rename_i c
      injection h with h
      subst h
      exact ⟨by omega, c.1⟩
    · have := bst_lt P A e b h
      exact ⟨by omega, this.2⟩
theorem bst_none (P : Prob) (A : List Int) : ∀ e, bst P A e = none → ∀ i, i < e → ¬ 0 < gi A i
  | 0, _, i, hi => by omega
  | e + 1, h, i, hi => by
    unfold bst at h
    split at h
    · cases h
    · rename_i c
      have ih := bst_none P A e h
      by_cases hie : i = e
      · subst hie
        intro z
        apply c
        rw [h]
        exact ⟨z, rfl⟩
      · exact ih i (by omega)
theorem bst_min (P : Prob) (A : List Int) : ∀ e b, bst P A (e + 1) = some b → ∀ s, s ≤ e → 0 < gi A s → kI P b e ≤ kI P s e
  | e, b, h, s, hs, ha => by
    have key : ∀ b', bst P A e = some b' → ∀ s, s < e → 0 < gi A s → kI P b' e ≤ kI P s e := fun b' hb' s hs ha => by
      cases e with
      | zero => omega
      | succ e =>
        have := bst_min P A e b' hb' s (by omega) ha
        have l1 := (bst_lt P A _ _ hb').1
        rw [kI_succ P b' e (by omega), kI_succ P s e (by omega)]
        omega
    unfold bst at h
    split at h
    · rename_i c
      injection h with h
      subst h
      by_cases hse : s = e
      · subst hse; exact Int.le_refl _
      · cases q : bst P A e with
        | none => exact absurd ha (bst_none P A e q s (by omega))
        | some b' =>
          have c2 := c.2
          rw [q] at c2
          have c2 := of_decide_eq_true c2
          have := key b' q s (by omega) ha
          exact Int.le_trans c2 this
    · rename_i c
      by_cases hse : s = e
      · subst hse
        rw [h] at c
        have : ¬ kI P s s ≤ kI P b s := fun z => c ⟨ha, decide_eq_true z⟩
        omega
      · exact key b h s (by omega) ha
theorem wsum_succ (P : Prob) (A : List Int) (k : Nat) : wsum P A (k + 1) = wsum P A k + ((if 0 < gi A k then gi P.s k else 0) + (match bst P A (k + 1) with | none => 0 | some b => kI P b k * gi P.d k)) := by
  unfold wsum
  rw [sumTo_succ]
theorem setup_nn {P : Prob} (h : P.Nn) (A : List Int) (k : Nat) : 0 ≤ (if 0 < gi A k then gi P.s k else 0 : Int) := by
  have := h.s k
  split <;> omega
/-- a lot from the best start on -/
theorem wsum_lot {P : Prob} (h : P.Nn) (A : List Int) : ∀ e b, bst P A e = some b → wsum P A b + gi P.s b + lotV P b e ≤ wsum P A e
  | 0, b, hb => by cases hb
  | e + 1, b, hb => by
    rw [wsum_succ, hb]
    have q := setup_nn h A e
    by_cases hbe : b = e
    · subst hbe
      have ha := (bst_lt P A _ _ hb).2
      rw [if_pos ha, lotV_succ P b b (Nat.le_refl _), lotV_self]
      simp only
      omega
    · have hb' : bst P A e = some b := by
        unfold bst at hb
        split at hb
        · injection hb with hb
          omega
        · exact hb
      have ih := wsum_lot h A e b hb'
      have hl := (bst_lt P A _ _ hb').1
      rw [lotV_succ P b e (by omega)]
      simp only
      omega
/-- the least cost is at most what any plan's starts let one pay -/
theorem stg_wsum {P : Prob} (h : P.Nn) (A : List Int) (ht : ∀ k, sumTo (gi P.d) k ≤ sumTo (gi A) k) (hA : ∀ i, 0 ≤ gi A i) : ∀ k e, e ≤ k → stg P e ≤ wsum P A e
  | k, 0, _ => Int.le_refl _
  | 0, e + 1, hk => by omega
  | k + 1, e + 1, hk => by
    cases q : bst P A (e + 1) with
    | none =>
      have hn := bst_none P A _ q
      have h1 := stg_le P 0 (e + 1) (by omega)
      have h2 : segS P.d 0 (e + 1) = 0 := by
        have e1 := ht (e + 1)
        have e2 : sumTo (gi A) (e + 1) = 0 := sumTo_zero' fun i hi => by have := hn i hi; have := hA i; omega
        have e3 := sumTo_nn (f := gi P.d) (k := e + 1) fun i _ => h.d i
        rw [segS_sumTo _ _ _ (by omega), sumTo_zero]
        omega
      have h3 : lotI P 0 (e + 1) = 0 := by unfold lotI; rw [if_pos h2]
      have h4 : 0 ≤ wsum P A (e + 1) := sumTo_nn fun i hi => by
        have := setup_nn h A i
        cases hb : bst P A (i + 1) with
        | none => simp only; omega
        | some b =>
          have := kI_nn h b i (by have := (bst_lt P A _ _ hb).1; omega)
          have := Int.mul_nonneg this (h.d i)
          simp only
          omega
      rw [h3, stg_zero] at h1
      omega
    | some b =>
      have hb := (bst_lt P A _ _ q).1
      have h1 := stg_le P b (e + 1) hb
      have h2 := lotI_le h b (e + 1)
      have h3 := wsum_lot h A (e + 1) b q
      have h4 := stg_wsum h A ht hA k b (by omega)
      omega
/-- what a plan pays in a period -/
def cpt (P : Prob) (A : List Int) (t : Nat) : Int := gi P.h t * (sumTo (gi A) (t + 1) - sumTo (gi P.d) (t + 1)) + gi P.u t * gi A t + (if 0 < gi A t then gi P.s t else 0)
/-- what a plan pays is at least that -/
theorem var_ge {P : Prob} (h : P.Nn) (A : List Int) (ht : ∀ k, sumTo (gi P.d) k ≤ sumTo (gi A) k) (hA : ∀ i, 0 ≤ gi A i) : ∀ k,
    wsum P A k + (match bst P A k with | none => 0 | some b => kI P b k * (sumTo (gi A) k - sumTo (gi P.d) k)) ≤
      sumTo (cpt P A) k
  | 0 => by simp [wsum, sumTo_zero, bst]
  | k + 1 => by
    have ih := var_ge h A ht hA k
    have ec : cpt P A k = gi P.h k * (sumTo (gi A) (k + 1) - sumTo (gi P.d) (k + 1)) + gi P.u k * gi A k + (if 0 < gi A k then gi P.s k else 0) := rfl
    rw [wsum_succ, sumTo_succ (cpt P A), ec]
    have t0 := ht k
    have t1 := ht (k + 1)
    have sa := sumTo_succ (gi A) k
    have sd := sumTo_succ (gi P.d) k
    have a0 := hA k
    have d0 := h.d k
    rw [sa, sd] at t1
    simp only [sa, sd]
    generalize hI : sumTo (gi A) k - sumTo (gi P.d) k = I at *
    have hI' : sumTo (gi A) k + gi A k - (sumTo (gi P.d) k + gi P.d k) = I + gi A k - gi P.d k := by omega
    rw [hI']
    generalize hx : sumTo (cpt P A) k = X at *
    generalize hsu : (if 0 < gi A k then gi P.s k else 0 : Int) = su
    have I0 : 0 ≤ I := by omega
    have I1 : 0 ≤ I + gi A k - gi P.d k := by omega
    by_cases c : 0 < gi A k ∧ btr P k (bst P A k) = true
    · have eb : bst P A (k + 1) = some k := by
        show (if _ then some k else bst P A k) = some k
        rw [if_pos c]
      rw [eb]
      simp only
      rw [kI_succ P k k (Nat.le_refl _), kI_self]
      cases q : bst P A k with
      | none =>
        rw [q] at ih
        simp only at ih
        have z1 : sumTo (gi A) k = 0 := sumTo_zero' fun i hi => by have := bst_none P A k q i hi; have := hA i; omega
        have z2 := sumTo_nn (f := gi P.d) (k := k) fun i _ => h.d i
        have z3 : I = 0 := by omega
        subst z3
        have r1 : (gi P.u k + gi P.h k) * (0 + gi A k - gi P.d k) = gi P.h k * (0 + gi A k - gi P.d k) + gi P.u k * gi A k - gi P.u k * gi P.d k := by
          rw [Int.add_mul, Int.mul_sub (gi P.u k), Int.zero_add]
          omega
        omega
      | some b =>
        rw [q] at ih c
        simp only at ih
        have c2 := of_decide_eq_true c.2
        rw [kI_self] at c2
        have r0 := Int.mul_le_mul_of_nonneg_right c2 I0
        have r1 : (gi P.u k + gi P.h k) * (I + gi A k - gi P.d k) = gi P.h k * (I + gi A k - gi P.d k) + gi P.u k * I + gi P.u k * gi A k - gi P.u k * gi P.d k := by
          rw [Int.add_mul, Int.mul_sub (gi P.u k), Int.mul_add (gi P.u k)]
          omega
        omega
    · have eb : bst P A (k + 1) = bst P A k := by
        show (if _ then some k else bst P A k) = bst P A k
        rw [if_neg c]
      rw [eb]
      cases q : bst P A k with
      | none =>
        rw [q] at ih c
        simp only at ih
        have a1 : ¬ 0 < gi A k := fun z => c ⟨z, rfl⟩
        have z1 : sumTo (gi A) k = 0 := sumTo_zero' fun i hi => by have := bst_none P A k q i hi; have := hA i; omega
        have z2 := sumTo_nn (f := gi P.d) (k := k) fun i _ => h.d i
        have z3 : I = 0 := by omega
        have z4 : gi A k = 0 := by omega
        have z5 : gi P.d k = 0 := by omega
        rw [z3, z4, z5]
        simp only [Int.mul_zero, Int.add_zero, Int.sub_zero]
        omega
      | some b =>
        have hb := (bst_lt P A _ _ q).1
        rw [q] at ih c
        simp only at ih
        simp only
        rw [kI_succ P b k (by omega)]
        have r1 : (kI P b k + gi P.h k) * (I + gi A k - gi P.d k) = gi P.h k * (I + gi A k - gi P.d k) + kI P b k * I + kI P b k * gi A k - kI P b k * gi P.d k := by
          rw [Int.add_mul, Int.mul_sub (kI P b k), Int.mul_add (kI P b k)]
          omega
        have r2 : kI P b k * gi A k ≤ gi P.u k * gi A k := by
          by_cases a1 : 0 < gi A k
          · have : ¬ kI P k k ≤ kI P b k := fun z => c ⟨a1, decide_eq_true z⟩
            rw [kI_self] at this
            exact Int.mul_le_mul_of_nonneg_right (by omega) a0
          · have z4 : gi A k = 0 := by omega
            rw [z4]
            simp
        omega

/-! equality, membership of rows of integers -/
theorem toDs_ints : ∀ L : List Int, T.toDs (L.map T.int) = some (L.map PyData.int)
  | [] => rfl
  | x :: L => by
    show (match T.toD (T.int x), T.toDs (L.map T.int) with | some d, some ds => some (d :: ds) | _, _ => none) = _
    rw [toDs_ints L]
    rfl
theorem shaped_ints (L : List Int) : SeqAt.shaped (.tuple (L.map PyData.int)) = true := by
  unfold SeqAt.shaped
  rw [Bool.and_eq_true]
  refine ⟨?_, decide_eq_true ?_⟩
  · simp only [PyData.canLay0, PyProof.Rows.canLayAll_ints]
  · simp only [PyData.depth, PyProof.Rows.depthAll_ints]
    decide
theorem shaped_int (i : Int) : SeqAt.shaped (.int i) = true := by
  simp [SeqAt.shaped, PyData.canLay0, PyData.depth]
theorem eqvAll_ints : ∀ L M : List Int, PyData.eqvAll (L.map PyData.int) (M.map PyData.int) = decide (L = M)
  | [], [] => by simp [PyData.eqvAll]
  | [], y :: M => by simp [PyData.eqvAll]
  | x :: L, [] => by simp [PyData.eqvAll]
  | x :: L, y :: M => by
    simp only [List.map_cons, PyData.eqvAll, PyData.eqv, eqvAll_ints L M]
    by_cases h : x = y <;> by_cases h' : L = M <;> simp [h, h']
theorem cop_ti (L M : List Int) : cop .eq (ti L) (ti M) = some (decide (L = M)) := by
  show eqT (ti L) (ti M) = _
  have e1 : (ti L).toD = some (.tuple (L.map .int)) := by show (T.toDs (L.map T.int)).map _ = _; rw [toDs_ints]; rfl
  have e2 : (ti M).toD = some (.tuple (M.map .int)) := by show (T.toDs (M.map T.int)).map _ = _; rw [toDs_ints]; rfl
  unfold eqT
  rw [e1, e2]
  simp only [shaped_ints, Bool.and_self, if_true, PyData.eqv, eqvAll_ints]
theorem cop_tiN (L M : List Int) : cop .ne (ti L) (ti M) = some (!decide (L = M)) := by
  have := cop_ti L M
  show (eqT (ti L) (ti M)).map _ = _
  have e : eqT (ti L) (ti M) = some (decide (L = M)) := this
  rw [e]
  rfl
theorem in_ti (a : Int) (L : List Int) : inT (.int a) (ti L) = some (decide (a ∈ L)) := by
  have e2 : (ti L).toD = some (.tuple (L.map .int)) := by show (T.toDs (L.map T.int)).map _ = _; rw [toDs_ints]; rfl
  unfold inT
  rw [e2]
  show (if SeqAt.shaped (.int a) && SeqAt.shaped (.tuple (L.map .int)) then some ((L.map PyData.int).any fun z => PyData.eqv z (.int a)) else none) = _
  rw [shaped_int, shaped_ints]
  simp only [Bool.and_self, if_true]
  congr 1
  induction L with
  | nil => rfl
  | cons x L ih =>
    have ih' := ih (by show (T.toDs (L.map T.int)).map _ = _; rw [toDs_ints]; rfl)
    simp only [List.map_cons, List.any_cons, ih', PyData.eqv]
    by_cases h : x = a
    · simp [h]
    · have h' : ¬ a = x := fun z => h z.symm
      by_cases h2 : a ∈ L <;> simp [h, h', h2]

/-! slices -/
theorem cut_to (L : List Int) (k : Nat) (h : k ≤ L.length) : slice (ti L) none (some (k : Int)) = some (ti (L.take k)) := by
  have := cut_ti L 0 k (by omega) h
  simp only [List.drop_zero, Nat.sub_zero] at this
  show some (T.tup (cut (L.map T.int) none (some (k : Int)))) = _
  unfold ti
  rw [← this]
  rfl
theorem cut_from (L : List Int) (k : Nat) (h : k ≤ L.length) : slice (ti L) (some (k : Int)) none = some (ti (L.drop k)) := by
  have := cut_ti L k L.length h (Nat.le_refl _)
  have e : (L.drop k).take (L.length - k) = L.drop k := List.take_of_length_le (by rw [List.length_drop]; exact Nat.le_refl _)
  rw [e] at this
  show some (T.tup (cut (L.map T.int) (some (k : Int)) none)) = _
  unfold ti
  rw [← this]
  unfold cut
  rw [HT.sIx_nat, HT.sIx_nat]
  congr 3
  have : HT.sIx (L.map T.int).length (L.map T.int).length none = (L.map T.int).length := rfl
  rw [this, List.length_map, Nat.min_self]

/-! values of all kinds: more -/
def evt (v : T) : Prop := vk2 v = true ∧ v.isOwn = false ∧ v.view = v
theorem evt_of {v : T} (h : vk2 v = true) : v.isOwn = false ∧ v.view = v := by cases v <;> first | exact ⟨rfl, rfl⟩ | cases h
def Bad (v : T) : Prop := vk2 v = true ∧ probErr v = some (.non, .non)
theorem fb_ok {a b : Int} : ∀ {L : List Int}, (∀ x ∈ L, a ≤ x ∧ x ≤ b) → fb a b (L.map T.int) = none
  | [], _ => rfl
  | x :: L, h => by
    have h1 := h x (by simp)
    rw [List.map_cons, fb_tail (by simp [inI, h1.1, h1.2]), fb_ok fun y hy => h y (by simp [hy])]
    rfl
theorem fb_at {a b : Int} {t : T} {R : List T} (ht : inI a b t = false) : ∀ {L : List Int}, (∀ x ∈ L, a ≤ x ∧ x ≤ b) → fb a b (L.map T.int ++ t :: R) = some L.length
  | [], _ => by simp [fb, ht]
  | x :: L, h => by
    have h1 := h x (by simp)
    rw [List.map_cons, List.cons_append, fb_tail (by simp [inI, h1.1, h1.2]), fb_at ht fun y hy => h y (by simp [hy])]
    rfl
theorem vk_ints (L : List Int) : (L.map T.int).all vk = true := by
  rw [List.all_map]
  exact List.all_eq_true.mpr fun _ _ => rfl
theorem vk2_tis {Ls : List (List Int)} (h : ∀ L ∈ Ls, L.length ≤ 1000) : vk2 (.tup (Ls.map ti)) = true := by
  simp only [vk2, List.all_map]
  refine List.all_eq_true.mpr fun L hL => ?_
  simp only [Function.comp, ti, vk, Bool.true_and, Bool.and_eq_true, decide_eq_true_eq, List.length_map]
  exact ⟨vk_ints L, h L hL⟩
theorem prob_okE {P : Prob} {m : Nat} (h : P.Ok m) (h1 : 1 ≤ m) (hm : m ≤ 12) : vk2 P.t = true ∧ probErr P.t = none := by
  have k1 := h.d.1
  have k2 := h.s.1
  have k3 := h.u.1
  have k4 := h.h.1
  refine ⟨vk2_tis (Ls := [P.d, P.s, P.u, P.h]) (by simp; omega), ?_⟩
  have f1 : fb 0 999 (P.d.map T.int) = none := fb_ok h.d.2
  have f2 : fb 0 999 (P.s.map T.int) = none := fb_ok h.s.2
  have f3 : fb 0 999 (P.u.map T.int) = none := fb_ok h.u.2
  have f4 : fb 0 999 (P.h.map T.int) = none := fb_ok h.h.2
  simp only [Prob.t, probErr, ti]
  rw [if_pos (by simp only [List.length_map]; omega), f1, f2, f3, f4]

/-! evaluation in steps: where an answer is known of a part that stands behind another one -/
theorem ev_cons {F : Fns} {ρ : En} {S S1 S2 : Store} {e : CE} {es : List CE} {t : T} {ts : List T} (h : evalE F ρ e S = .ok (t, S1)) (h2 : evalEs F ρ es S1 = .ok (ts, S2)) : evalEs F ρ (e :: es) S = .ok (t.view :: ts, S2) := by
  rw [xs_cons, h, Res.ok_bind, h2]
  rfl
theorem ev_nil {F : Fns} {ρ : En} {S : Store} : evalEs F ρ [] S = .ok ([], S) := by rw [xs_nil]
theorem ev_call {F : Fns} {ρ : En} {S S1 : Store} {f : Nat} {es : List CE} {ts : List T} {r : Res (T × Store)} (h : evalEs F ρ es S = .ok (ts, S1)) (h2 : F f ts S1 = r) : evalE F ρ (.call f es) S = r := by
  rw [x_call, h, Res.ok_bind, h2]
theorem ev_and_t {F : Fns} {ρ : En} {S S1 : Store} {a b : CE} {r : Res (T × Store)} (h : evalE F ρ a S = .ok (.bl true, S1)) (h2 : evalE F ρ b S1 = r) : evalE F ρ (.and a b) S = r := by
  rw [x_and, h, Res.ok_bind]
  exact h2
theorem ev_and_f {F : Fns} {ρ : En} {S S1 : Store} {a b : CE} (h : evalE F ρ a S = .ok (.bl false, S1)) : evalE F ρ (.and a b) S = .ok (.bl false, S1) := by
  rw [x_and, h, Res.ok_bind]
theorem ev_or_f {F : Fns} {ρ : En} {S S1 : Store} {a b : CE} {r : Res (T × Store)} (h : evalE F ρ a S = .ok (.bl false, S1)) (h2 : evalE F ρ b S1 = r) : evalE F ρ (.or a b) S = r := by
  rw [x_or, h, Res.ok_bind]
  exact h2
theorem ev_or_t {F : Fns} {ρ : En} {S S1 : Store} {a b : CE} (h : evalE F ρ a S = .ok (.bl true, S1)) : evalE F ρ (.or a b) S = .ok (.bl true, S1) := by
  rw [x_or, h, Res.ok_bind]
theorem ev_not {F : Fns} {ρ : En} {S S1 : Store} {a : CE} {b : Bool} (h : evalE F ρ a S = .ok (.bl b, S1)) : evalE F ρ (.not a) S = .ok (.bl (!b), S1) := by
  rw [x_not, h, Res.ok_bind]
  rfl
theorem ev_cmp {F : Fns} {ρ : En} {S S1 S2 : Store} {o : CO} {a b : CE} {x y : T} {r : Bool} (h : evalE F ρ a S = .ok (x, S1)) (h2 : evalE F ρ b S1 = .ok (y, S2)) (hc : cop o x y = some r) : evalE F ρ (.cmp o a b) S = .ok (.bl r, S2) := by
  rw [x_cmp, h, Res.ok_bind, h2, Res.ok_bind]
  show (Res.of (cop o x y)).bind _ = _
  rw [hc]
  rfl
theorem st_if_t {F : Fns} {ρ : En} {S S1 : Store} {c : CE} {a b : List CS} {r : Res Fl} (h : evalE F ρ c S = .ok (.bl true, S1)) (h2 : evalSs F a ρ S1 = r) : evalS F (.ifs c a b) ρ S = r := by
  rw [xs_ifs, h, Res.ok_bind]
  exact h2
theorem st_if_f {F : Fns} {ρ : En} {S S1 : Store} {c : CE} {a b : List CS} {r : Res Fl} (h : evalE F ρ c S = .ok (.bl false, S1)) (h2 : evalSs F b ρ S1 = r) : evalS F (.ifs c a b) ρ S = r := by
  rw [xs_ifs, h, Res.ok_bind]
  exact h2
theorem st_if_n {F : Fns} {ρ : En} {S S1 : Store} {c : CE} {a : List CS} (h : evalE F ρ c S = .ok (.bl false, S1)) : evalS F (.ifs c a []) ρ S = .ok (.nx ρ S1) := st_if_f h (by rw [ss_nilv])
theorem st_ret {F : Fns} {ρ : En} {S S1 : Store} {e : CE} {t : T} (h : evalE F ρ e S = .ok (t, S1)) : evalS F (.ret e) ρ S = .ok (.rt t S1) := by
  rw [xs_ret, h]; rfl
theorem st_set {F : Fns} {ρ : En} {S S1 : Store} {i : Nat} {e : CE} {t : T} (h : evalE F ρ e S = .ok (t, S1)) (o : t.view.isOwn = false) : evalS F (.setP (.name i) e) ρ S = .ok (.nx (ρ.put i t.view) S1) := by
  rw [xs_setP, h]
  simp [bindT, o]
/-- a comprehension that keeps nothing is empty -/
theorem ev_no {F : Fns} {ρ : En} {S S' : Store} {elt : CE} {tg : Tg} {it : It} {cond : Option CE} {xs : List T} (h : evalI F ρ it S = .ok (xs, S')) (hz : xs.length ≤ 1000000) (hc : ∀ x ∈ xs, turn F ρ elt tg cond x S' = .ok (none, S')) : evalE F ρ (.cmp .ne (.comp elt tg it cond) (.lst [])) S = .ok (.bl false, S') := by
  have cE : cop .ne (.own []) (.own []) = some false := by decide
  exact ev_cmp (ev_comp h hz (compL_none hc)) (by simp) cE

/-! the evaluator as a chain of steps: each step's answer is found by the tactic «ev» among the facts at hand -/
theorem ev_slot {F : Fns} {ρ : En} {S : Store} {i : Nat} {t : T} (h : ρ.get i = some t) (o : t.isOwn = false) : evalE F ρ (.slot i) S = .ok (t, S) := by
  rw [x_slot, h]
  simp [o]
theorem ev_view {F : Fns} {ρ : En} {S : Store} {i : Nat} {t : T} (h : ρ.get i = some t) : evalE F ρ (.view i) S = .ok (t.view, S) := by
  rw [x_view, h]
theorem ev_cst {F : Fns} {ρ : En} {S : Store} {t : T} : evalE F ρ (.cst t) S = .ok (t, S) := by rw [x_cst]
theorem ev_bin {F : Fns} {ρ : En} {S S1 S2 : Store} {o : BO} {a b : CE} {x y t : T} (h : evalE F ρ a S = .ok (x, S1)) (h2 : evalE F ρ b S1 = .ok (y, S2)) (hb : bop o x y = some t) : evalE F ρ (.bin o a b) S = .ok (t, S2) := by
  rw [x_bin, h, Res.ok_bind, h2, Res.ok_bind]
  show (Res.of (bop o x y)).bind _ = _
  rw [hb]
  rfl
theorem ev_neg {F : Fns} {ρ : En} {S S1 : Store} {a : CE} {i : Int} (h : evalE F ρ a S = .ok (.int i, S1)) : evalE F ρ (.neg a) S = .ok (.int (-i), S1) := by
  rw [x_neg, h, Res.ok_bind]
theorem ev_tup {F : Fns} {ρ : En} {S S1 : Store} {es : List CE} {ts : List T} (h : evalEs F ρ es S = .ok (ts, S1)) : evalE F ρ (.tup es) S = .ok (.tup ts, S1) := by
  rw [x_tup, h, Res.ok_bind]
theorem ev_lst {F : Fns} {ρ : En} {S S1 : Store} {es : List CE} {ts : List T} (h : evalEs F ρ es S = .ok (ts, S1)) : evalE F ρ (.lst es) S = .ok (.own ts, S1) := by
  rw [x_lst, h, Res.ok_bind]
theorem ev_dnew {F : Fns} {ρ : En} {S : Store} : evalE F ρ .dnew S = .ok (.odct [] [], S) := by rw [x_dnew]
theorem ev_sub {F : Fns} {ρ : En} {S S1 S2 : Store} {a i : CE} {x y t : T} (h : evalE F ρ a S = .ok (x, S1)) (h2 : evalE F ρ i S1 = .ok (y, S2)) (hs : sub (deref S2 x) y = some t) : evalE F ρ (.sub a i) S = .ok (t, S2) := by
  rw [x_sub, h, Res.ok_bind, h2, Res.ok_bind]
  show (Res.of (sub (deref S2 x) y)).bind _ = _
  rw [hs]
  rfl
theorem eo_none {F : Fns} {ρ : En} {S : Store} : evalO F ρ none S = .ok (none, S) := by rw [xo_none]
theorem eo_some {F : Fns} {ρ : En} {S S1 : Store} {e : CE} {i : Int} (h : evalE F ρ e S = .ok (.int i, S1)) : evalO F ρ (some e) S = .ok (some i, S1) := by
  rw [xo_some, h, Res.ok_bind]
theorem ev_slice {F : Fns} {ρ : En} {S S1 S2 S3 : Store} {a : CE} {lo hi : Option CE} {x t : T} {l r : Option Int} (h : evalE F ρ a S = .ok (x, S1)) (h1 : evalO F ρ lo S1 = .ok (l, S2)) (h2 : evalO F ρ hi S2 = .ok (r, S3)) (hs : slice x l r = some t) : evalE F ρ (.slice a lo hi) S = .ok (t, S3) := by
  rw [x_slice, h, Res.ok_bind, h1, Res.ok_bind, h2, Res.ok_bind]
  show (Res.of (slice x l r)).bind _ = _
  rw [hs]
  rfl
theorem ev_ite_t {F : Fns} {ρ : En} {S S1 : Store} {c a b : CE} {r : Res (T × Store)} (h : evalE F ρ c S = .ok (.bl true, S1)) (h2 : evalE F ρ a S1 = r) : evalE F ρ (.ite c a b) S = r := by
  rw [x_ite, h, Res.ok_bind]
  exact h2
theorem ev_ite_f {F : Fns} {ρ : En} {S S1 : Store} {c a b : CE} {r : Res (T × Store)} (h : evalE F ρ c S = .ok (.bl false, S1)) (h2 : evalE F ρ b S1 = r) : evalE F ρ (.ite c a b) S = r := by
  rw [x_ite, h, Res.ok_bind]
  exact h2
theorem ev_isN {F : Fns} {ρ : En} {S S1 : Store} {k : Bool} {a : CE} {t : T} {b : Bool} (h : evalE F ρ a S = .ok (t, S1)) (hb : (if k then !isNon t else isNon t) = b) : evalE F ρ (.isN k a) S = .ok (.bl b, S1) := by
  rw [x_isN, h, Res.ok_bind, hb]
theorem ev_prim {F : Fns} {ρ : En} {S S1 : Store} {p : PR} {es : List CE} {ts : List T} {r : T} (h : evalEs F ρ es S = .ok (ts, S1)) (hp : prim p (ts.map (deref S1)) = some r) : evalE F ρ (.prim p es) S = .ok (r, S1) := by
  rw [x_prim, h, Res.ok_bind]
  show (Res.of (prim p (ts.map (deref S1)))).bind _ = _
  rw [hp]
  rfl
theorem ev_isinst {F : Fns} {ρ : En} {S S1 : Store} {a : CE} {ts : List Ty} {x : T} {y : Ty} {b : Bool} (h : evalE F ρ a S = .ok (x, S1)) (hy : tyOf x = some y) (hb : ts.any (isA y) = b) : evalE F ρ (.isinst a ts) S = .ok (.bl b, S1) := by
  rw [x_isinst, h, Res.ok_bind]
  show (Res.of (tyOf x)).bind _ = _
  rw [hy]
  show Res.ok (T.bl (ts.any (isA y)), S1) = _
  rw [hb]
theorem ss_nx {F : Fns} {c : CS} {cs : List CS} {ρ ρ' : En} {S S' : Store} {r : Res Fl} (h : evalS F c ρ S = .ok (.nx ρ' S')) (h2 : evalSs F cs ρ' S' = r) : evalSs F (c :: cs) ρ S = r := by rw [step_nx h, h2]
theorem st_par {F : Fns} {ρ ρ' : En} {S S1 : Store} {ts : List (Nat × Bool)} {es : List CE} {xs : List T} (h : evalPar F ρ es S = .ok (xs, S1)) (hs : setParts ts xs ρ = some ρ') : evalS F (.par ts es) ρ S = .ok (.nx ρ' S1) := by
  rw [xs_par, h, Res.ok_bind]
  show (Res.of (setParts ts xs ρ)).bind _ = _
  rw [hs]
  rfl
theorem ep_nil {F : Fns} {ρ : En} {S : Store} : evalPar F ρ [] S = .ok ([], S) := by simp
theorem ep_cons {F : Fns} {ρ : En} {S S1 S2 : Store} {e : CE} {es : List CE} {t : T} {ts : List T} (h : evalE F ρ e S = .ok (t, S1)) (h2 : evalPar F ρ es S1 = .ok (ts, S2)) : evalPar F ρ (e :: es) S = .ok (t :: ts, S2) := by
  simp only [evalPar, h, Res.ok_bind, h2]
theorem st_setO {F : Fns} {ρ : En} {S S1 : Store} {i : Nat} {e : CE} {xs : List T} (h : evalE F ρ e S = .ok (.own xs, S1)) : evalS F (.setO i e) ρ S = .ok (.nx (ρ.put i (.own xs)) S1) := by
  rw [xs_setO, h, Res.ok_bind]
theorem st_expr {F : Fns} {ρ : En} {S S1 : Store} {e : CE} {t : T} (h : evalE F ρ e S = .ok (t, S1)) : evalS F (.expr e) ρ S = .ok (.nx ρ S1) := by
  rw [xs_expr, h, Res.ok_bind]
theorem st_retO {F : Fns} {ρ : En} {S : Store} {i : Nat} {xs : List T} (h : ρ.get i = some (.own xs)) : evalS F (.retO i) ρ S = .ok (.rt (.own xs) S) := by rw [xs_retO, h]
theorem st_frz {F : Fns} {ρ : En} {S : Store} {i : Nat} {xs : List T} (h : ρ.get i = some (.own xs)) : evalS F (.frz i) ρ S = .ok (.nx (ρ.put i (.lst xs)) S) := by rw [xs_frz, h]
theorem st_aug {F : Fns} {ρ : En} {S S1 : Store} {i : Nat} {o : BO} {e : CE} {a b c : Int} (h : ρ.get i = some (.int a)) (h1 : evalE F ρ e S = .ok (.int b, S1)) (h2 : bopI o a b = some c) : evalS F (.augP i o e) ρ S = .ok (.nx (ρ.put i (.int c)) S1) := by
  rw [xs_augP, h]
  simp [h1, h2]
theorem st_xdrop {F : Fns} {ρ : En} {S S1 S2 : Store} {f : Nat} {es : List CE} {ts : List T} {t : T} (h : evalEs F ρ es S = .ok (ts, S1)) (h2 : F f ts S1 = .ok (t, S2)) : evalS F (.xcall .drop (.f f) es) ρ S = .ok (.nx ρ S2) := by
  rw [xs_xcall, callX_fv, h]
  simp [h2]
theorem st_xdropX {F : Fns} {ρ : En} {S S1 S2 : Store} {f k : Nat} {es : List CE} {ts as : List T} (h : evalEs F ρ es S = .ok (ts, S1)) (h2 : F f ts S1 = .exc k as S2) : evalS F (.xcall .drop (.f f) es) ρ S = .ok (.xc k as ρ S2) := by
  rw [xs_xcall, callX_fv, h]
  simp [h2]
theorem st_xset {F : Fns} {ρ : En} {S S1 S2 : Store} {f i : Nat} {es : List CE} {ts : List T} {t : T} (h : evalEs F ρ es S = .ok (ts, S1)) (h2 : F f ts S1 = .ok (t, S2)) (o : t.view.isOwn = false) : evalS F (.xcall (.set (.name i)) (.f f) es) ρ S = .ok (.nx (ρ.put i t.view) S2) := by
  rw [xs_xcall, callX_fv, h]
  simp [h2, bindT, o]
theorem st_xret {F : Fns} {ρ : En} {S S1 S2 : Store} {f : Nat} {es : List CE} {ts : List T} {t : T} (h : evalEs F ρ es S = .ok (ts, S1)) (h2 : F f ts S1 = .ok (t, S2)) : evalS F (.xcall .ret (.f f) es) ρ S = .ok (.rt t S2) := by
  rw [xs_xcall, callX_fv, h]
  simp [h2]
theorem ss_rt {F : Fns} {c : CS} {cs : List CS} {ρ : En} {S S' : Store} {t : T} (h : evalS F c ρ S = .ok (.rt t S')) : evalSs F (c :: cs) ρ S = .ok (.rt t S') := step_rt h
theorem ss_xc {F : Fns} {c : CS} {cs : List CS} {ρ ρ' : En} {S S' : Store} {k : Nat} {as : List T} (h : evalS F c ρ S = .ok (.xc k as ρ' S')) : evalSs F (c :: cs) ρ S = .ok (.xc k as ρ' S') := by
  rw [ss_consv, h]; rfl
theorem ss_no {F : Fns} {ρ : En} {S : Store} : evalSs F [] ρ S = .ok (.nx ρ S) := by rw [ss_nilv]
theorem st_raise0 {F : Fns} {ρ : En} {S : Store} {c : Nat} (h : (clsF c).length = 0) : evalS F (.raise c []) ρ S = .ok (.xc c [] ρ S) := by
  rw [xs_raise, xs_nil]
  simp [h]
theorem st_raise {F : Fns} {ρ : En} {S S1 : Store} {c : Nat} {es : List CE} {ts : List T} (h : evalEs F ρ es S = .ok (ts, S1)) (h2 : (ts.all sim && decide (ts.length = (clsF c).length)) = true) : evalS F (.raise c es) ρ S = .ok (.xc c ts ρ S1) := by
  rw [xs_raise, h]
  show (if _ then _ else _) = _
  rw [if_pos h2]
/-- the end of a def -/
theorem fn_rt {n f : Nat} {c : CFn} {ts : List T} {t : T} {S S' : Store} (hG : Gam tab f = some c) (hl : ts.length = c.params) (h : evalSs (FF n) c.body (ts.map some ++ List.replicate (c.slots - c.params) none) S = .ok (.rt t S')) (hS : S'.length = S.length) : FF (n + 1) f ts S = .ok (t, S') := by
  unfold FF at h ⊢
  rw [call_eq hG hl, h]
  show close S.length t S' = _
  exact close_same t S S' hS
theorem fn_nx {n f : Nat} {c : CFn} {ts : List T} {ρ : En} {S S' : Store} (hG : Gam tab f = some c) (hl : ts.length = c.params) (h : evalSs (FF n) c.body (ts.map some ++ List.replicate (c.slots - c.params) none) S = .ok (.nx ρ S')) (hS : S'.length = S.length) : FF (n + 1) f ts S = .ok (.non, S') := by
  unfold FF at h ⊢
  rw [call_eq hG hl, h]
  show close S.length .non S' = _
  exact close_same _ S S' hS
theorem fn_xc {n f k : Nat} {c : CFn} {ts as : List T} {ρ : En} {S S' : Store} (hG : Gam tab f = some c) (hl : ts.length = c.params) (h : evalSs (FF n) c.body (ts.map some ++ List.replicate (c.slots - c.params) none) S = .ok (.xc k as ρ S')) (hS : S'.length = S.length) : FF (n + 1) f ts S = .exc k as S' := by
  unfold FF at h ⊢
  rw [call_eq hG hl, h]
  show (match close S.length .non S' with | .ok (_, S2) => _ | _ => _) = _
  rw [close_same _ S S' hS]
theorem co_lt {i j : Int} (h : i < j) : cop .lt (.int i) (.int j) = some true := by simp [cop, ltI, h]
theorem co_ltf {i j : Int} (h : ¬ i < j) : cop .lt (.int i) (.int j) = some false := by simp [cop, ltI, h]
theorem co_le {i j : Int} (h : i ≤ j) : cop .le (.int i) (.int j) = some true := by simp [cop, ltI, h]
theorem co_lef {i j : Int} (h : ¬ i ≤ j) : cop .le (.int i) (.int j) = some false := by simp [cop, ltI, h]
theorem co_gt {i j : Int} (h : j < i) : cop .gt (.int i) (.int j) = some true := by simp [cop, ltI, h]
theorem co_gtf {i j : Int} (h : ¬ j < i) : cop .gt (.int i) (.int j) = some false := by simp [cop, ltI, h]
theorem co_ge {i j : Int} (h : j ≤ i) : cop .ge (.int i) (.int j) = some true := by simp [cop, ltI, h]
theorem co_gef {i j : Int} (h : ¬ j ≤ i) : cop .ge (.int i) (.int j) = some false := by simp [cop, ltI, h]
theorem co_eq {i j : Int} (h : i = j) : cop .eq (.int i) (.int j) = some true := by simp [cop, ltI, h]
theorem co_eqf {i j : Int} (h : i ≠ j) : cop .eq (.int i) (.int j) = some false := by simp [cop, ltI, h]
theorem co_ne {i j : Int} (h : i ≠ j) : cop .ne (.int i) (.int j) = some true := by simp [cop, ltI, h]
theorem co_nef {i j : Int} (h : i = j) : cop .ne (.int i) (.int j) = some false := by simp [cop, ltI, h]
local macro_rules | `(tactic| sizeOf_list_dec) => `(tactic| first
  | assumption
  | exact co_lt (by omega) | exact co_ltf (by omega) | exact co_le (by omega) | exact co_lef (by omega) | exact co_gt (by omega) | exact co_gtf (by omega) | exact co_ge (by omega) | exact co_gef (by omega)
  | exact co_eq (by omega) | exact co_eqf (by omega) | exact co_ne (by omega) | exact co_nef (by omega)
  | rfl)
local macro_rules | `(tactic| array_get_dec) => `(tactic| first
  | assumption
  | exact ev_cst
  | exact ev_slot rfl (by first | rfl | assumption)
  | exact ev_view rfl
  | exact ev_nil
  | exact eo_none
  | exact ev_dnew
  | exact ep_nil
  | focus (apply eo_some; array_get_dec; done)
  | focus (apply ev_cons ; array_get_dec; array_get_dec; done)
  | focus (apply ep_cons ; array_get_dec; array_get_dec; done)
  | focus (apply ev_bin; array_get_dec; array_get_dec; first | assumption | rfl; done)
  | focus (apply ev_sub; array_get_dec; array_get_dec; first | assumption | rfl; done)
  | focus (apply ev_call; array_get_dec; assumption; done)
  | focus (apply ev_cmp; array_get_dec; array_get_dec; sizeOf_list_dec; done)
  | focus (apply ev_tup; array_get_dec; done)
  | focus (apply ev_lst; array_get_dec; done)
  | focus (apply ev_neg; array_get_dec; done)
  | focus (apply ev_not; array_get_dec; done)
  | focus (apply ev_isN; array_get_dec; first | assumption | rfl; done)
  | focus (apply ev_slice; array_get_dec; array_get_dec; array_get_dec; first | assumption | rfl; done)
  | focus (apply ev_prim; array_get_dec; first | assumption | rfl; done)
  | focus (apply ev_isinst; array_get_dec; first | rfl | assumption; first | rfl | assumption; done)
  | focus (apply ev_and_f; array_get_dec; done)
  | focus (apply ev_and_t; array_get_dec; array_get_dec; done)
  | focus (apply ev_or_t; array_get_dec; done)
  | focus (apply ev_or_f; array_get_dec; array_get_dec; done)
  | focus (apply ev_ite_t; array_get_dec; array_get_dec; done)
  | focus (apply ev_ite_f; array_get_dec; array_get_dec; done))
local macro_rules | `(tactic| array_mem_dec) => `(tactic| first
  | exact ss_no
  | focus (apply ss_nx; array_mem_dec; array_mem_dec; done)
  | focus (apply ss_rt; array_mem_dec; done)
  | focus (apply ss_xc; array_mem_dec; done)
  | assumption
  | focus (apply st_set; array_get_dec; first | rfl | assumption; done)
  | focus (apply st_par; array_get_dec; rfl; done)
  | focus (apply st_setO; array_get_dec; done)
  | focus (apply st_expr; array_get_dec; done)
  | focus (apply st_ret; array_get_dec; done)
  | exact st_retO rfl
  | exact st_frz rfl
  | focus (apply st_aug rfl; array_get_dec; first | assumption | rfl; done)
  | focus (apply st_xdrop; array_get_dec; assumption; done)
  | focus (apply st_xdropX; array_get_dec; assumption; done)
  | focus (apply st_xset; array_get_dec; assumption; first | rfl | assumption; done)
  | focus (apply st_xret; array_get_dec; assumption; done)
  | focus (apply st_raise0; rfl; done)
  | focus (apply st_raise; array_get_dec; rfl; done)
  | focus (apply st_if_n; array_get_dec; done)
  | focus (apply st_if_t; array_get_dec; array_mem_dec; done)
  | focus (apply st_if_f; array_get_dec; array_mem_dec; done))

/-! sets of places alone (out of fillp, sets, setsw) -/
def nI (l : List Nat) : List Int := l.map Int.ofNat
theorem nI_len (l : List Nat) : (nI l).length = l.length := by simp [nI]
theorem nI_snoc (l : List Nat) (a : Nat) : (nI l).map T.int ++ [T.int (a : Int)] = (nI (l ++ [a])).map T.int := by simp [nI]
def setsL : Nat → List (List Nat)
  | 0 => [[]]
  | k + 1 => setsL k ++ (setsL k).map fun s => s ++ [k]
theorem setsL_len : ∀ k, (setsL k).length = 2 ^ k
  | 0 => rfl
  | k + 1 => by
    rw [setsL, List.length_append, List.length_map, setsL_len k, Nat.pow_succ]
    omega
theorem setsL_mem : ∀ k s, s ∈ setsL k → s.Pairwise (· < ·) ∧ ∀ x ∈ s, x < k
  | 0, s, h => by
    simp only [setsL, List.mem_singleton] at h
    subst h
    exact ⟨List.Pairwise.nil, by simp⟩
  | k + 1, s, h => by
    simp only [setsL, List.mem_append, List.mem_map] at h
    rcases h with h | ⟨s', h, rfl⟩
    · obtain ⟨h1, h2⟩ := setsL_mem k s h
      exact ⟨h1, fun x hx => Nat.lt_succ_of_lt (h2 x hx)⟩
    · obtain ⟨h1, h2⟩ := setsL_mem k s' h
      refine ⟨List.pairwise_append.mpr ⟨h1, List.pairwise_singleton _ _, fun x hx y hy => ?_⟩, fun x hx => ?_⟩
      · rw [List.mem_singleton.mp hy]; exact h2 x hx
      · rcases List.mem_append.mp hx with hx | hx
        · exact Nat.lt_succ_of_lt (h2 x hx)
        · rw [List.mem_singleton.mp hx]; exact Nat.lt_succ_self k
theorem setsL_all : ∀ k s, s.Pairwise (· < ·) → (∀ x ∈ s, x < k) → s ∈ setsL k
  | 0, s, _, h => by
    cases s with
    | nil => simp [setsL]
    | cons x s => have := h x (by simp); omega
  | k + 1, s, hp, h => by
    simp only [setsL, List.mem_append, List.mem_map]
    rcases List.eq_nil_or_concat s with rfl | ⟨s', b, rfl⟩
    · left
      exact setsL_all k [] List.Pairwise.nil (by simp)
    · rw [List.concat_eq_append] at hp h ⊢
      obtain ⟨h1, _, h3⟩ := List.pairwise_append.mp hp
      have hb := h b (by simp)
      have hs : ∀ x ∈ s', x < b := fun x hx => h3 x hx b (by simp)
      by_cases c : b = k
      · subst c
        exact .inr ⟨s', setsL_all b s' h1 hs, rfl⟩
      · left
        refine setsL_all k _ hp fun x hx => ?_
        rcases List.mem_append.mp hx with hx | hx
        · have := hs x hx; omega
        · rw [List.mem_singleton.mp hx]; omega
def tN (s : List Nat) : T := ti (nI s)
theorem law_sets_ok (n m : Nat) (hm : m ≤ 12) (S : Store) : FF (n + 1) i__law_sets [.int m] S = .ok (.lst ((setsL m).map tN), S) := by
  obtain ⟨ρ2, S2, e, rfl, x2, rfl⟩ := forL_all (tg := .name 2) (b := evalSs (FF n) [.setP (.name 1) (.bin .add (.slot 1) (.comp (.bin .add (.slot 3) (.tup [.slot 2])) (.name 3) (.seq (.slot 1)) none))]) (xs := rangeT 0 m)
    (fun k ρ S' => S' = S ∧ ∃ x2, ρ = [some (.int m), some (.lst ((setsL k).map tN)), x2, none]) (ρ := [some (.int m), some (.lst [.tup []]), none, none]) (S := S) ⟨rfl, none, rfl⟩ (by
      rintro k ρ S' hk ⟨rfl, x2, rfl⟩
      rw [rangeT_len] at hk
      have hl := setsL_len k
      have hp : 2 ^ k ≤ 2 ^ 12 := Nat.pow_le_pow_right (by omega) (by omega)
      have i1 := it_seq (F := FF n) (ρ := [some (.int m), some (.lst ((setsL k).map tN)), some (.int k), none]) (S := S') (S' := S') (a := .slot 1) (t := .lst ((setsL k).map tN)) (xs := (setsL k).map tN) (by simp) rfl
      have ec := compL_map (step := turn (FF n) [some (.int m), some (.lst ((setsL k).map tN)), some (.int k), none] (.bin .add (.slot 3) (.tup [.slot 2])) (.name 3) none) (S := S') (fun t => match t with | .tup xs => .tup (xs ++ [.int k]) | _ => .non) (xs := (setsL k).map tN) (fun x hx => by
        obtain ⟨s, hs, rfl⟩ := List.mem_map.mp hx
        have hsl : s.length ≤ 1000 := by
          obtain ⟨h1, h2⟩ := setsL_mem k s hs
          have key : ∀ (l : List Nat) (b : Nat), l.Pairwise (· < ·) → (∀ x ∈ l, b ≤ x ∧ x < k) → l.length ≤ k - b := by
            intro l
            induction l with
            | nil => intro b _ _; simp
            | cons y l ih =>
              intro b hp hb
              have hx := hb y (by simp)
              have := ih (y + 1) (List.Pairwise.of_cons hp) fun t ht => ⟨List.rel_of_pairwise_cons hp ht, (hb t (by simp [ht])).2⟩
              simp only [List.length_cons]
              omega
          have := key s 0 h1 fun x hx => ⟨by omega, h2 x hx⟩
          omega
        have hb := bo_tadd ((nI s).map T.int) [.int (k : Int)] (by simp [nI_len]; omega)
        simp only [tN, ti]
        simp [turn, bindT, hb])
      have ef : ((setsL k).map tN).map (fun x => (match x with | .tup xs => .tup (xs ++ [.int k]) | _ => .non : T).view) = ((setsL k).map fun s => s ++ [k]).map tN := by
        rw [List.map_map, List.map_map]
        refine List.map_congr_left fun s _ => ?_
        show T.tup ((nI s).map T.int ++ [.int k]) = ti (nI (s ++ [k]))
        rw [nI_snoc]
      simp only [ef] at ec
      have i2 := ev_comp i1 (by rw [List.length_map]; omega) ec
      refine ⟨[some (.int m), some (.lst ((setsL k).map tN)), some (.int k), none], [some (.int m), some (.lst ((setsL (k + 1)).map tN)), some (.int k), none], S', by rw [rangeT_at]; simp [bindT], ?_, rfl, _, rfl⟩
      have ep : (setsL (k + 1)).map tN = (setsL k).map tN ++ ((setsL k).map fun s => s ++ [k]).map tN := by rw [setsL, List.map_append]
      rw [ep]
      have hz : szOk (((setsL k).map tN).length + (((setsL k).map fun s => s ++ [k]).map tN).length) = true := by
        simp only [List.length_map]
        simp [szOk]
        omega
      refine (step_nx (ρ' := [some (.int m), some (.lst ((setsL k).map tN ++ ((setsL k).map fun s => s ++ [k]).map tN)), some (.int k), none]) (S' := S') ?_).trans rfl
      rw [xs_setP, x_bin, x_slot]
      simp only [get_succ, get_zero, own_lst, Bool.false_eq_true, if_false, Res.ok_bind]
      rw [i2]
      simp only [Res.ok_bind, bop, hz, if_true, Res.of_some, Res.bind_okv, vw_own, bindT, own_lst, Bool.false_eq_true, if_false, put_succ, put_zero])
  rw [rangeT_len] at e
  have hr : (m : Int) ≤ 1000000 ∧ -1000000 ≤ (m : Int) := by omega
  have i1 := it_rng1 (F := FF n) (ρ := [some (.int m), some (.lst [.tup []]), none, none]) (S := S2) (S' := S2) (a := .slot 0) (j := (m : Int)) (by simp) hr
  rw [Int.toNat_natCast] at i1
  unfold FF at e i1 ⊢
  rw [call_eq g__law_sets rfl]
  show (pureR (evalSs _ c__law_sets [some (.int m), none, none, none] S2) >>= _) = _
  unfold c__law_sets
  rw [step_nx (ρ' := [some (.int m), some (.lst [.tup []]), none, none]) (S' := S2) (by simp [bindT]), step_nx (st_for i1 e), step_rt (S' := S2) (t := .lst ((setsL m).map tN)) (by simp)]
  simp [close]
theorem alike_ints : ∀ L M : List Int, W.alikeAll (L.map PyData.int) (M.map PyData.int) = true
  | [], _ => by simp [W.alikeAll]
  | _ :: _, [] => by simp [W.alikeAll]
  | a :: L, b :: M => by
    rw [List.map_cons, List.map_cons]
    simp only [W.alikeAll, W.alike, alike_ints L M, Bool.and_self]

/-! one statement at a time: the goal goes on behind it -/
def _root_.Ip.En.putO : En → Nat → Option T → En
  | [], _, _ => []
  | _ :: r, 0, t => t :: r
  | x :: r, n + 1, t => x :: Ip.En.putO r n t
theorem putO_put : ∀ (ρ : En) (i : Nat) (o : Option T) (t : T), (ρ.putO i o).put i t = ρ.put i t
  | [], _, _, _ => rfl
  | _ :: _, 0, _, _ => rfl
  | x :: r, i + 1, o, t => by
    show x :: (En.putO r i o).put i t = _
    rw [putO_put r i o t]
    rfl
theorem put_putO : ∀ (ρ : En) (i : Nat) (t : T), ρ.put i t = ρ.putO i (some t)
  | [], _, _ => rfl
  | _ :: _, 0, _ => rfl
  | x :: r, i + 1, t => by
    show x :: En.put r i t = x :: En.putO r i (some t)
    rw [put_putO r i t]
theorem putO_get : ∀ (ρ : En) (i : Nat), ∃ o : Option T, ρ = ρ.putO i o
  | [], _ => ⟨none, rfl⟩
  | x :: _, 0 => ⟨x, rfl⟩
  | x :: r, i + 1 => by
    obtain ⟨o, h⟩ := putO_get r i
    exact ⟨o, by show x :: r = x :: En.putO r i o; rw [← h]⟩
theorem vw_of {t : T} (h : t.isOwn = false) : t.view = t := by cases t <;> first | rfl | (cases h; done)
theorem sg_set {F : Fns} {ρ : En} {S S1 : Store} {i : Nat} {e : CE} {t : T} {cs : List CS} {r : Res Fl} (h : evalE F ρ e S = .ok (t, S1)) (o : t.isOwn = false) (k : evalSs F cs (ρ.put i t) S1 = r) : evalSs F (.setP (.name i) e :: cs) ρ S = r := by
  have v := vw_of o
  refine ss_nx (st_set h (by rw [v]; exact o)) ?_
  rw [v]
  exact k
theorem sg_setL {F : Fns} {ρ : En} {S S1 : Store} {i : Nat} {e : CE} {xs : List T} {cs : List CS} {r : Res Fl} (h : evalE F ρ e S = .ok (.own xs, S1)) (k : evalSs F cs (ρ.put i (.lst xs)) S1 = r) : evalSs F (.setP (.name i) e :: cs) ρ S = r :=
  ss_nx (st_set h rfl) k
theorem sg_setD {F : Fns} {ρ : En} {S S1 : Store} {i : Nat} {e : CE} {ks : List (List L2.Key)} {xs : List T} {cs : List CS} {r : Res Fl} (h : evalE F ρ e S = .ok (.odct ks xs, S1)) (k : evalSs F cs (ρ.put i (.dct ks xs)) S1 = r) : evalSs F (.setP (.name i) e :: cs) ρ S = r :=
  ss_nx (st_set h rfl) k
theorem sg_setT {F : Fns} {ρ ρ' : En} {S S1 : Store} {tg : Tg} {e : CE} {t : T} {cs : List CS} {r : Res Fl} (h : evalE F ρ e S = .ok (t, S1)) (hb : bindT tg t.view ρ = some ρ') (k : evalSs F cs ρ' S1 = r) : evalSs F (.setP tg e :: cs) ρ S = r := by
  refine ss_nx (ρ' := ρ') (S' := S1) ?_ k
  rw [xs_setP, h, Res.ok_bind]
  show (Res.of (bindT tg t.view ρ)).bind _ = _
  rw [hb]
  rfl
theorem sg_setO {F : Fns} {ρ : En} {S S1 : Store} {i : Nat} {e : CE} {xs : List T} {cs : List CS} {r : Res Fl} (h : evalE F ρ e S = .ok (.own xs, S1)) (k : evalSs F cs (ρ.put i (.own xs)) S1 = r) : evalSs F (.setO i e :: cs) ρ S = r := ss_nx (st_setO h) k
theorem sg_par {F : Fns} {ρ ρ' : En} {S S1 : Store} {ts : List (Nat × Bool)} {es : List CE} {xs : List T} {cs : List CS} {r : Res Fl} (h : evalPar F ρ es S = .ok (xs, S1)) (hs : setParts ts xs ρ = some ρ') (k : evalSs F cs ρ' S1 = r) : evalSs F (.par ts es :: cs) ρ S = r := ss_nx (st_par h hs) k
theorem sg_setR {F : Fns} {ρ : En} {S S1 : Store} {i : Nat} {e : CE} {xs : List T} {cs : List CS} {r : Res Fl} (h : evalE F ρ e S = .ok (.own xs, S1)) (hn : nls xs = true) (k : evalSs F cs (ρ.put i (.ref S1.length)) (S1 ++ [.own xs]) = r) : evalSs F (.setR i e :: cs) ρ S = r := by
  refine ss_nx (ρ' := ρ.put i (.ref S1.length)) (S' := S1 ++ [.own xs]) ?_ k
  simp only [evalS, h, Res.ok_bind, hn, if_true]
theorem sg_aug {F : Fns} {ρ : En} {S S1 : Store} {i : Nat} {o : BO} {e : CE} {a b c : Int} {cs : List CS} {r : Res Fl} (h : ρ.get i = some (.int a)) (h1 : evalE F ρ e S = .ok (.int b, S1)) (h2 : bopI o a b = some c) (k : evalSs F cs (ρ.put i (.int c)) S1 = r) : evalSs F (.augP i o e :: cs) ρ S = r := ss_nx (st_aug h h1 h2) k
theorem sg_app {F : Fns} {ρ : En} {S S1 : Store} {i : Nat} {e : CE} {t : T} {xs : List T} {cs : List CS} {r : Res Fl} (h : evalE F ρ e S = .ok (t, S1)) (o : t.isOwn = false) (ho : ρ.get i = some (.own xs)) (hz : xs.length ≤ 1000000) (k : evalSs F cs (ρ.put i (.own (xs ++ [t]))) S1 = r) : evalSs F (.app i e :: cs) ρ S = r := by
  refine ss_nx (st_app h ho hz (by unfold wrOk; rw [ho])) ?_
  rw [vw_of o]
  exact k
theorem sg_expr {F : Fns} {ρ : En} {S S1 : Store} {e : CE} {t : T} {cs : List CS} {r : Res Fl} (h : evalE F ρ e S = .ok (t, S1)) (k : evalSs F cs ρ S1 = r) : evalSs F (.expr e :: cs) ρ S = r := ss_nx (st_expr h) k
theorem sg_frz {F : Fns} {ρ : En} {S : Store} {i : Nat} {xs : List T} {cs : List CS} {r : Res Fl} (h : ρ.get i = some (.own xs)) (k : evalSs F cs (ρ.put i (.lst xs)) S = r) : evalSs F (.frz i :: cs) ρ S = r := ss_nx (st_frz h) k
theorem sg_xdrop {F : Fns} {ρ : En} {S S1 S2 : Store} {f : Nat} {es : List CE} {ts : List T} {t : T} {cs : List CS} {r : Res Fl} (h : evalEs F ρ es S = .ok (ts, S1)) (h2 : F f ts S1 = .ok (t, S2)) (k : evalSs F cs ρ S2 = r) : evalSs F (.xcall .drop (.f f) es :: cs) ρ S = r := ss_nx (st_xdrop h h2) k
theorem sg_xset {F : Fns} {ρ : En} {S S1 S2 : Store} {f i : Nat} {es : List CE} {ts : List T} {t : T} {cs : List CS} {r : Res Fl} (h : evalEs F ρ es S = .ok (ts, S1)) (h2 : F f ts S1 = .ok (t, S2)) (o : t.isOwn = false) (k : evalSs F cs (ρ.put i t) S2 = r) : evalSs F (.xcall (.set (.name i)) (.f f) es :: cs) ρ S = r := by
  have v := vw_of o
  refine ss_nx (st_xset h h2 (by rw [v]; exact o)) ?_
  rw [v]
  exact k
theorem sg_xsetL {F : Fns} {ρ : En} {S S1 S2 : Store} {f i : Nat} {es : List CE} {ts xs : List T} {cs : List CS} {r : Res Fl} (h : evalEs F ρ es S = .ok (ts, S1)) (h2 : F f ts S1 = .ok (.own xs, S2)) (k : evalSs F cs (ρ.put i (.lst xs)) S2 = r) : evalSs F (.xcall (.set (.name i)) (.f f) es :: cs) ρ S = r :=
  ss_nx (st_xset h h2 rfl) k
theorem sg_if_n {F : Fns} {ρ : En} {S S1 : Store} {c : CE} {a cs : List CS} {r : Res Fl} (h : evalE F ρ c S = .ok (.bl false, S1)) (k : evalSs F cs ρ S1 = r) : evalSs F (.ifs c a [] :: cs) ρ S = r := ss_nx (st_if_n h) k
theorem ss_app {F : Fns} {cs : List CS} : ∀ {a : List CS} {ρ : En} {S : Store} {r : Res Fl}, evalSs F (a ++ cs) ρ S = r → (evalSs F a ρ S >>= fun f => match f with | .nx ρ S => evalSs F cs ρ S | f => .ok f) = r
  | [], ρ, S, r, h => by
    rw [ss_nilv]
    exact h
  | c :: a, ρ, S, r, h => by
    rw [List.cons_append, ss_consv] at h
    rw [ss_consv]
    cases e : evalS F c ρ S with
    | ok f =>
      rw [e] at h
      cases f with
      | nx ρ' S' => exact ss_app h
      | _ => exact h
    | exc => rw [e] at h; exact h
    | bad => rw [e] at h; exact h
/-- an if: one of its blocks, then the rest -/
theorem sg_if_t {F : Fns} {ρ : En} {S S1 : Store} {c : CE} {a b cs : List CS} {r : Res Fl} (h : evalE F ρ c S = .ok (.bl true, S1)) (k : evalSs F (a ++ cs) ρ S1 = r) : evalSs F (.ifs c a b :: cs) ρ S = r := by
  rw [ss_consv, st_if_t h rfl]
  exact ss_app k
theorem sg_if_f {F : Fns} {ρ : En} {S S1 : Store} {c : CE} {a b cs : List CS} {r : Res Fl} (h : evalE F ρ c S = .ok (.bl false, S1)) (k : evalSs F (b ++ cs) ρ S1 = r) : evalSs F (.ifs c a b :: cs) ρ S = r := by
  rw [ss_consv, st_if_f h rfl]
  exact ss_app k
theorem sg_for {F : Fns} {ρ ρ' : En} {S S1 S2 : Store} {tg : Tg} {it : It} {b : List CS} {xs : List T} {cs : List CS} {r : Res Fl} (h : evalI F ρ it S = .ok (xs, S1)) (hl : forL tg (evalSs F b) xs ρ S1 = .ok (.nx ρ' S2)) (k : evalSs F cs ρ' S2 = r) : evalSs F (.for tg it b :: cs) ρ S = r := ss_nx (st_for h hl) k
/-- a loop whose body changes nothing -/
theorem sg_forid {F : Fns} {ρ : En} {S S1 : Store} {i : Nat} {it : It} {b : List CS} {xs : List T} {cs : List CS} {r : Res Fl} (h : evalI F ρ it S = .ok (xs, S1))
    (hb : ∀ x ∈ xs, x.isOwn = false ∧ evalSs F b (ρ.put i x) S1 = .ok (.nx (ρ.put i x) S1)) (k : ∀ o, evalSs F cs (ρ.putO i o) S1 = r) : evalSs F (.for (.name i) it b :: cs) ρ S = r := by
  obtain ⟨o0, h0⟩ := putO_get ρ i
  obtain ⟨ρ2, S2, e, hS, o, rfl⟩ := forL_all (tg := .name i) (b := evalSs F b) (xs := xs) (fun _ ρ' S' => S' = S1 ∧ ∃ o, ρ' = ρ.putO i o) (ρ := ρ) (S := S1) ⟨rfl, o0, h0⟩ (by
    rintro k' ρ' S' hk ⟨rfl, o, rfl⟩
    obtain ⟨o1, o2⟩ := hb _ (List.getElem_mem hk)
    refine ⟨ρ.put i xs[k'], _, S', ?_, o2, rfl, some xs[k'], put_putO _ _ _⟩
    simp [bindT, o1, putO_put])
  rw [hS] at e
  exact sg_for h e (k o)
theorem sg_ret {F : Fns} {ρ : En} {S S1 : Store} {e : CE} {t : T} {cs : List CS} (h : evalE F ρ e S = .ok (t, S1)) : evalSs F (.ret e :: cs) ρ S = .ok (.rt t S1) := ss_rt (st_ret h)
theorem ev_andD {F : Fns} {ρ : En} {S S1 : Store} {a b : CE} {p : Bool} {r : Res (T × Store)} (h : evalE F ρ a S = .ok (.bl p, S1)) (h2 : (p = false ∧ r = .ok (.bl false, S1)) ∨ (p = true ∧ evalE F ρ b S1 = r)) : evalE F ρ (.and a b) S = r := by
  rcases h2 with ⟨rfl, rfl⟩ | ⟨rfl, h2⟩
  · exact ev_and_f h
  · exact ev_and_t h h2
theorem ev_orD {F : Fns} {ρ : En} {S S1 : Store} {a b : CE} {p : Bool} {r : Res (T × Store)} (h : evalE F ρ a S = .ok (.bl p, S1)) (h2 : (p = true ∧ r = .ok (.bl true, S1)) ∨ (p = false ∧ evalE F ρ b S1 = r)) : evalE F ρ (.or a b) S = r := by
  rcases h2 with ⟨rfl, rfl⟩ | ⟨rfl, h2⟩
  · exact ev_or_t h
  · exact ev_or_f h h2
theorem ev_iteD {F : Fns} {ρ : En} {S S1 : Store} {c a b : CE} {p : Bool} {r : Res (T × Store)} (h : evalE F ρ c S = .ok (.bl p, S1)) (h2 : (p = true ∧ evalE F ρ a S1 = r) ∨ (p = false ∧ evalE F ρ b S1 = r)) : evalE F ρ (.ite c a b) S = r := by
  rcases h2 with ⟨rfl, h2⟩ | ⟨rfl, h2⟩
  · exact ev_ite_t h h2
  · exact ev_ite_f h h2
theorem sg_ifD {F : Fns} {ρ : En} {S S1 : Store} {c : CE} {a b cs : List CS} {p : Bool} {r : Res Fl} (h : evalE F ρ c S = .ok (.bl p, S1)) (h2 : (p = true ∧ evalSs F (a ++ cs) ρ S1 = r) ∨ (p = false ∧ evalSs F (b ++ cs) ρ S1 = r)) : evalSs F (.ifs c a b :: cs) ρ S = r := by
  rcases h2 with ⟨rfl, h2⟩ | ⟨rfl, h2⟩
  · exact sg_if_t h h2
  · exact sg_if_f h h2
/-! comprehensions -/
theorem bind_nm {j : Nat} {t : T} {ρ : En} (h : t.isOwn = false) : bindT (.name j) t ρ = some (ρ.put j t) := by
  simp [bindT, h]
theorem turn_some {F : Fns} {ρ : En} {elt c : CE} {j : Nat} {x : T} {S S1 : Store} {b : Bool} (ho : x.isOwn = false) (hc : evalE F (ρ.put j x) c S = .ok (.bl b, S1)) : turn F ρ elt (.name j) (some c) x S = if b then (evalE F (ρ.put j x) elt S1 >>= fun r => .ok (some r.1, r.2)) else .ok (none, S1) := by
  unfold turn
  rw [bind_nm ho]
  simp only [Res.of_some, Res.bind_okv, xc_some, hc, Res.ok_bind]
  cases b <;> rfl
theorem turn_none {F : Fns} {ρ : En} {elt : CE} {j : Nat} {x t : T} {S S1 : Store} (ho : x.isOwn = false) (h : evalE F (ρ.put j x) elt S = .ok (t, S1)) : turn F ρ elt (.name j) none x S = .ok (some t, S1) := by
  unfold turn
  rw [bind_nm ho]
  simp only [Res.of_some, Res.bind_okv, xc_none, Res.ok_bind, h, if_true]
/-- a comprehension that keeps nothing is empty -/
theorem ev_nothing {F : Fns} {ρ : En} {S S' : Store} {elt c : CE} {j : Nat} {it : It} {xs : List T} (h : evalI F ρ it S = .ok (xs, S')) (hz : xs.length ≤ 1000000) (hc : ∀ x ∈ xs, x.isOwn = false ∧ evalE F (ρ.put j x) c S' = .ok (.bl false, S')) : evalE F ρ (.cmp .ne (.comp elt (.name j) it (some c)) (.lst [])) S = .ok (.bl false, S') :=
  ev_no h hz fun x hx => by
    obtain ⟨o, e⟩ := hc x hx
    rw [turn_some o e]
    rfl
theorem ev_map {F : Fns} {ρ : En} {S S' : Store} {elt : CE} {j : Nat} {it : It} {xs : List T} (g : T → T) (h : evalI F ρ it S = .ok (xs, S')) (hz : xs.length ≤ 1000000) (hc : ∀ x ∈ xs, x.isOwn = false ∧ evalE F (ρ.put j x) elt S' = .ok (g x, S')) : evalE F ρ (.comp elt (.name j) it none) S = .ok (.own (xs.map fun x => (g x).view), S') :=
  ev_comp h hz (compL_map g fun x hx => by
    obtain ⟨o, e⟩ := hc x hx
    exact turn_none o e)
/-- over ints -/
theorem ev_mapI {F : Fns} {ρ : En} {S S' : Store} {elt : CE} {j : Nat} {it : It} {L : List Int} (g : Int → T) (h : evalI F ρ it S = .ok (L.map T.int, S')) (hz : L.length ≤ 1000000) (hc : ∀ i ∈ L, (g i).isOwn = false ∧ evalE F (ρ.put j (.int i)) elt S' = .ok (g i, S')) : evalE F ρ (.comp elt (.name j) it none) S = .ok (.own (L.map g), S') := by
  have := ev_map (elt := elt) (j := j) (fun t => match t with | .int i => g i | _ => .non) h (by rw [List.length_map]; exact hz) fun x hx => by
    obtain ⟨i, hi, rfl⟩ := List.mem_map.mp hx
    exact ⟨rfl, (hc i hi).2⟩
  rw [this]
  congr 3
  rw [List.map_map]
  refine List.map_congr_left fun i hi => ?_
  exact vw_of (hc i hi).1
theorem rangeT_nat (m : Nat) : rangeT 0 m = (List.range m).map fun i => T.int ((i : Nat) : Int) := by
  refine List.ext_getElem (by simp [rangeT_len]) fun i h1 h2 => ?_
  rw [rangeT_at]
  simp
theorem ev_mapN {F : Fns} {ρ : En} {S S' : Store} {elt a : CE} {j m : Nat} (g : Nat → T) (h : evalE F ρ a S = .ok (.int m, S')) (hz : m ≤ 1000000) (hc : ∀ i, i < m → (g i).isOwn = false ∧ evalE F (ρ.put j (.int i)) elt S' = .ok (g i, S')) : evalE F ρ (.comp elt (.name j) (.rng1 a) none) S = .ok (.own ((List.range m).map g), S') := by
  have hi := it_rng1 h (by omega)
  have ej : ((m : Nat) : Int).toNat = m := by omega
  rw [ej, rangeT_nat] at hi
  have := ev_map (elt := elt) (j := j) (fun t => match t with | .int i => g i.toNat | _ => .non) hi (by simp; exact hz) fun x hx => by
    obtain ⟨i, hi, rfl⟩ := List.mem_map.mp hx
    have := (hc i (List.mem_range.mp hi)).2
    refine ⟨rfl, ?_⟩
    simpa using this
  rw [this]
  congr 3
  rw [List.map_map]
  refine List.map_congr_left fun i hi => ?_
  have := (hc i (List.mem_range.mp hi)).1
  simpa using vw_of this
theorem ev_filN {F : Fns} {ρ : En} {S S' : Store} {c a : CE} {j m : Nat} (q : Nat → Bool) (h : evalE F ρ a S = .ok (.int m, S')) (hz : m ≤ 1000000) (hc : ∀ i, i < m → evalE F (ρ.put j (.int i)) c S' = .ok (.bl (q i), S')) (hg : ∀ t, (ρ.put j t).get j = some t) : evalE F ρ (.comp (.slot j) (.name j) (.rng1 a) (some c)) S = .ok (.own (((List.range m).filter q).map fun i => T.int ((i : Nat) : Int)), S') := by
  have hi := it_rng1 h (by omega)
  have ej : ((m : Nat) : Int).toNat = m := by omega
  rw [ej, rangeT_nat] at hi
  have ec := compL_filter (step := turn F ρ (.slot j) (.name j) (some c)) (S := S') (xs := (List.range m).map fun i => T.int ((i : Nat) : Int)) (fun t => match t with | .int i => if q i.toNat then some (.int i) else none | _ => none) fun x hx => by
    obtain ⟨i, hi, rfl⟩ := List.mem_map.mp hx
    rw [turn_some rfl (hc i (List.mem_range.mp hi))]
    have e : evalE F (ρ.put j (.int (i : Int))) (.slot j) S' = .ok (.int (i : Int), S') := ev_slot (hg _) rfl
    rw [e]
    simp only [Int.toNat_natCast, Res.ok_bind]
    by_cases z : q i = true
    · rw [if_pos z, if_pos z]
    · rw [if_neg z, if_neg z]
  rw [ev_comp hi (by simp; exact hz) ec]
  congr 3
  rw [List.filterMap_map]
  have : ∀ L : List Nat, L.filterMap ((fun x => (match x with | .int i => if q i.toNat then some (T.int i) else none | _ => none : Option T).map T.view) ∘ fun i : Nat => T.int (i : Int)) = (L.filter q).map fun i => T.int ((i : Nat) : Int) := by
    intro L
    induction L with
    | nil => rfl
    | cons a L ih =>
      rw [List.filterMap_cons, List.filter_cons, ih]
      simp only [Function.comp, Int.toNat_natCast]
      by_cases z : q a = true
      · rw [if_pos z, if_pos z]; rfl
      · rw [if_neg z, if_neg z]; rfl
  exact this _
theorem sg_setI {F : Fns} {ρ : En} {S S1 S2 : Store} {i j : Nat} {ix e : CE} {t : T} {xs : List T} {cs : List CS} {r : Res Fl} (h : evalE F ρ e S = .ok (t, S1)) (h2 : evalE F ρ ix S1 = .ok (.int j, S2)) (o : t.isOwn = false) (hg : ρ.get i = some (.own xs)) (hj : j < xs.length) (k : evalSs F cs (ρ.put i (.own (xs.set j t))) S2 = r) : evalSs F (.setI i ix e :: cs) ρ S = r := by
  refine ss_nx (ρ' := ρ.put i (.own (xs.set j t))) (S' := S2) ?_ k
  have e1 : ownOf ρ S2 i = some xs := by unfold ownOf; rw [hg]
  have e2 : L2.ixN xs.length (j : Int) = some j := by
    unfold L2.ixN
    rw [if_pos (by omega), if_pos (by omega)]
    simp
  have e3 : wrOk ρ i t = true := by unfold wrOk; rw [hg]
  have e4 : putOwn ρ S2 i (xs.set j t) = (ρ.put i (.own (xs.set j t)), S2) := by unfold putOwn; rw [hg]
  rw [xs_setI, h, Res.ok_bind, h2, Res.ok_bind]
  simp only [e1, e2, e3, if_true, vw_of o, e4]
theorem ev_nothingN {F : Fns} {ρ : En} {S S' : Store} {elt c a : CE} {j : Nat} {z : Int} (h : evalE F ρ a S = .ok (.int z, S')) (hz : z ≤ 1000000 ∧ -1000000 ≤ z) (hc : ∀ i : Nat, (i : Int) < z → evalE F (ρ.put j (.int i)) c S' = .ok (.bl false, S')) : evalE F ρ (.cmp .ne (.comp elt (.name j) (.rng1 a) (some c)) (.lst [])) S = .ok (.bl false, S') :=
  ev_nothing (it_rng1 h hz) (by rw [rangeT_len]; omega) fun x hx => by
    obtain ⟨i, hi, rfl⟩ := rangeT_mem hx
    have e : (0 : Int) + (i : Int) = ((i : Nat) : Int) := by omega
    rw [e]
    exact ⟨rfl, hc i (by omega)⟩
theorem bo_tadd' (xs ys : List T) (h : xs.length + ys.length ≤ 1000000) : bop .add (.tup xs) (.tup ys) = some (.tup (xs ++ ys)) := bo_tadd xs ys h
theorem ne_tupself {xs : List T} {ds : List PyData} (h : T.toDs xs = some ds) (hs : SeqAt.shaped (.tuple ds) = true) (he : PyData.eqv (.tuple ds) (.tuple ds) = true) : cop .ne (.tup xs) (.tup xs) = some false := by
  have h' : (T.tup xs).toD = some (.tuple ds) := by rw [T.toD, h]; rfl
  have e : eqT (.tup xs) (.tup xs) = some true := by
    unfold eqT
    rw [h']
    simp [hs, he]
  show (eqT (.tup xs) (.tup xs)).map _ = _
  rw [e]
  rfl
theorem ne_self2 {s : Str} (hs : PyData.strOk s = true) (i : Int) : cop .ne (.tup [.str s, .int i]) (.tup [.str s, .int i]) = some false :=
  ne_tupself rfl (by simp [SeqAt.shaped, PyData.canLay0, PyData.canLayAll0, PyData.depth, PyData.depthAll, hs]) (by simp [PyData.eqv, PyData.eqvAll])
theorem ne_self3 {s : Str} (hs : PyData.strOk s = true) (i j : Int) : cop .ne (.tup [.str s, .int i, .int j]) (.tup [.str s, .int i, .int j]) = some false :=
  ne_tupself rfl (by simp [SeqAt.shaped, PyData.canLay0, PyData.canLayAll0, PyData.depth, PyData.depthAll, hs]) (by simp [PyData.eqv, PyData.eqvAll])
theorem shaped_intL (L : List Int) : SeqAt.shaped (.list (L.map PyData.int)) = true := by
  unfold SeqAt.shaped
  rw [Bool.and_eq_true]
  refine ⟨?_, decide_eq_true ?_⟩
  · simp only [PyData.canLay0, PyProof.Rows.canLayAll_ints]
  · simp only [PyData.depth, PyProof.Rows.depthAll_ints]
    decide
/-- [..] != [] over ints -/
theorem cop_lstI (L : List Int) : cop .ne (.lst (L.map T.int)) (.own []) = some (!decide (L = [])) := by
  show (eqT _ _).map _ = _
  have e1 : (T.lst (L.map T.int)).toD = some (.list (L.map .int)) := by show (T.toDs (L.map T.int)).map _ = _; rw [toDs_ints]; rfl
  have e2 : (T.own []).toD = some (.list []) := rfl
  unfold eqT
  rw [e1, e2]
  have s2 : SeqAt.shaped (.list []) = true := shaped_intL []
  simp only [shaped_intL, s2, Bool.and_self, if_true, PyData.eqv]
  cases L with
  | nil => simp [PyData.eqvAll]
  | cons A L => simp [PyData.eqvAll]
theorem ev_as {F : Fns} {ρ : En} {S S1 : Store} {e : CE} {t t' : T} (h : evalE F ρ e S = .ok (t, S1)) (q : t = t') : evalE F ρ e S = .ok (t', S1) := q ▸ h

/-! the same with any wish on what is told at the end -/
/-- a wish on an answer -/
structure Wp (Q : Res Fl → Prop) (r : Res Fl) : Prop where
  out : Q r
theorem wp_set {F : Fns} {ρ : En} {S S1 : Store} {i : Nat} {e : CE} {t : T} {cs : List CS} {Q : Res Fl → Prop} (h : evalE F ρ e S = .ok (t, S1)) (o : t.isOwn = false) (k : Wp Q (evalSs F cs (ρ.put i t) S1)) : Wp Q (evalSs F (.setP (.name i) e :: cs) ρ S) := by
  rw [sg_set h o rfl]
  exact k
theorem wp_setL {F : Fns} {ρ : En} {S S1 : Store} {i : Nat} {e : CE} {xs : List T} {cs : List CS} {Q : Res Fl → Prop} (h : evalE F ρ e S = .ok (.own xs, S1)) (k : Wp Q (evalSs F cs (ρ.put i (.lst xs)) S1)) : Wp Q (evalSs F (.setP (.name i) e :: cs) ρ S) := by
  rw [sg_setL h rfl]
  exact k
theorem wp_setD {F : Fns} {ρ : En} {S S1 : Store} {i : Nat} {e : CE} {ks : List (List L2.Key)} {xs : List T} {cs : List CS} {Q : Res Fl → Prop} (h : evalE F ρ e S = .ok (.odct ks xs, S1)) (k : Wp Q (evalSs F cs (ρ.put i (.dct ks xs)) S1)) : Wp Q (evalSs F (.setP (.name i) e :: cs) ρ S) := by
  rw [sg_setD h rfl]
  exact k
theorem wp_setT {F : Fns} {ρ ρ' : En} {S S1 : Store} {tg : Tg} {e : CE} {t : T} {cs : List CS} {Q : Res Fl → Prop} (h : evalE F ρ e S = .ok (t, S1)) (hb : bindT tg t.view ρ = some ρ') (k : Wp Q (evalSs F cs ρ' S1)) : Wp Q (evalSs F (.setP tg e :: cs) ρ S) := by
  rw [sg_setT h hb rfl]
  exact k
theorem wp_setO {F : Fns} {ρ : En} {S S1 : Store} {i : Nat} {e : CE} {xs : List T} {cs : List CS} {Q : Res Fl → Prop} (h : evalE F ρ e S = .ok (.own xs, S1)) (k : Wp Q (evalSs F cs (ρ.put i (.own xs)) S1)) : Wp Q (evalSs F (.setO i e :: cs) ρ S) := by
  rw [sg_setO h rfl]
  exact k
theorem wp_par {F : Fns} {ρ ρ' : En} {S S1 : Store} {ts : List (Nat × Bool)} {es : List CE} {xs : List T} {cs : List CS} {Q : Res Fl → Prop} (h : evalPar F ρ es S = .ok (xs, S1)) (hs : setParts ts xs ρ = some ρ') (k : Wp Q (evalSs F cs ρ' S1)) : Wp Q (evalSs F (.par ts es :: cs) ρ S) := by
  rw [sg_par h hs rfl]
  exact k
theorem wp_setR {F : Fns} {ρ : En} {S S1 : Store} {i : Nat} {e : CE} {xs : List T} {cs : List CS} {Q : Res Fl → Prop} (h : evalE F ρ e S = .ok (.own xs, S1)) (hn : nls xs = true) (k : Wp Q (evalSs F cs (ρ.put i (.ref S1.length)) (S1 ++ [.own xs]))) : Wp Q (evalSs F (.setR i e :: cs) ρ S) := by
  rw [sg_setR h hn rfl]
  exact k
theorem wp_aug {F : Fns} {ρ : En} {S S1 : Store} {i : Nat} {o : BO} {e : CE} {a b c : Int} {cs : List CS} {Q : Res Fl → Prop} (h : ρ.get i = some (.int a)) (h1 : evalE F ρ e S = .ok (.int b, S1)) (h2 : bopI o a b = some c) (k : Wp Q (evalSs F cs (ρ.put i (.int c)) S1)) : Wp Q (evalSs F (.augP i o e :: cs) ρ S) := by
  rw [sg_aug h h1 h2 rfl]
  exact k
theorem wp_app {F : Fns} {ρ : En} {S S1 : Store} {i : Nat} {e : CE} {t : T} {xs : List T} {cs : List CS} {Q : Res Fl → Prop} (h : evalE F ρ e S = .ok (t, S1)) (o : t.isOwn = false) (ho : ρ.get i = some (.own xs)) (hz : xs.length ≤ 1000000) (k : Wp Q (evalSs F cs (ρ.put i (.own (xs ++ [t]))) S1)) : Wp Q (evalSs F (.app i e :: cs) ρ S) := by
  rw [sg_app h o ho hz rfl]
  exact k
theorem wp_expr {F : Fns} {ρ : En} {S S1 : Store} {e : CE} {t : T} {cs : List CS} {Q : Res Fl → Prop} (h : evalE F ρ e S = .ok (t, S1)) (k : Wp Q (evalSs F cs ρ S1)) : Wp Q (evalSs F (.expr e :: cs) ρ S) := by
  rw [sg_expr h rfl]
  exact k
theorem wp_frz {F : Fns} {ρ : En} {S : Store} {i : Nat} {xs : List T} {cs : List CS} {Q : Res Fl → Prop} (h : ρ.get i = some (.own xs)) (k : Wp Q (evalSs F cs (ρ.put i (.lst xs)) S)) : Wp Q (evalSs F (.frz i :: cs) ρ S) := by
  rw [sg_frz h rfl]
  exact k
theorem wp_xdrop {F : Fns} {ρ : En} {S S1 S2 : Store} {f : Nat} {es : List CE} {ts : List T} {t : T} {cs : List CS} {Q : Res Fl → Prop} (h : evalEs F ρ es S = .ok (ts, S1)) (h2 : F f ts S1 = .ok (t, S2)) (k : Wp Q (evalSs F cs ρ S2)) : Wp Q (evalSs F (.xcall .drop (.f f) es :: cs) ρ S) := by
  rw [sg_xdrop h h2 rfl]
  exact k
theorem wp_xset {F : Fns} {ρ : En} {S S1 S2 : Store} {f i : Nat} {es : List CE} {ts : List T} {t : T} {cs : List CS} {Q : Res Fl → Prop} (h : evalEs F ρ es S = .ok (ts, S1)) (h2 : F f ts S1 = .ok (t, S2)) (o : t.isOwn = false) (k : Wp Q (evalSs F cs (ρ.put i t) S2)) : Wp Q (evalSs F (.xcall (.set (.name i)) (.f f) es :: cs) ρ S) := by
  rw [sg_xset h h2 o rfl]
  exact k
theorem wp_xsetL {F : Fns} {ρ : En} {S S1 S2 : Store} {f i : Nat} {es : List CE} {ts xs : List T} {cs : List CS} {Q : Res Fl → Prop} (h : evalEs F ρ es S = .ok (ts, S1)) (h2 : F f ts S1 = .ok (.own xs, S2)) (k : Wp Q (evalSs F cs (ρ.put i (.lst xs)) S2)) : Wp Q (evalSs F (.xcall (.set (.name i)) (.f f) es :: cs) ρ S) := by
  rw [sg_xsetL h h2 rfl]
  exact k
theorem wp_if_n {F : Fns} {ρ : En} {S S1 : Store} {c : CE} {a cs : List CS} {Q : Res Fl → Prop} (h : evalE F ρ c S = .ok (.bl false, S1)) (k : Wp Q (evalSs F cs ρ S1)) : Wp Q (evalSs F (.ifs c a [] :: cs) ρ S) := by
  rw [sg_if_n h rfl]
  exact k
theorem wp_if_t {F : Fns} {ρ : En} {S S1 : Store} {c : CE} {a b cs : List CS} {Q : Res Fl → Prop} (h : evalE F ρ c S = .ok (.bl true, S1)) (k : Wp Q (evalSs F (a ++ cs) ρ S1)) : Wp Q (evalSs F (.ifs c a b :: cs) ρ S) := by
  rw [sg_if_t h rfl]
  exact k
theorem wp_if_f {F : Fns} {ρ : En} {S S1 : Store} {c : CE} {a b cs : List CS} {Q : Res Fl → Prop} (h : evalE F ρ c S = .ok (.bl false, S1)) (k : Wp Q (evalSs F (b ++ cs) ρ S1)) : Wp Q (evalSs F (.ifs c a b :: cs) ρ S) := by
  rw [sg_if_f h rfl]
  exact k
theorem wp_setI {F : Fns} {ρ : En} {S S1 S2 : Store} {i j : Nat} {ix e : CE} {t : T} {xs : List T} {cs : List CS} {Q : Res Fl → Prop} (h : evalE F ρ e S = .ok (t, S1)) (h2 : evalE F ρ ix S1 = .ok (.int j, S2)) (o : t.isOwn = false) (hg : ρ.get i = some (.own xs)) (hj : j < xs.length) (k : Wp Q (evalSs F cs (ρ.put i (.own (xs.set j t))) S2)) : Wp Q (evalSs F (.setI i ix e :: cs) ρ S) := by
  rw [sg_setI h h2 o hg hj rfl]
  exact k
theorem wp_nil {F : Fns} {ρ : En} {S : Store} {Q : Res Fl → Prop} (k : Q (.ok (.nx ρ S))) : Wp Q (evalSs F [] ρ S) := by
  rw [ss_nilv]
  exact ⟨k⟩
theorem wp_ret {F : Fns} {ρ : En} {S S1 : Store} {e : CE} {t : T} {cs : List CS} {Q : Res Fl → Prop} (h : evalE F ρ e S = .ok (t, S1)) (k : Q (.ok (.rt t S1))) : Wp Q (evalSs F (.ret e :: cs) ρ S) := by
  rw [sg_ret h]
  exact ⟨k⟩
theorem wp_retO {F : Fns} {ρ : En} {S : Store} {i : Nat} {xs : List T} {cs : List CS} {Q : Res Fl → Prop} (h : ρ.get i = some (.own xs)) (k : Q (.ok (.rt (.own xs) S))) : Wp Q (evalSs F (.retO i :: cs) ρ S) := by
  rw [ss_rt (st_retO h)]
  exact ⟨k⟩
theorem wp_retN {F : Fns} {ρ : En} {S : Store} {cs : List CS} {Q : Res Fl → Prop} (k : Q (.ok (.rt .non S))) : Wp Q (evalSs F (.retN :: cs) ρ S) := by
  rw [ss_consv, show evalS F .retN ρ S = .ok (.rt .non S) by simp only [evalS]]
  exact ⟨k⟩
theorem wp_brk {F : Fns} {ρ : En} {S : Store} {cs : List CS} {Q : Res Fl → Prop} (k : Q (.ok (.bk ρ S))) : Wp Q (evalSs F (.brk :: cs) ρ S) := by
  rw [ss_consv, show evalS F .brk ρ S = .ok (.bk ρ S) by simp only [evalS]]
  exact ⟨k⟩
theorem wp_cont {F : Fns} {ρ : En} {S : Store} {cs : List CS} {Q : Res Fl → Prop} (k : Q (.ok (.ct ρ S))) : Wp Q (evalSs F (.cont :: cs) ρ S) := by
  rw [ss_consv, show evalS F .cont ρ S = .ok (.ct ρ S) by simp only [evalS]]
  exact ⟨k⟩
theorem wp_pass {F : Fns} {ρ : En} {S : Store} {cs : List CS} {Q : Res Fl → Prop} (k : Wp Q (evalSs F cs ρ S)) : Wp Q (evalSs F (.pass :: cs) ρ S) := by
  rw [ss_consv, show evalS F .pass ρ S = .ok (.nx ρ S) by simp only [evalS]]
  exact k
theorem wp_raise {F : Fns} {ρ : En} {S S1 : Store} {c : Nat} {es : List CE} {ts : List T} {cs : List CS} {Q : Res Fl → Prop} (h : evalEs F ρ es S = .ok (ts, S1)) (h2 : (ts.all sim && decide (ts.length = (clsF c).length)) = true) (k : Q (.ok (.xc c ts ρ S1))) : Wp Q (evalSs F (.raise c es :: cs) ρ S) := by
  rw [ss_xc (st_raise h h2)]
  exact ⟨k⟩
theorem wp_xdropX {F : Fns} {ρ : En} {S S1 S2 : Store} {f c : Nat} {es : List CE} {ts as : List T} {cs : List CS} {Q : Res Fl → Prop} (h : evalEs F ρ es S = .ok (ts, S1)) (h2 : F f ts S1 = .exc c as S2) (k : Q (.ok (.xc c as ρ S2))) : Wp Q (evalSs F (.xcall .drop (.f f) es :: cs) ρ S) := by
  rw [ss_xc (st_xdropX h h2)]
  exact ⟨k⟩
theorem wp_xret {F : Fns} {ρ : En} {S S1 S2 : Store} {f : Nat} {es : List CE} {ts : List T} {t : T} {cs : List CS} {Q : Res Fl → Prop} (h : evalEs F ρ es S = .ok (ts, S1)) (h2 : F f ts S1 = .ok (t, S2)) (k : Q (.ok (.rt t S2))) : Wp Q (evalSs F (.xcall .ret (.f f) es :: cs) ρ S) := by
  rw [ss_rt (st_xret h h2)]
  exact ⟨k⟩
/-- what is wished of one block of a loop -/
def Turn (I : En → Store → Prop) (Q : Res Fl → Prop) (K : En → Store → Prop) (r : Res Fl) : Prop := match r with
  | .ok (.nx ρ S) => I ρ S
  | .ok (.ct ρ S) => I ρ S
  | .ok (.bk ρ S) => K ρ S
  | .ok f => Q (.ok f)
  | _ => False
theorem wp_forL {tg : Tg} {b : En → Store → Res Fl} {xs : List T} {g : Res Fl → Res Fl} {Q : Res Fl → Prop} (I : Nat → En → Store → Prop) (K : En → Store → Prop)
    (hb : ∀ k ρ S, (hk : k < xs.length) → I k ρ S → ∃ ρ1, bindT tg xs[k] ρ = some ρ1 ∧ Turn (I (k + 1)) (fun r => Q (g r)) K (b ρ1 S))
    (hK : ∀ ρ S, K ρ S → Q (g (.ok (.nx ρ S)))) (hE : ∀ ρ S, I xs.length ρ S → Q (g (.ok (.nx ρ S)))) : ∀ {j k : Nat} {ρ : En} {S : Store}, k + j = xs.length → I k ρ S → Q (g (forL tg b (xs.drop k) ρ S))
  | 0, k, ρ, S, e, hI => by
    have : k = xs.length := by omega
    subst this
    rw [List.drop_length]
    exact hE ρ S hI
  | j + 1, k, ρ, S, e, hI => by
    have hk : k < xs.length := by omega
    obtain ⟨ρ1, h1, h2⟩ := hb k ρ S hk hI
    rw [drop_cons hk]
    simp only [forL, h1, Res.of_some, Res.bind_okv]
    cases e2 : b ρ1 S with
    | ok f =>
      rw [e2] at h2
      rw [Res.ok_bind]
      cases f with
      | nx ρ2 S2 => exact wp_forL I K hb hK hE (j := j) (k := k + 1) (by omega) h2
      | ct ρ2 S2 => exact wp_forL I K hb hK hE (j := j) (k := k + 1) (by omega) h2
      | bk ρ2 S2 => exact hK _ _ h2
      | rt t S2 => exact h2
      | xc c as ρ2 S2 => exact h2
    | exc c as S2 => rw [e2] at h2; exact h2.elim
    | bad => rw [e2] at h2; exact h2.elim
/-- a loop: an invariant, what holds where it is left by break -/
theorem wp_for {F : Fns} {ρ : En} {S S1 : Store} {tg : Tg} {it : It} {b : List CS} {xs : List T} {cs : List CS} {Q : Res Fl → Prop} (I : Nat → En → Store → Prop) (K : En → Store → Prop) (h : evalI F ρ it S = .ok (xs, S1)) (h0 : I 0 ρ S1)
    (hb : ∀ k ρ S, (hk : k < xs.length) → I k ρ S → ∃ ρ1, bindT tg xs[k] ρ = some ρ1 ∧ Wp (Turn (I (k + 1)) Q K) (evalSs F b ρ1 S))
    (hK : ∀ ρ S, K ρ S → Wp Q (evalSs F cs ρ S)) (hE : ∀ ρ S, I xs.length ρ S → Wp Q (evalSs F cs ρ S)) : Wp Q (evalSs F (.for tg it b :: cs) ρ S) := by
  have := wp_forL (tg := tg) (b := evalSs F b) (xs := xs) (g := fun r => r >>= fun f => match f with | .nx ρ S => evalSs F cs ρ S | f => .ok f) (Q := Q) I K (fun k ρ S hk hI => by
    obtain ⟨ρ1, h1, ⟨h2⟩⟩ := hb k ρ S hk hI
    refine ⟨ρ1, h1, ?_⟩
    cases e2 : evalSs F b ρ1 S with
    | ok f =>
      rw [e2] at h2
      cases f <;> exact h2
    | exc c as S2 => rw [e2] at h2; exact h2.elim
    | bad => rw [e2] at h2; exact h2.elim) (fun ρ S hk => (hK ρ S hk).out) (fun ρ S hk => (hE ρ S hk).out) (j := xs.length) (k := 0) (by omega) h0
  rw [List.drop_zero] at this
  rw [ss_consv, xs_for, h, Res.ok_bind]
  exact ⟨this⟩
/-- the end of a def: what its body says -/
def Rt (P : T → Store → Prop) (r : Res Fl) : Prop := ∃ t S, r = .ok (.rt t S) ∧ P t S
theorem fn_Rt {n f : Nat} {c : CFn} {ts : List T} {S : Store} {P : T → Store → Prop} (hG : Gam tab f = some c) (hl : ts.length = c.params) (h : Wp (Rt fun t S' => S'.length = S.length ∧ P t S') (evalSs (FF n) c.body (ts.map some ++ List.replicate (c.slots - c.params) none) S)) : ∃ t S', FF (n + 1) f ts S = .ok (t, S') ∧ P t S' := by
  obtain ⟨t, S', e, l, p⟩ := h.out
  exact ⟨t, S', fn_rt hG hl e l, p⟩
theorem law_Rt {n f : Nat} {c : CFn} {ts : List T} (hG : Gam tab f = some c) (hl : ts.length = c.params) (h : Wp (Rt fun t _ => t = .bl true) (evalSs (FF n) c.body (ts.map some ++ List.replicate (c.slots - c.params) none) [])) : FF (n + 1) f ts [] = .ok (.bl true, []) := by
  obtain ⟨t, S', e, rfl⟩ := h.out
  exact law_done hG hl e
theorem ev_isB {F : Fns} {ρ : En} {S S1 S2 : Store} {k : Bool} {a b : CE} {p q : Bool} (h : evalE F ρ a S = .ok (.bl p, S1)) (h2 : evalE F ρ b S1 = .ok (.bl q, S2)) : evalE F ρ (.isB k a b) S = .ok (.bl (if k then !decide (p = q) else decide (p = q)), S2) := by
  simp only [evalE, h, h2, Res.ok_bind]
/-- a loop whose body changes nothing -/
theorem wp_forid {F : Fns} {ρ : En} {S S1 : Store} {i : Nat} {it : It} {b : List CS} {xs : List T} {cs : List CS} {Q : Res Fl → Prop} (h : evalI F ρ it S = .ok (xs, S1))
    (hb : ∀ x ∈ xs, x.isOwn = false ∧ evalSs F b (ρ.put i x) S1 = .ok (.nx (ρ.put i x) S1)) (k : ∀ o, Wp Q (evalSs F cs (ρ.putO i o) S1)) : Wp Q (evalSs F (.for (.name i) it b :: cs) ρ S) := by
  obtain ⟨o0, h0⟩ := putO_get ρ i
  refine wp_for (fun _ ρ' S' => S' = S1 ∧ ∃ o, ρ' = ρ.putO i o) (fun _ _ => False) h ⟨rfl, o0, h0⟩ ?_ (fun _ _ z => z.elim) ?_
  · rintro k' ρ' S' hk ⟨rfl, o, rfl⟩
    obtain ⟨o1, o2⟩ := hb _ (List.getElem_mem hk)
    refine ⟨ρ.put i xs[k'], ?_, ?_⟩
    · simp [bindT, o1, putO_put]
    · rw [o2]
      exact ⟨⟨rfl, some xs[k'], put_putO _ _ _⟩⟩
  · rintro ρ' S' ⟨rfl, o, rfl⟩
    exact k o
theorem wp_ifD {F : Fns} {ρ : En} {S S1 : Store} {c : CE} {a b cs : List CS} {p : Bool} {Q : Res Fl → Prop} (h : evalE F ρ c S = .ok (.bl p, S1)) (kt : p = true → Wp Q (evalSs F (a ++ cs) ρ S1)) (kf : p = false → Wp Q (evalSs F (b ++ cs) ρ S1)) : Wp Q (evalSs F (.ifs c a b :: cs) ρ S) := by
  cases p with
  | true => exact wp_if_t h (kt rfl)
  | false => exact wp_if_f h (kf rfl)
theorem wp_ifT {F : Fns} {ρ : En} {S S1 : Store} {c : CE} {a b cs : List CS} {t : T} {p : Bool} {Q : Res Fl → Prop} (h : evalE F ρ c S = .ok (t, S1)) (ht : truth t = some p) (kt : p = true → Wp Q (evalSs F (a ++ cs) ρ S1)) (kf : p = false → Wp Q (evalSs F (b ++ cs) ρ S1)) : Wp Q (evalSs F (.ifs c a b :: cs) ρ S) := by
  have e : evalS F (.ifs c a b) ρ S = if p then evalSs F a ρ S1 else evalSs F b ρ S1 := by
    rw [xs_ifs, h, Res.ok_bind]
    show (Res.of (truth t)).bind _ = _
    rw [ht]
    rfl
  rw [ss_consv, e]
  cases p with
  | true =>
    rw [if_pos rfl]
    have z := ss_app (F := F) (cs := cs) (a := a) (ρ := ρ) (S := S1) rfl
    exact (congrArg (Wp Q) z).mpr (kt rfl)
  | false =>
    rw [if_neg (by decide)]
    have z := ss_app (F := F) (cs := cs) (a := b) (ρ := ρ) (S := S1) rfl
    exact (congrArg (Wp Q) z).mpr (kf rfl)
theorem atI_hd (x : T) (xs : List T) : L2.atI (x :: xs) 0 = some x := by
  have : L2.ixN (x :: xs).length 0 = some 0 := by
    unfold L2.ixN
    rw [if_pos (by omega), if_pos (by simp)]
    rfl
  unfold L2.atI
  rw [this]
  rfl
/-- over anything that is told by trees -/
theorem ev_mapA {F : Fns} {ρ : En} {S S' : Store} {elt : CE} {j : Nat} {it : It} {α : Type} {L : List α} (enc g : α → T) (h : evalI F ρ it S = .ok (L.map enc, S')) (hz : L.length ≤ 1000000) (hc : ∀ a ∈ L, (enc a).isOwn = false ∧ (g a).isOwn = false ∧ evalE F (ρ.put j (enc a)) elt S' = .ok (g a, S')) : evalE F ρ (.comp elt (.name j) it none) S = .ok (.own (L.map g), S') := by
  have ec : compL (turn F ρ elt (.name j) none) (L.map enc) S' = .ok (L.map g, S') := by
    clear h hz
    induction L with
    | nil => rfl
    | cons a L ih =>
      obtain ⟨o1, o2, e⟩ := hc a List.mem_cons_self
      have ih := ih fun b hb => hc b (List.mem_cons_of_mem _ hb)
      rw [List.map_cons]
      simp only [compL, turn_none o1 e, Res.ok_bind, ih, List.map_cons, vw_of o2]
  exact ev_comp h (by rw [List.length_map]; exact hz) ec
theorem in_lst (a : Int) (L : List Int) : inT (.int a) (.lst (L.map T.int)) = some (decide (a ∈ L)) := by
  have e2 : (T.lst (L.map T.int)).toD = some (.list (L.map .int)) := by show (T.toDs (L.map T.int)).map _ = _; rw [toDs_ints]; rfl
  unfold inT
  rw [e2]
  show (if SeqAt.shaped (.int a) && SeqAt.shaped (.list (L.map .int)) then _ else _) = _
  have s1 : SeqAt.shaped (.int a) = true := rfl
  rw [s1, shaped_intL]
  have : (L.map PyData.int).any (fun z => PyData.eqv z (.int a)) = decide (a ∈ L) := by
    rw [List.any_map, Bool.eq_iff_iff]
    simp [PyData.eqv, Function.comp_def]
  simp only [this]
  rfl
theorem ev_isin {F : Fns} {ρ : En} {S S1 S2 : Store} {k : Bool} {a b : CE} {x y : T} {r : Bool} (h : evalE F ρ a S = .ok (x, S1)) (h2 : evalE F ρ b S1 = .ok (y, S2)) (hi : inT x y = some r) : evalE F ρ (.isin k a b) S = .ok (.bl (if k then !r else r), S2) := by
  rw [x_isin, h, Res.ok_bind, h2, Res.ok_bind]
  show (Res.of (inT x y)).bind _ = _
  rw [hi]
  rfl
theorem ev_emptyN {F : Fns} {ρ : En} {S S' : Store} {elt c a : CE} {j : Nat} {z : Int} (h : evalE F ρ a S = .ok (.int z, S')) (hz : z ≤ 1000000 ∧ -1000000 ≤ z) (hc : ∀ i : Nat, (i : Int) < z → evalE F (ρ.put j (.int i)) c S' = .ok (.bl false, S')) : evalE F ρ (.comp elt (.name j) (.rng1 a) (some c)) S = .ok (.own [], S') :=
  ev_comp (it_rng1 h hz) (by rw [rangeT_len]; omega) (compL_none fun x hx => by
    obtain ⟨i, hi, rfl⟩ := rangeT_mem hx
    have e : (0 : Int) + (i : Int) = ((i : Nat) : Int) := by omega
    rw [e, turn_some rfl (hc i (by omega))]
    rfl)
/-- .. which may end without a return -/
def Rx (P : T → Store → Prop) (r : Res Fl) : Prop := match r with
  | .ok (.rt t S) => P t S
  | .ok (.nx _ S) => P .non S
  | _ => False
theorem fn_Rx {n f : Nat} {c : CFn} {ts : List T} {S : Store} {P : T → Store → Prop} (hG : Gam tab f = some c) (hl : ts.length = c.params) (h : Wp (Rx fun t S' => S'.length = S.length ∧ P t S') (evalSs (FF n) c.body (ts.map some ++ List.replicate (c.slots - c.params) none) S)) : ∃ t S', FF (n + 1) f ts S = .ok (t, S') ∧ P t S' := by
  obtain ⟨h⟩ := h
  cases e : evalSs (FF n) c.body (ts.map some ++ List.replicate (c.slots - c.params) none) S with
  | ok f =>
    rw [e] at h
    cases f with
    | rt t S' => exact ⟨t, S', fn_rt hG hl e h.1, h.2⟩
    | nx ρ S' => exact ⟨.non, S', fn_nx hG hl e h.1, h.2⟩
    | _ => exact h.elim
  | _ => rw [e] at h; exact h.elim
/-- .. which tells a given answer -/
theorem fn_is {n f : Nat} {c : CFn} {ts : List T} {S : Store} {t : T} (hG : Gam tab f = some c) (hl : ts.length = c.params) (h : Wp (Rx fun t' S' => t' = t ∧ S' = S) (evalSs (FF n) c.body (ts.map some ++ List.replicate (c.slots - c.params) none) S)) : FF (n + 1) f ts S = .ok (t, S) := by
  obtain ⟨h⟩ := h
  cases e : evalSs (FF n) c.body (ts.map some ++ List.replicate (c.slots - c.params) none) S with
  | ok f =>
    rw [e] at h
    cases f with
    | rt t' S' => obtain ⟨rfl, rfl⟩ := h; exact fn_rt hG hl e rfl
    | nx ρ S' =>
      obtain ⟨h1, h2⟩ := h
      subst h2
      rw [← h1]
      exact fn_nx hG hl e rfl
    | _ => exact h.elim
  | _ => rw [e] at h; exact h.elim
theorem cop_lstE (L : List Int) : cop .eq (.lst (L.map T.int)) (.own []) = some (decide (L = [])) := by
  show eqT _ _ = _
  have e1 : (T.lst (L.map T.int)).toD = some (.list (L.map .int)) := by show (T.toDs (L.map T.int)).map _ = _; rw [toDs_ints]; rfl
  have e2 : (T.own []).toD = some (.list []) := rfl
  unfold eqT
  rw [e1, e2]
  have s2 : SeqAt.shaped (.list []) = true := shaped_intL []
  simp only [shaped_intL, s2, Bool.and_self, if_true, PyData.eqv]
  cases L with
  | nil => simp [PyData.eqvAll]
  | cons A L => simp [PyData.eqvAll]
/-- cuts of tuples of anything -/
theorem cut_fromT (xs : List T) (k : Nat) (h : k ≤ xs.length) : slice (.tup xs) (some (k : Int)) none = some (.tup (xs.drop k)) := by
  show some (T.tup (cut xs (some (k : Int)) none)) = _
  unfold cut
  rw [HT.sIx_nat]
  have e : HT.sIx xs.length xs.length none = xs.length := rfl
  rw [e, Nat.min_eq_left h, List.take_of_length_le (by rw [List.length_drop]; exact Nat.le_refl _)]
theorem cut_toT (xs : List T) (k : Nat) (h : k ≤ xs.length) : slice (.tup xs) none (some (k : Int)) = some (.tup (xs.take k)) := by
  show some (T.tup (cut xs none (some (k : Int)))) = _
  unfold cut
  rw [HT.sIx_nat]
  have e : HT.sIx xs.length 0 none = 0 := rfl
  rw [e, Nat.min_eq_left h, List.drop_zero, Nat.sub_zero]
theorem asg_nil {F : Fns} {ρ : En} {S : Store} : asgL F [] [] ρ S = .ok (ρ, S) := by simp only [asgL]
theorem ixN_nat {n j : Nat} (h : j < n) : L2.ixN n (j : Int) = some j := by
  unfold L2.ixN
  rw [if_pos (by omega), if_pos (by omega)]
  simp
theorem asg_ix {F : Fns} {ρ : En} {S S1 : Store} {i j : Nat} {ix : CE} {is : List (Nat × Option CE)} {t : T} {ts xs : List T} {r : Res (En × Store)} (h : evalE F ρ ix S = .ok (.int j, S1)) (hg : ρ.get i = some (.own xs)) (hj : j < xs.length) (o : t.isOwn = false)
    (k : asgL F is ts (ρ.put i (.own (xs.set j t))) S1 = r) : asgL F ((i, some ix) :: is) (t :: ts) ρ S = r := by
  have e1 : ownOf ρ S1 i = some xs := by unfold ownOf; rw [hg]
  have e3 : wrOk ρ i t = true := by unfold wrOk; rw [hg]
  have e4 : putOwn ρ S1 i (xs.set j t) = (ρ.put i (.own (xs.set j t)), S1) := by unfold putOwn; rw [hg]
  simp only [asgL, h, Res.ok_bind, e1, ixN_nat hj, e3, o, Bool.not_false, Bool.and_self, if_true, e4]
  exact k
theorem asg_nm {F : Fns} {ρ : En} {S : Store} {i : Nat} {is : List (Nat × Option CE)} {t : T} {ts : List T} {r : Res (En × Store)} (o : t.isOwn = false) (k : asgL F is ts (ρ.put i t) S = r) : asgL F ((i, none) :: is) (t :: ts) ρ S = r := by
  simp only [asgL, o, Bool.false_eq_true, if_false]
  exact k
theorem wp_asg {F : Fns} {ρ ρ' : En} {S S1 S2 : Store} {is : List (Nat × Option CE)} {c : CE} {ts : List T} {cs : List CS} {Q : Res Fl → Prop} (h : evalE F ρ c S = .ok (.tup ts, S1)) (ha : asgL F is ts ρ S1 = .ok (ρ', S2)) (k : Wp Q (evalSs F cs ρ' S2)) : Wp Q (evalSs F (.setT is c :: cs) ρ S) := by
  have e : evalS F (.setT is c) ρ S = .ok (.nx ρ' S2) := by
    rw [xs_setT, h, Res.ok_bind]
    show (asgL F is ts ρ S1).bind _ = _
    rw [ha]
    rfl
  rw [step_nx e]
  exact k
theorem wp_augI {F : Fns} {ρ : En} {S S1 S2 : Store} {i j : Nat} {o : BO} {ix e : CE} {xs : List T} {a b c : Int} {cs : List CS} {Q : Res Fl → Prop} (hk : evalE F ρ ix S = .ok (.int j, S1)) (hg : ρ.get i = some (.own xs)) (hx : xs[j]? = some (.int a)) (he : evalE F ρ e S1 = .ok (.int b, S2)) (hb : bopI o a b = some c)
    (k : Wp Q (evalSs F cs (ρ.put i (.own (xs.set j (.int c)))) S2)) : Wp Q (evalSs F (.augI i o ix e :: cs) ρ S) := by
  have hj : j < xs.length := by
    rcases Nat.lt_or_ge j xs.length with z | z
    · exact z
    · rw [List.getElem?_eq_none z] at hx; cases hx
  have e1 : ∀ S, ownOf ρ S i = some xs := fun S => by unfold ownOf; rw [hg]
  have e4 : ∀ ys, putOwn ρ S2 i ys = (ρ.put i (.own ys), S2) := fun ys => by unfold putOwn; rw [hg]
  have e : evalS F (.augI i o ix e) ρ S = .ok (.nx (ρ.put i (.own (xs.set j (.int c)))) S2) := by
    simp only [evalS, hk, Res.ok_bind, e1, ixN_nat hj, hx, he, hb, Res.of_some, Res.bind_okv, e4]
  rw [step_nx e]
  exact k
theorem wp_ins {F : Fns} {ρ : En} {S S1 S2 : Store} {i j : Nat} {ix e : CE} {t : T} {xs : List T} {cs : List CS} {Q : Res Fl → Prop} (hk : evalE F ρ ix S = .ok (.int j, S1)) (he : evalE F ρ e S1 = .ok (t, S2)) (o : t.isOwn = false) (hg : ρ.get i = some (.own xs)) (hz : xs.length ≤ 1000000) (hj : j ≤ 1000000)
    (k : Wp Q (evalSs F cs (ρ.put i (.own (xs.take j ++ [t] ++ xs.drop j))) S2)) : Wp Q (evalSs F (.ins i ix e :: cs) ρ S) := by
  have e1 : ∀ S, ownOf ρ S i = some xs := fun S => by unfold ownOf; rw [hg]
  have e3 : wrOk ρ i t = true := by unfold wrOk; rw [hg]
  have e4 : ∀ ys, putOwn ρ S2 i ys = (ρ.put i (.own ys), S2) := fun ys => by unfold putOwn; rw [hg]
  have z1 : szOk xs.length = true := by simpa [szOk] using hz
  have e : evalS F (.ins i ix e) ρ S = .ok (.nx (ρ.put i (.own (xs.take j ++ [t] ++ xs.drop j))) S2) := by
    simp only [evalS, hk, he, Res.ok_bind, e1, z1, e3, Bool.and_self, Bool.true_and, decide_eq_true (show (0 : Int) ≤ (j : Int) by omega), decide_eq_true (show (j : Int) ≤ 1000000 by omega), if_true, e4, Int.toNat_natCast, vw_of o]
  rw [step_nx e]
  exact k
theorem wp_ext {F : Fns} {ρ : En} {S S1 : Store} {i : Nat} {e : CE} {t : T} {xs ys : List T} {cs : List CS} {Q : Res Fl → Prop} (he : evalE F ρ e S = .ok (t, S1)) (hv : t.view = .lst ys) (hg : ρ.get i = some (.own xs)) (hz : xs.length ≤ 1000000) (hy : ys.length ≤ 1000000)
    (k : Wp Q (evalSs F cs (ρ.put i (.own (xs ++ ys))) S1)) : Wp Q (evalSs F (.ext i e :: cs) ρ S) := by
  have z1 : szOk xs.length = true := by simpa [szOk] using hz
  have z2 : szOk ys.length = true := by simpa [szOk] using hy
  have e : evalS F (.ext i e) ρ S = .ok (.nx (ρ.put i (.own (xs ++ ys))) S1) := by
    simp only [evalS, he, Res.ok_bind, hg, hv, z1, z2, Bool.and_self, if_true]
  rw [step_nx e]
  exact k
theorem wp_popE {F : Fns} {ρ : En} {S : Store} {i : Nat} {xs : List T} {cs : List CS} {Q : Res Fl → Prop} (hg : ρ.get i = some (.own xs)) (hn : xs ≠ []) (k : Wp Q (evalSs F cs (ρ.put i (.own xs.dropLast)) S)) : Wp Q (evalSs F (.popE i :: cs) ρ S) := by
  have e1 : ownOf ρ S i = some xs := by unfold ownOf; rw [hg]
  have e4 : ∀ ys, putOwn ρ S i ys = (ρ.put i (.own ys), S) := fun ys => by unfold putOwn; rw [hg]
  have hi : xs.isEmpty = false := by cases xs with | nil => exact absurd rfl hn | cons a l => rfl
  have e : evalS F (.popE i) ρ S = .ok (.nx (ρ.put i (.own xs.dropLast)) S) := by
    simp only [evalS, e1, hi, Bool.false_eq_true, if_false, e4]
  rw [step_nx e]
  exact k
theorem ev_andB {F : Fns} {ρ : En} {S S1 : Store} {a b : CE} {p q : Bool} (h : evalE F ρ a S = .ok (.bl p, S1)) (h2 : evalE F ρ b S1 = .ok (.bl q, S1)) : evalE F ρ (.and a b) S = .ok (.bl (p && q), S1) := by
  cases p with
  | false => exact ev_and_f h
  | true => rw [ev_and_t h h2]; rfl
theorem ev_disp {F : Fns} {ρ : En} {S S1 : Store} {k : Bool} {bs : List Bool} {es : List CE} {ts xs : List T} (h : evalEs F ρ es S = .ok (ts, S1)) (hc : combS bs ts = some xs) (hz : xs.length ≤ 1000000) : evalE F ρ (.disp k bs es) S = .ok (if k then .tup xs else .own xs, S1) := by
  have z1 : szOk xs.length = true := by simpa [szOk] using hz
  rw [x_disp, h, Res.ok_bind]
  show (Res.of (combS bs ts)).bind _ = _
  rw [hc]
  show (if _ then _ else _) = _
  rw [if_pos z1]
/-- over two lists of ints side by side -/
theorem ev_zipI {F : Fns} {ρ : En} {S S' : Store} {elt : CE} {i j : Nat} {it : It} {L M : List Int} (g : Nat → T) (h : evalI F ρ it S = .ok (zipT (L.map T.int) (M.map T.int), S')) (hl : L.length = M.length) (hz : L.length ≤ 1000000) (hc : ∀ k, k < L.length → (g k).isOwn = false ∧ evalE F ((ρ.put i (.int (gi L k))).put j (.int (gi M k))) elt S' = .ok (g k, S')) : evalE F ρ (.comp elt (.tup [.name i, .name j]) it none) S = .ok (.own ((List.range L.length).map g), S') := by
  have lz : (zipT (L.map T.int) (M.map T.int)).length = L.length := by rw [zipT_len]; simp [hl]
  obtain ⟨zs, S2, ec, rfl, hz2⟩ := compL_all (step := turn F ρ elt (.tup [.name i, .name j]) none) (xs := zipT (L.map T.int) (M.map T.int)) (fun k ys S2 => S2 = S' ∧ ys = (List.range k).map g) (S := S') ⟨rfl, rfl⟩ (by
    rintro k ys S2 hk ⟨rfl, rfl⟩
    have hk' : k < L.length := by rw [lz] at hk; exact hk
    obtain ⟨o, e⟩ := hc k hk'
    refine ⟨some (g k), S2, ?_, rfl, by
      show (List.range k).map g ++ [(g k).view] = _
      rw [List.range_succ, List.map_append, vw_of o]
      rfl⟩
    unfold turn
    have hb : bindT (.tup [.name i, .name j]) (zipT (L.map T.int) (M.map T.int))[k] ρ = some ((ρ.put i (.int (gi L k))).put j (.int (gi M k))) := by
      rw [zipT_at, gi_eq hk', gi_eq (by omega : k < M.length)]
      simp [bindT, bindTs]
    rw [hb]
    simp only [Res.of_some, Res.bind_okv, xc_none, Res.ok_bind, e, if_true])
  rw [lz] at hz2
  rw [hz2] at ec
  exact ev_comp h (by rw [lz]; exact hz) ec

local macro_rules | `(tactic| sizeOf_list_dec) => `(tactic| first
  | assumption
  | exact co_lt (by omega) | exact co_ltf (by omega) | exact co_le (by omega) | exact co_lef (by omega) | exact co_gt (by omega) | exact co_gtf (by omega) | exact co_ge (by omega) | exact co_gef (by omega)
  | exact co_eq (by omega) | exact co_eqf (by omega) | exact co_ne (by omega) | exact co_nef (by omega)
  | rfl)
local macro_rules | `(tactic| clean_wf) => `(tactic| first
  | assumption
  | focus (apply it_seq; array_get_dec; first | rfl | assumption; done)
  | focus (apply it_rng1; array_get_dec; omega; done)
  | focus (apply it_rng2; array_get_dec; array_get_dec; omega; omega; done))
local macro_rules | `(tactic| array_get_dec) => `(tactic| first
  | exact ev_cst
  | exact ev_slot rfl (by first | rfl | assumption)
  | exact ev_view rfl
  | exact ev_nil
  | exact eo_none
  | exact ev_dnew
  | exact ep_nil
  | assumption
  | focus (apply eo_some; array_get_dec; done)
  | focus (apply ev_cons; array_get_dec; array_get_dec; done)
  | focus (apply ep_cons; array_get_dec; array_get_dec; done)
  | focus (apply ev_bin; array_get_dec; array_get_dec; first | assumption | rfl; done)
  | focus (apply ev_sub; array_get_dec; array_get_dec; first | assumption | rfl; done)
  | focus (apply ev_call; array_get_dec; assumption; done)
  | focus (apply ev_cmp; array_get_dec; array_get_dec; sizeOf_list_dec; done)
  | focus (apply ev_tup; array_get_dec; done)
  | focus (apply ev_lst; array_get_dec; done)
  | focus (apply ev_neg; array_get_dec; done)
  | focus (apply ev_not; array_get_dec; done)
  | focus (apply ev_isN; array_get_dec; first | assumption | rfl; done)
  | focus (apply ev_slice; array_get_dec; array_get_dec; array_get_dec; first | assumption | rfl; done)
  | focus (apply ev_prim; array_get_dec; first | assumption | rfl; done)
  | focus (apply ev_isinst; array_get_dec; first | rfl | assumption; first | rfl | assumption; done)
  | focus (apply ev_andD; array_get_dec; first | exact Or.inl ⟨rfl, rfl⟩ | (refine Or.inr ⟨rfl, ?_⟩; array_get_dec); done)
  | focus (apply ev_orD; array_get_dec; first | exact Or.inl ⟨rfl, rfl⟩ | (refine Or.inr ⟨rfl, ?_⟩; array_get_dec); done)
  | focus (apply ev_iteD; array_get_dec; first | (refine Or.inl ⟨rfl, ?_⟩; array_get_dec) | (refine Or.inr ⟨rfl, ?_⟩; array_get_dec); done))
/- one statement -/
local macro_rules | `(tactic| simp_wf) => `(tactic| first
  | (apply wp_ret; (focus (array_get_dec; done)))
  | (apply wp_set; (focus (array_get_dec; done)); (focus (first | rfl | assumption; done)); try dsimp only [En.put])
  | (apply wp_setL; (focus (array_get_dec; done)); try dsimp only [En.put])
  | (apply wp_setD; (focus (array_get_dec; done)); try dsimp only [En.put])
  | (apply wp_setO; (focus (array_get_dec; done)); try dsimp only [En.put])
  | (apply wp_setR; (focus (array_get_dec; done)); (focus (first | rfl | assumption; done)); try dsimp only [En.put, List.length_nil, List.nil_append])
  | (apply wp_par; (focus (array_get_dec; done)); (focus (first | rfl | assumption; done)); try dsimp only [En.put])
  | (apply wp_setT; (focus (array_get_dec; done)); (focus (first | rfl | assumption; done)); try dsimp only [En.put])
  | (apply wp_aug; (focus (rfl; done)); (focus (array_get_dec; done)); (focus (first | assumption | rfl; done)); try dsimp only [En.put])
  | (apply wp_app; (focus (array_get_dec; done)); (focus (first | rfl | assumption; done)); (focus (rfl; done)); (focus (first | assumption | simp; done)); try dsimp only [En.put])
  | (apply wp_expr; (focus (array_get_dec; done)))
  | (apply wp_frz; (focus (rfl; done)); try dsimp only [En.put])
  | (apply wp_xdrop; (focus (array_get_dec; done)); (focus (assumption; done)))
  | (apply wp_xset; (focus (array_get_dec; done)); (focus (assumption; done)); (focus (first | rfl | assumption; done)); try dsimp only [En.put])
  | (apply wp_xsetL; (focus (array_get_dec; done)); (focus (assumption; done)); try dsimp only [En.put])
  | (apply wp_if_n; (focus (array_get_dec; done)))
  | (apply wp_if_t; (focus (array_get_dec; done)); try dsimp only [List.cons_append, List.nil_append])
  | (apply wp_if_f; (focus (array_get_dec; done)); try dsimp only [List.cons_append, List.nil_append])
  | (apply wp_retO; (focus (rfl; done)))
  | apply wp_nil
  | apply wp_retN
  | apply wp_brk
  | apply wp_cont
  | apply wp_pass
  | (apply wp_raise; (focus (array_get_dec; done)); (focus (rfl; done)))
  | (apply wp_xdropX; (focus (array_get_dec; done)); (focus (assumption; done)))
  | (apply wp_xret; (focus (array_get_dec; done)); (focus (assumption; done))))
/- an expression's given answer -/
local macro_rules | `(tactic| rfl') => `(tactic| (apply ev_as; (focus (array_get_dec; done)); first | rfl | assumption))

/-! ratios -/
def rT (r : Rat) : T := .tup [.int r.num, .int (r.den : Int)]
/-- at most so many bits -/
def Sz (r : Rat) (k : Nat) : Prop := r.num.natAbs < 2 ^ k ∧ r.den < 2 ^ k
theorem numOk_lt {i : Int} {k : Nat} (h : i.natAbs < 2 ^ k) (hk : k ≤ 8000) : numOk i = true := by
  unfold numOk
  exact decide_eq_true (Nat.lt_of_lt_of_le h (Nat.pow_le_pow_right (by omega) hk))
theorem pr_absN (a : Int) : prim .abs [.int a] = some (.int (a.natAbs : Nat)) := by
  rw [pr_abs]
  congr 2
  split <;> omega
/-- the turns of Euclid -/
def es (a b : Nat) : Nat := if h : b = 0 then 0 else es b (a % b) + 1
termination_by b
decreasing_by exact Nat.mod_lt _ (Nat.pos_of_ne_zero h)
theorem es_zero (a : Nat) : es a 0 = 0 := by
  rw [es]
  simp
theorem es_pos {a b : Nat} (h : b ≠ 0) : es a b = es b (a % b) + 1 := by
  rw [es]
  simp [h]
theorem es_le : ∀ (j a b : Nat), b < 2 ^ j → es a b ≤ 2 * j
  | 0, a, b, h => by
    have : b = 0 := by simpa using h
    rw [this, es_zero]
    omega
  | j + 1, a, b, h => by
    by_cases hb : b = 0
    · rw [hb, es_zero]; omega
    rw [es_pos hb]
    have l1 := Nat.mod_lt a (Nat.pos_of_ne_zero hb)
    by_cases hr : a % b = 0
    · rw [hr, es_zero]; omega
    rw [es_pos hr]
    have l2 : b % (a % b) < 2 ^ j := by
      have h2 : (2 : Nat) ^ (j + 1) = 2 * 2 ^ j := by rw [Nat.pow_succ]; omega
      have l3 := Nat.mod_lt b (Nat.pos_of_ne_zero hr)
      by_cases q : 2 * (a % b) ≤ b
      · omega
      · have : b % (a % b) = b - a % b := by
          rw [Nat.mod_eq_sub_mod (by omega)]
          exact Nat.mod_eq_of_lt (by omega)
        omega
    have := es_le j (a % b) (b % (a % b)) l2
    omega
theorem gcd_step {a b : Nat} : Nat.gcd b (a % b) = Nat.gcd a b := by
  rw [Nat.gcd_comm, ← Nat.gcd_rec, Nat.gcd_comm]
theorem mod_nat (a b : Nat) : ((a : Int) % (b : Int)) = ((a % b : Nat) : Int) := (Int.natCast_emod a b).symm
theorem wp_while {F : Fns} {ρ : En} {S : Store} {c : CE} {b : List CS} {cs : List CS} {Q : Res Fl → Prop} (I : Nat → En → Store → Prop) (K : En → Store → Prop) {k : Nat} (h0 : I k ρ S) (hk : k ≤ 1000000)
    (h : ∀ k ρ S, I k ρ S → (∃ S', evalE F ρ c S = .ok (.bl false, S') ∧ K ρ S') ∨ ∃ S1 ρ2 S2 j, evalE F ρ c S = .ok (.bl true, S1) ∧ evalSs F b ρ S1 = .ok (.nx ρ2 S2) ∧ j < k ∧ I j ρ2 S2) (kE : ∀ ρ S, K ρ S → Wp Q (evalSs F cs ρ S)) : Wp Q (evalSs F (.while c b :: cs) ρ S) := by
  obtain ⟨ρ2, S2, e, hK⟩ := while_ok (c := tst F c) (b := evalSs F b) I K h0 hk (fun k ρ S hI => by
    rcases h k ρ S hI with ⟨S', e, hk⟩ | ⟨S1, ρ2, S2, j, e, e2, hj, hI⟩
    · exact .inl ⟨S', by simp [tst, e], hk⟩
    · exact .inr ⟨S1, ρ2, S2, j, by simp [tst, e], e2, hj, hI⟩)
  rw [ss_consv, xs_while, e, Res.ok_bind]
  exact kE _ _ hK
theorem common_divisor_ok (n : Nat) (a b : Int) (hb : b.natAbs < 2 ^ 8000) (S : Store) : FF (n + 1) i_common_divisor [.int a, .int b] S = .ok (.int (Int.gcd a b : Nat), S) := by
  obtain ⟨t, S', e, rfl, rfl⟩ := fn_Rt (n := n) (f := i_common_divisor) (c := ⟨2, 2, c_common_divisor⟩) (ts := [.int a, .int b]) (S := S) (P := fun t S' => t = .int (Int.gcd a b : Nat) ∧ S' = S) g_common_divisor rfl (by
    show Wp (Rt _) (evalSs (FF n) c_common_divisor [some (.int a), some (.int b)] S)
    dsimp only [c_common_divisor]
    have p1 := pr_absN a
    have p2 := pr_absN b
    refine wp_par (xs := [.int (a.natAbs : Nat), .int (b.natAbs : Nat)]) (ep_cons (ev_prim (ev_cons (t := .int a) (ev_slot rfl rfl) ev_nil) p1) (ep_cons (ev_prim (ev_cons (t := .int b) (ev_slot rfl rfl) ev_nil) p2) ep_nil)) rfl ?_
    refine wp_while (fun k ρ S' => S' = S ∧ ∃ x y : Nat, ρ = [some (.int x), some (.int y)] ∧ es x y = k ∧ Nat.gcd x y = Int.gcd a b) (fun ρ S' => S' = S ∧ ρ = [some (.int (Int.gcd a b : Nat)), some (.int 0)]) (k := es a.natAbs b.natAbs) ⟨rfl, _, _, rfl, rfl, rfl⟩ (by have := es_le 8000 a.natAbs b.natAbs hb; omega) ?_ ?_
    · rintro k ρ S' ⟨rfl, x, y, rfl, hk, hg⟩
      by_cases q : y = 0
      · subst q
        refine .inl ⟨S', ev_cmp (ev_slot rfl rfl) ev_cst (co_nef rfl), rfl, ?_⟩
        rw [Nat.gcd_zero_right] at hg
        rw [hg]
        rfl
      · refine .inr ⟨S', [some (.int y), some (.int ((x % y : Nat) : Int))], S', es y (x % y), ev_cmp (ev_slot rfl rfl) ev_cst (co_ne (by omega)), ?_, by rw [← hk, es_pos q]; omega, rfl, y, x % y, rfl, rfl, by rw [gcd_step, hg]⟩
        have em : bop .mod (.int x) (.int y) = some (.int ((x % y : Nat) : Int)) := by rw [bo_mod _ _ (by omega), mod_nat]
        exact ss_nx (st_par (ep_cons (t := .int y) (ev_slot rfl rfl) (ep_cons (ev_bin (ev_slot rfl rfl) (ev_slot rfl rfl) em) ep_nil)) rfl) ss_no
    · rintro ρ S' ⟨rfl, rfl⟩
      exact wp_ret (ev_slot rfl rfl) ⟨_, _, rfl, rfl, rfl, rfl⟩)
  exact e
theorem gcd_pos {n d : Int} (hd : 0 < d) : 0 < Int.gcd n d := Int.gcd_pos_of_ne_zero_right n (by omega)
theorem mk_num {n d : Int} (hd : 0 < d) : (mkRat n d.toNat).num = n / (Int.gcd n d : Nat) ∧ ((mkRat n d.toNat).den : Int) = d / (Int.gcd n d : Nat) := by
  have h0 : d.toNat ≠ 0 := by omega
  have hg : n.natAbs.gcd d.toNat = Int.gcd n d := by
    show _ = Nat.gcd n.natAbs d.natAbs
    congr 1
    omega
  rw [Rat.mkRat_def, dif_neg h0, Rat.normalize_eq]
  simp only [hg]
  refine ⟨trivial, ?_⟩
  rw [Int.natCast_ediv, Int.toNat_of_nonneg (by omega)]
theorem rT_mk {n d : Int} (hd : 0 < d) : rT (mkRat n d.toNat) = .tup [.int (n / (Int.gcd n d : Nat)), .int (d / (Int.gcd n d : Nat))] := by
  unfold rT
  rw [(mk_num hd).1, (mk_num hd).2]
theorem gcd_lt {n d : Int} {k : Nat} (hd : 0 < d) (h : d.natAbs < 2 ^ k) : (Int.gcd n d : Int).natAbs < 2 ^ k := by
  have := Int.gcd_le_natAbs_right n (b := d) (by omega)
  omega
theorem ratio_ok (n : Nat) (p d : Int) (hd : 0 < d) (h : d.natAbs < 2 ^ 8000) (S : Store) : FF (n + 2) i_ratio [.int p, .int d] S = .ok (rT (mkRat p d.toNat), S) := by
  have e1 := common_divisor_ok n p d h S
  have gp : (0 : Int) < (Int.gcd p d : Nat) := by have := gcd_pos (n := p) hd; omega
  have gn : numOk (Int.gcd p d : Nat) = true := numOk_lt (gcd_lt hd h) (by omega)
  rw [rT_mk hd]
  refine fn_rt (c := ⟨3, 2, c_ratio⟩) (ts := [.int p, .int d]) g_ratio rfl ?_ rfl
  show evalSs (FF (n + 1)) c_ratio [some (.int p), some (.int d), none] S = _
  dsimp only [c_ratio]
  refine sg_set (t := .int (Int.gcd p d : Nat)) (ev_call (ev_cons (t := .int p) (ev_slot rfl rfl) (ev_cons (t := .int d) (ev_slot rfl rfl) ev_nil)) e1) rfl ?_
  refine sg_if_n (S1 := S) (ev_cmp (ev_slot rfl rfl) ev_cst (co_ltf (by omega))) ?_
  exact sg_ret (ev_tup (ev_cons (t := .int (p / (Int.gcd p d : Nat))) (ev_bin (ev_slot rfl rfl) (ev_slot rfl rfl) (bo_fdiv _ _ gp gn)) (ev_cons (t := .int (d / (Int.gcd p d : Nat))) (ev_bin (ev_slot rfl rfl) (ev_slot rfl rfl) (bo_fdiv _ _ gp gn)) ev_nil)))
theorem Sz.mono {r : Rat} {i j : Nat} (h : Sz r i) (hij : i ≤ j) : Sz r j := ⟨Nat.lt_of_lt_of_le h.1 (Nat.pow_le_pow_right (by omega) hij), Nat.lt_of_lt_of_le h.2 (Nat.pow_le_pow_right (by omega) hij)⟩
theorem mk_Sz {n d : Int} {k : Nat} (hd : 0 < d) (hn : n.natAbs < 2 ^ k) (h : d.natAbs < 2 ^ k) : Sz (mkRat n d.toNat) k := by
  obtain ⟨e1, e2⟩ := mk_num (n := n) hd
  have gp : (0 : Int) < (Int.gcd n d : Nat) := by have := gcd_pos (n := n) hd; omega
  refine ⟨?_, ?_⟩
  · rw [e1]
    have := Int.natAbs_ediv_le_natAbs n (Int.gcd n d : Nat)
    omega
  · have : d / (Int.gcd n d : Nat) ≤ d := Int.ediv_le_self _ (by omega)
    omega
theorem pow_mul_lt {a b i j : Nat} (ha : a < 2 ^ i) (hb : b < 2 ^ j) : a * b < 2 ^ (i + j) := by
  rw [Nat.pow_add]
  exact Nat.mul_lt_mul'' ha hb
theorem mul_abs {a b : Int} {i j : Nat} (ha : a.natAbs < 2 ^ i) (hb : b.natAbs < 2 ^ j) : (a * b).natAbs < 2 ^ (i + j) := by
  rw [Int.natAbs_mul]
  exact pow_mul_lt ha hb
theorem add_abs {a b : Int} {k : Nat} (ha : a.natAbs < 2 ^ k) (hb : b.natAbs < 2 ^ k) : (a + b).natAbs < 2 ^ (k + 1) := by
  have := Int.natAbs_add_le a b
  rw [Nat.pow_succ]
  omega
theorem den_abs (r : Rat) : ((r.den : Int)).natAbs = r.den := Int.natAbs_natCast _
theorem den_pos (r : Rat) : (0 : Int) < r.den := by have := r.den_pos; omega
theorem add_mk (a b : Rat) : a + b = mkRat (a.num * b.den + b.num * a.den) ((a.den : Int) * b.den).toNat := by
  have e : ((a.den : Int) * b.den).toNat = a.den * b.den := by rw [← Int.natCast_mul, Int.toNat_natCast]
  rw [e, Rat.add_def, Rat.mkRat_def, dif_neg (Nat.mul_ne_zero a.den_nz b.den_nz)]
theorem mul_mk (a b : Rat) : a * b = mkRat (a.num * b.num) ((a.den : Int) * b.den).toNat := by
  have e : ((a.den : Int) * b.den).toNat = a.den * b.den := by rw [← Int.natCast_mul, Int.toNat_natCast]
  rw [e, Rat.mul_def, Rat.mkRat_def, dif_neg (Nat.mul_ne_zero a.den_nz b.den_nz)]
theorem sub_mk (a b : Rat) : a - b = mkRat (a.num * b.den - b.num * a.den) ((a.den : Int) * b.den).toNat := by
  have e : ((a.den : Int) * b.den).toNat = a.den * b.den := by rw [← Int.natCast_mul, Int.toNat_natCast]
  rw [e, Rat.sub_def, Rat.mkRat_def, dif_neg (Nat.mul_ne_zero a.den_nz b.den_nz)]
theorem dd_pos (a b : Rat) : (0 : Int) < (a.den : Int) * b.den := Int.mul_pos (den_pos a) (den_pos b)
theorem dd_abs {a b : Rat} {i j : Nat} (ha : Sz a i) (hb : Sz b j) : ((a.den : Int) * b.den).natAbs < 2 ^ (i + j) := mul_abs (by rw [den_abs]; exact ha.2) (by rw [den_abs]; exact hb.2)
theorem Sz.add {a b : Rat} {i j : Nat} (ha : Sz a i) (hb : Sz b j) : Sz (a + b) (i + j + 1) := by
  rw [add_mk]
  refine mk_Sz (dd_pos a b) (add_abs (mul_abs ha.1 (by rw [den_abs]; exact hb.2)) ?_) (Nat.lt_of_lt_of_le (dd_abs ha hb) (Nat.pow_le_pow_right (by omega) (by omega)))
  rw [Nat.add_comm i j]
  exact mul_abs hb.1 (by rw [den_abs]; exact ha.2)
theorem Sz.sub {a b : Rat} {i j : Nat} (ha : Sz a i) (hb : Sz b j) : Sz (a - b) (i + j + 1) := by
  rw [sub_mk, Int.sub_eq_add_neg]
  refine mk_Sz (dd_pos a b) (add_abs (mul_abs ha.1 (by rw [den_abs]; exact hb.2)) ?_) (Nat.lt_of_lt_of_le (dd_abs ha hb) (Nat.pow_le_pow_right (by omega) (by omega)))
  rw [Nat.add_comm i j, Int.natAbs_neg]
  exact mul_abs hb.1 (by rw [den_abs]; exact ha.2)
theorem Sz.mul {a b : Rat} {i j : Nat} (ha : Sz a i) (hb : Sz b j) : Sz (a * b) (i + j) := by
  rw [mul_mk]
  exact mk_Sz (dd_pos a b) (mul_abs ha.1 hb.1) (dd_abs ha hb)
theorem Sz.int {z : Int} {k : Nat} (h : z.natAbs < 2 ^ k) (hk : 0 < k) : Sz (z : Rat) k := ⟨h, Nat.one_lt_two_pow (by omega)⟩
theorem rT_int (z : Int) : rT (z : Rat) = .tup [.int z, .int 1] := rfl
theorem rT_own (r : Rat) : (rT r).isOwn = false := rfl
theorem rT_view (r : Rat) : (rT r).view = rT r := rfl
theorem rT_0 (S : Store) (r : Rat) : sub (deref S (rT r)) (.int 0) = some (.int r.num) := rfl
theorem rT_1 (S : Store) (r : Rat) : sub (deref S (rT r)) (.int 1) = some (.int r.den) := rfl
section
variable {F : Fns} {ρ : En} {S : Store} {i j : Nat} {a b : Rat}
theorem ev_num (h : ρ.get i = some (rT a)) : evalE F ρ (.sub (.slot i) (.cst (.int 0))) S = .ok (.int a.num, S) := ev_sub (ev_slot h rfl) ev_cst (rT_0 S a)
theorem ev_den (h : ρ.get i = some (rT a)) : evalE F ρ (.sub (.slot i) (.cst (.int 1))) S = .ok (.int a.den, S) := ev_sub (ev_slot h rfl) ev_cst (rT_1 S a)
end
theorem numOk_num {a : Rat} {k : Nat} (h : Sz a k) (hk : k ≤ 8000) : numOk a.num = true := numOk_lt h.1 hk
theorem numOk_den {a : Rat} {k : Nat} (h : Sz a k) (hk : k ≤ 8000) : numOk a.den = true := numOk_lt (by rw [den_abs]; exact h.2) hk
theorem plus_ok (n : Nat) (a b : Rat) {i j : Nat} (ha : Sz a i) (hb : Sz b j) (hij : i + j ≤ 7000) (S : Store) : FF (n + 3) i_plus [rT a, rT b] S = .ok (rT (a + b), S) := by
  have e := ratio_ok n (a.num * b.den + b.num * a.den) ((a.den : Int) * b.den) (dd_pos a b) (Nat.lt_of_lt_of_le (dd_abs ha hb) (Nat.pow_le_pow_right (by omega) (by omega))) S
  rw [← add_mk] at e
  refine fn_rt (c := ⟨2, 2, c_plus⟩) (ts := [rT a, rT b]) g_plus rfl ?_ rfl
  show evalSs (FF (n + 2)) c_plus [some (rT a), some (rT b)] S = _
  have na := numOk_num ha (by omega)
  have nb := numOk_num hb (by omega)
  have da := numOk_den ha (by omega)
  have db := numOk_den hb (by omega)
  exact sg_ret (ev_call (ev_cons (t := .int (a.num * b.den + b.num * a.den)) (ev_bin (ev_bin (ev_num rfl) (ev_den rfl) (bo_mul _ _ na db)) (ev_bin (ev_num rfl) (ev_den rfl) (bo_mul _ _ nb da)) rfl) (ev_cons (t := .int ((a.den : Int) * b.den)) (ev_bin (ev_den rfl) (ev_den rfl) (bo_mul _ _ da db)) ev_nil)) e)
theorem minus_ok (n : Nat) (a b : Rat) {i j : Nat} (ha : Sz a i) (hb : Sz b j) (hij : i + j ≤ 7000) (S : Store) : FF (n + 3) i_minus [rT a, rT b] S = .ok (rT (a - b), S) := by
  have e := ratio_ok n (a.num * b.den - b.num * a.den) ((a.den : Int) * b.den) (dd_pos a b) (Nat.lt_of_lt_of_le (dd_abs ha hb) (Nat.pow_le_pow_right (by omega) (by omega))) S
  rw [← sub_mk] at e
  refine fn_rt (c := ⟨2, 2, c_minus⟩) (ts := [rT a, rT b]) g_minus rfl ?_ rfl
  show evalSs (FF (n + 2)) c_minus [some (rT a), some (rT b)] S = _
  have na := numOk_num ha (by omega)
  have nb := numOk_num hb (by omega)
  have da := numOk_den ha (by omega)
  have db := numOk_den hb (by omega)
  exact sg_ret (ev_call (ev_cons (t := .int (a.num * b.den - b.num * a.den)) (ev_bin (ev_bin (ev_num rfl) (ev_den rfl) (bo_mul _ _ na db)) (ev_bin (ev_num rfl) (ev_den rfl) (bo_mul _ _ nb da)) rfl) (ev_cons (t := .int ((a.den : Int) * b.den)) (ev_bin (ev_den rfl) (ev_den rfl) (bo_mul _ _ da db)) ev_nil)) e)
theorem times_ok (n : Nat) (a b : Rat) {i j : Nat} (ha : Sz a i) (hb : Sz b j) (hij : i + j ≤ 7000) (S : Store) : FF (n + 3) i_times [rT a, rT b] S = .ok (rT (a * b), S) := by
  have e := ratio_ok n (a.num * b.num) ((a.den : Int) * b.den) (dd_pos a b) (Nat.lt_of_lt_of_le (dd_abs ha hb) (Nat.pow_le_pow_right (by omega) (by omega))) S
  rw [← mul_mk] at e
  refine fn_rt (c := ⟨2, 2, c_times⟩) (ts := [rT a, rT b]) g_times rfl ?_ rfl
  show evalSs (FF (n + 2)) c_times [some (rT a), some (rT b)] S = _
  have na := numOk_num ha (by omega)
  have nb := numOk_num hb (by omega)
  have da := numOk_den ha (by omega)
  have db := numOk_den hb (by omega)
  exact sg_ret (ev_call (ev_cons (t := .int (a.num * b.num)) (ev_bin (ev_num rfl) (ev_num rfl) (bo_mul _ _ na nb)) (ev_cons (t := .int ((a.den : Int) * b.den)) (ev_bin (ev_den rfl) (ev_den rfl) (bo_mul _ _ da db)) ev_nil)) e)
theorem co_ltD (i j : Int) : cop .lt (.int i) (.int j) = some (decide (i < j)) := rfl
theorem lt_ev {F : Fns} {S : Store} (a b : Rat) {i j : Nat} (ha : Sz a i) (hb : Sz b j) (hij : i + j ≤ 7000) : evalE F [some (rT a), some (rT b)] (.cmp .lt (.bin .mul (.sub (.slot 0) (.cst (.int 0))) (.sub (.slot 1) (.cst (.int 1)))) (.bin .mul (.sub (.slot 1) (.cst (.int 0))) (.sub (.slot 0) (.cst (.int 1))))) S = .ok (.bl (decide (a < b)), S) := by
  have na := numOk_num ha (by omega)
  have nb := numOk_num hb (by omega)
  have da := numOk_den ha (by omega)
  have db := numOk_den hb (by omega)
  have : decide (a < b) = decide (a.num * b.den < b.num * a.den) := by
    have := Rat.lt_iff a b
    by_cases q : a < b
    · rw [decide_eq_true q, decide_eq_true (this.mp q)]
    · rw [decide_eq_false q, decide_eq_false (fun z => q (this.mpr z))]
  rw [this]
  exact ev_cmp (ev_bin (ev_num rfl) (ev_den rfl) (bo_mul _ _ na db)) (ev_bin (ev_num rfl) (ev_den rfl) (bo_mul _ _ nb da)) (co_ltD _ _)
theorem below_ok (n : Nat) (a b : Rat) {i j : Nat} (ha : Sz a i) (hb : Sz b j) (hij : i + j ≤ 7000) (S : Store) : FF (n + 1) i_below [rT a, rT b] S = .ok (.bl (decide (a < b)), S) :=
  fn_rt (c := ⟨2, 2, c_below⟩) (ts := [rT a, rT b]) g_below rfl (sg_ret (lt_ev a b ha hb hij)) rfl
theorem law_less_ok (n : Nat) (a b : Rat) {i j : Nat} (ha : Sz a i) (hb : Sz b j) (hij : i + j ≤ 7000) (S : Store) : FF (n + 1) i__law_less [rT a, rT b] S = .ok (.bl (decide (a < b)), S) :=
  fn_rt (c := ⟨2, 2, c__law_less⟩) (ts := [rT a, rT b]) g__law_less rfl (sg_ret (lt_ev a b ha hb hij)) rfl
/-! the law's own -/
theorem law_lowered_ok (n : Nat) (p d : Int) (hd : 0 < d) (h : d.natAbs < 2 ^ 900) (hp : p.natAbs < 2 ^ 8000) (S : Store) : FF (n + 1) i__law_lowered [.int p, .int d] S = .ok (rT (mkRat p d.toNat), S) := by
  have gp : (0 : Int) < (Int.gcd p d : Nat) := by have := gcd_pos (n := p) hd; omega
  have hd8 : d.natAbs < 2 ^ 8000 := Nat.lt_of_lt_of_le h (Nat.pow_le_pow_right (by omega) (by omega))
  have gn : numOk (Int.gcd p d : Nat) = true := numOk_lt (gcd_lt hd hd8) (by omega)
  have np : numOk p = true := numOk_lt hp (by omega)
  have nd : numOk d = true := numOk_lt hd8 (by omega)
  have n1 : numOk 1 = true := by decide +kernel
  rw [rT_mk hd]
  obtain ⟨t, S', e, rfl, rfl⟩ := fn_Rt (n := n) (f := i__law_lowered) (c := ⟨6, 2, c__law_lowered⟩) (ts := [.int p, .int d]) (S := S) (P := fun t S' => t = .tup [.int (p / (Int.gcd p d : Nat)), .int (d / (Int.gcd p d : Nat))] ∧ S' = S) g__law_lowered rfl (by
    show Wp (Rt _) (evalSs (FF n) c__law_lowered [some (.int p), some (.int d), none, none, none, none] S)
    dsimp only [c__law_lowered]
    have p1 := pr_absN p
    have p2 := pr_absN d
    refine wp_par (xs := [.int (p.natAbs : Nat), .int (d.natAbs : Nat)]) (ep_cons (ev_prim (ev_cons (t := .int p) (ev_slot rfl rfl) ev_nil) p1) (ep_cons (ev_prim (ev_cons (t := .int d) (ev_slot rfl rfl) ev_nil) p2) ep_nil)) rfl ?_
    refine wp_for (xs := rangeT 0 2000) (fun k ρ S' => S' = S ∧ ∃ (x y : Nat) (z : Option T), ρ = [some (.int p), some (.int d), some (.int x), some (.int y), z, none] ∧ es x y + k ≤ 1800 ∧ Nat.gcd x y = Int.gcd p d) (fun ρ S' => S' = S ∧ ∃ (y : Int) (z : Option T), ρ = [some (.int p), some (.int d), some (.int (Int.gcd p d : Nat)), some (.int y), z, none]) (it_rng1 (j := 2000) ev_cst (by omega)) ⟨rfl, _, _, _, rfl, by have := es_le 900 p.natAbs d.natAbs h; omega, rfl⟩ ?_ ?_ ?_
    · rintro k ρ S' hk ⟨rfl, x, y, z, rfl, he, hg⟩
      rw [rangeT_at]
      refine ⟨[some (.int p), some (.int d), some (.int x), some (.int y), some (.int (0 + (k : Int))), none], rfl, ?_⟩
      by_cases q : y = 0
      · subst q
        refine wp_if_t (ev_cmp (ev_slot rfl rfl) ev_cst (co_eq rfl)) ?_
        rw [Nat.gcd_zero_right] at hg
        exact wp_brk ⟨rfl, 0, _, by rw [hg]; rfl⟩
      · have em : bop .mod (.int x) (.int y) = some (.int ((x % y : Nat) : Int)) := by rw [bo_mod _ _ (by omega), mod_nat]
        refine wp_if_n (ev_cmp (ev_slot rfl rfl) ev_cst (co_eqf (by omega))) ?_
        refine wp_par (xs := [.int y, .int ((x % y : Nat) : Int)]) (ep_cons (t := .int y) (ev_slot rfl rfl) (ep_cons (ev_bin (ev_slot rfl rfl) (ev_slot rfl rfl) em) ep_nil)) rfl (wp_nil ?_)
        exact ⟨rfl, y, x % y, _, rfl, by rw [es_pos q] at he; omega, by rw [gcd_step, hg]⟩
    · rintro ρ S' ⟨rfl, y, z, rfl⟩
      refine wp_set (t := .int 1) (ev_ite_t (ev_cmp (ev_slot rfl rfl) ev_cst (co_gt hd)) ev_cst) rfl ?_
      refine wp_ret (t := .tup [.int (p / (Int.gcd p d : Nat)), .int (d / (Int.gcd p d : Nat))]) (ev_tup (ev_cons (t := .int (p / (Int.gcd p d : Nat))) (ev_bin (ev_bin (ev_slot rfl rfl) (ev_slot rfl rfl) (bo_mul 1 p n1 np)) (ev_slot rfl rfl) (by rw [Int.one_mul]; exact bo_fdiv _ _ gp gn)) (ev_cons (t := .int (d / (Int.gcd p d : Nat))) (ev_bin (ev_bin (ev_slot rfl rfl) (ev_slot rfl rfl) (bo_mul 1 d n1 nd)) (ev_slot rfl rfl) (by rw [Int.one_mul]; exact bo_fdiv _ _ gp gn)) ev_nil))) ⟨_, _, rfl, rfl, rfl, rfl⟩
    · rintro ρ S' ⟨rfl, x, y, z, rfl, he, hg⟩
      rw [rangeT_len] at he
      omega)
  exact e
theorem law_plus_ok (n : Nat) (a b : Rat) {i j : Nat} (ha : Sz a i) (hb : Sz b j) (hij : i + j ≤ 900) (S : Store) : FF (n + 2) i__law_plus [rT a, rT b] S = .ok (rT (a + b), S) := by
  have big : ∀ {z k : Nat}, z < 2 ^ k → k ≤ 8000 → z < 2 ^ 8000 := fun h hk => Nat.lt_of_lt_of_le h (Nat.pow_le_pow_right (by omega) hk)
  have hnum : (a.num * b.den + b.num * a.den).natAbs < 2 ^ (i + j + 1) := add_abs (mul_abs ha.1 (by rw [den_abs]; exact hb.2)) (by
    rw [Nat.add_comm i j]
    exact mul_abs hb.1 (by rw [den_abs]; exact ha.2))
  have e := law_lowered_ok n (a.num * b.den + b.num * a.den) ((a.den : Int) * b.den) (dd_pos a b) (Nat.lt_of_lt_of_le (dd_abs ha hb) (Nat.pow_le_pow_right (by omega) (by omega))) (big hnum (by omega)) S
  rw [← add_mk] at e
  refine fn_rt (c := ⟨2, 2, c__law_plus⟩) (ts := [rT a, rT b]) g__law_plus rfl ?_ rfl
  show evalSs (FF (n + 1)) c__law_plus [some (rT a), some (rT b)] S = _
  have na := numOk_num ha (by omega)
  have nb := numOk_num hb (by omega)
  have da := numOk_den ha (by omega)
  have db := numOk_den hb (by omega)
  exact sg_ret (ev_call (ev_cons (t := .int (a.num * b.den + b.num * a.den)) (ev_bin (ev_bin (ev_num rfl) (ev_den rfl) (bo_mul _ _ na db)) (ev_bin (ev_num rfl) (ev_den rfl) (bo_mul _ _ nb da)) rfl) (ev_cons (t := .int ((a.den : Int) * b.den)) (ev_bin (ev_den rfl) (ev_den rfl) (bo_mul _ _ da db)) ev_nil)) e)
theorem law_times_ok (n : Nat) (a b : Rat) {i j : Nat} (ha : Sz a i) (hb : Sz b j) (hij : i + j ≤ 900) (S : Store) : FF (n + 2) i__law_times [rT a, rT b] S = .ok (rT (a * b), S) := by
  have e := law_lowered_ok n (a.num * b.num) ((a.den : Int) * b.den) (dd_pos a b) (Nat.lt_of_lt_of_le (dd_abs ha hb) (Nat.pow_le_pow_right (by omega) (by omega))) (Nat.lt_of_lt_of_le (mul_abs ha.1 hb.1) (Nat.pow_le_pow_right (by omega) (by omega))) S
  rw [← mul_mk] at e
  refine fn_rt (c := ⟨2, 2, c__law_times⟩) (ts := [rT a, rT b]) g__law_times rfl ?_ rfl
  show evalSs (FF (n + 1)) c__law_times [some (rT a), some (rT b)] S = _
  have na := numOk_num ha (by omega)
  have nb := numOk_num hb (by omega)
  have da := numOk_den ha (by omega)
  have db := numOk_den hb (by omega)
  exact sg_ret (ev_call (ev_cons (t := .int (a.num * b.num)) (ev_bin (ev_num rfl) (ev_num rfl) (bo_mul _ _ na nb)) (ev_cons (t := .int ((a.den : Int) * b.den)) (ev_bin (ev_den rfl) (ev_den rfl) (bo_mul _ _ da db)) ev_nil)) e)

/-! k39: the law -/
theorem rep_one (x : T) (m : Nat) : rep [x] (m : Int) = List.replicate m x := by
  unfold rep
  rw [Int.toNat_natCast]
  simp
theorem mul_one' (x : T) (m : Nat) (h : m ≤ 1000) : bop .mul (.tup [x]) (.int (m : Int)) = some (.tup (List.replicate m x)) := by
  have hr : repOk [x] (m : Int) = true := by simp [repOk, szOk]; omega
  have hm : ((m : Int) ≤ 1000) := by omega
  show (if repOk [x] (m : Int) && decide ((m : Int) ≤ 1000) && decide (([x] : List T).length ≤ 1000) then some (T.tup (rep [x] (m : Int))) else none) = _
  rw [hr, rep_one]
  simp [hm]

theorem cut_last (L : List Int) (m : Nat) (h : L.length = m) (h1 : 1 ≤ m) : slice (ti L) none (some (-1)) = some (ti (L.take (m - 1))) := by
  show some (T.tup (cut (L.map T.int) none (some (-1)))) = _
  unfold ti cut
  have q0 : HT.sIx (L.map T.int).length 0 none = 0 := rfl
  have q1 : HT.sIx (L.map T.int).length (L.map T.int).length (some (-1)) = m - 1 := by
    rw [List.length_map, h]
    unfold HT.sIx
    simp
    omega
  rw [q0, q1, List.drop_zero, Nat.sub_zero, List.map_take]
theorem at_last (L : List Int) (m : Nat) (h : L.length = m) (h1 : 1 ≤ m) : L2.atI (L.map T.int) (-1) = some (.int (gi L (m - 1))) := by
  have e : L2.ixN (L.map T.int).length (-1) = some (m - 1) := by
    unfold L2.ixN
    rw [List.length_map, h, if_neg (by omega), if_pos (by omega)]
    congr 1
    omega
  unfold L2.atI
  rw [e]
  show (L.map T.int)[m - 1]? = _
  rw [List.getElem?_map, List.getElem?_eq_getElem (by omega), gi_eq (by omega)]
  rfl

/-! alike with itself: tuples of anything -/
theorem alike_tup {n : Nat} {xs : List T} {S : Store} (hl : xs.length ≤ 1000) (h : ∀ x ∈ xs, x.isOwn = false ∧ FF n i__law_alike [x, x] S = .ok (.bl true, S)) : FF (n + 1) i__law_alike [.tup xs, .tup xs] S = .ok (.bl true, S) := by
  refine fn_rt (c := ⟨3, 2, c__law_alike⟩) (ts := [.tup xs, .tup xs]) g__law_alike rfl ?_ rfl
  show evalSs (FF n) c__law_alike [some (.tup xs), some (.tup xs), none] S = _
  dsimp only [c__law_alike]
  have i0 : ∀ (i : Nat) (ts : List Ty) (b : Bool), i < 2 → ts.any (isA .tuple) = b → evalE (FF n) [some (.tup xs), some (.tup xs), none] (.isinst (.slot i) ts) S = .ok (.bl b, S) := fun i ts b hi hb => ev_isinst (x := .tup xs) (y := .tuple) (ev_slot (by match i, hi with | 0, _ => rfl | 1, _ => rfl) rfl) rfl hb
  have e1 : cop .ne (.bl false) (.bl false) = some false := by decide
  have e2 : cop .eq (.own []) (.own []) = some true := by decide
  refine sg_if_t (i0 1 [.tuple, .list] true (by omega) rfl) ?_
  dsimp only [List.cons_append, List.nil_append]
  refine sg_if_n (ev_or_f (ev_not (b := true) (i0 0 _ true (by omega) rfl)) (ev_cmp (i0 0 [.list] false (by omega) rfl) (i0 1 [.list] false (by omega) rfl) e1)) ?_
  refine sg_if_n (ev_cmp (x := .int xs.length) (y := .int xs.length) (ev_prim (ev_cons (t := .tup xs) (ev_slot rfl rfl) ev_nil) rfl) (ev_prim (ev_cons (t := .tup xs) (ev_slot rfl rfl) ev_nil) rfl) (co_nef rfl)) ?_
  refine sg_ret (ev_cmp (ev_emptyN (z := xs.length) (ev_prim (ev_cons (t := .tup xs) (ev_slot rfl rfl) ev_nil) rfl) (by omega) (fun i hi => ?_)) (ev_lst ev_nil) e2)
  have hi' : i < xs.length := by omega
  obtain ⟨o, e⟩ := h _ (List.getElem_mem hi')
  have ts : sub (deref S (.tup xs)) (.int i) = some xs[i] := by
    have e2 : L2.ixN xs.length (i : Int) = some i := by
      unfold L2.ixN
      rw [if_pos (by omega), if_pos (by omega)]
      simp
    show L2.atI xs i = _
    unfold L2.atI
    rw [e2]
    exact List.getElem?_eq_getElem hi'
  have v := vw_of o
  have e' : FF n i__law_alike [xs[i].view, xs[i].view] S = .ok (.bl true, S) := by rw [v]; exact e
  exact ev_not (b := true) (ev_call (ev_cons (ev_sub (ev_slot rfl rfl) (ev_slot rfl rfl) ts) (ev_cons (ev_sub (ev_slot rfl rfl) (ev_slot rfl rfl) ts) ev_nil)) e')
theorem alike_i (n : Nat) (a : Int) (S : Store) : FF (n + 1) i__law_alike [.int a, .int a] S = .ok (.bl true, S) := by
  unfold FF
  rw [call_eq g__law_alike rfl]
  simp [c__law_alike, isA, close]
theorem alike_tiN (n : Nat) (L : List Int) (hb : L.length ≤ 1000) (S : Store) : FF (n + 2) i__law_alike [ti L, ti L] S = .ok (.bl true, S) :=
  alike_tup (by rw [List.length_map]; exact hb) fun x hx => by
    obtain ⟨i, _, rfl⟩ := List.mem_map.mp hx
    exact ⟨rfl, alike_i n i S⟩
theorem alike_non (n : Nat) (S : Store) : FF (n + 1) i__law_alike [.non, .non] S = .ok (.bl true, S) := by
  have e : cop .eq .non .non = some true := by decide
  have e3 : cop .eq (.bl false) (.bl false) = some true := by decide
  refine fn_rt (c := ⟨3, 2, c__law_alike⟩) (ts := [.non, .non]) g__law_alike rfl ?_ rfl
  show evalSs (FF n) c__law_alike [some .non, some .non, none] S = _
  dsimp only [c__law_alike]
  have i0 : ∀ (i : Nat) (ts : List Ty), i < 2 → ts.any (isA .nonT) = false → evalE (FF n) [some .non, some .non, none] (.isinst (.slot i) ts) S = .ok (.bl false, S) := fun i ts hi hb => ev_isinst (x := .non) (y := .nonT) (ev_slot (by match i, hi with | 0, _ => rfl | 1, _ => rfl) rfl) rfl hb
  refine sg_if_n (i0 1 _ (by omega) rfl) ?_
  refine sg_if_t (ev_or_t (ev_isN (t := .non) (ev_slot rfl rfl) rfl)) ?_
  exact sg_ret (ev_and_t (ev_cmp (x := .non) (y := .non) (ev_slot rfl rfl) (ev_slot rfl rfl) e) (ev_cmp (i0 0 _ (by omega) rfl) (i0 1 _ (by omega) rfl) e3))
theorem alike_b (n : Nat) (a : Bool) (S : Store) : FF (n + 1) i__law_alike [.bl a, .bl a] S = .ok (.bl true, S) := by
  unfold FF
  rw [call_eq g__law_alike rfl]
  have c : cop .eq (.bl a) (.bl a) = some true := by cases a <;> rfl
  have c2 : cop .eq (.bl true) (.bl true) = some true := rfl
  simp [c__law_alike, isA, close, c, c2]

theorem alike_rT (n : Nat) (r : Rat) (S : Store) : FF (n + 2) i__law_alike [rT r, rT r] S = .ok (.bl true, S) := alike_tiN n [r.num, r.den] (by simp) S

/-! falling order -/
theorem ltle {a b c : Rat} (h : a ≤ b) (h2 : b < c) : a < c := Rat.not_le.mp fun z => absurd (Rat.le_trans z h) (Rat.not_le.mpr h2)
def pl (F : List Rat) (r : Rat) : Nat := (F.filter fun x => !decide (x < r)).length
def insR (F : List Rat) (r : Rat) : List Rat := F.take (pl F r) ++ [r] ++ F.drop (pl F r)
def fall (L : List Rat) : List Rat := L.foldl insR []
def Desc (F : List Rat) : Prop := F.Pairwise fun a b => b ≤ a
theorem pl_le (F : List Rat) (r : Rat) : pl F r ≤ F.length := List.length_filter_le _ _
theorem insR_perm (F : List Rat) (r : Rat) : (insR F r).Perm (r :: F) := by
  unfold insR
  rw [List.append_assoc]
  have h := @List.perm_middle _ r (F.take (pl F r)) (F.drop (pl F r))
  rw [List.take_append_drop] at h
  exact h
theorem desc_pl : ∀ {F : List Rat}, Desc F → ∀ (r : Rat) (i : Nat) (hi : i < F.length), F[i] < r ↔ pl F r ≤ i
  | [], _, r, i, hi => absurd hi (by simp)
  | x :: F, h, r, i, hi => by
    have hp := List.pairwise_cons.mp h
    by_cases q : x < r
    · have z : pl (x :: F) r = 0 := by
        unfold pl
        rw [List.length_eq_zero_iff, List.filter_eq_nil_iff]
        intro y hy
        have : y < r := by
          rcases List.mem_cons.mp hy with rfl | hy
          · exact q
          · exact ltle (hp.1 y hy) q
        simp [this]
      rw [z]
      refine ⟨fun _ => Nat.zero_le _, fun _ => ?_⟩
      cases i with
      | zero => exact q
      | succ i => exact ltle (hp.1 _ (List.getElem_mem _)) q
    · have z : pl (x :: F) r = pl F r + 1 := by
        unfold pl
        rw [List.filter_cons_of_pos (by simp [q])]
        rfl
      rw [z]
      cases i with
      | zero => exact ⟨fun w => absurd w q, fun w => absurd w (by omega)⟩
      | succ i =>
        rw [List.length_cons] at hi
        have := desc_pl hp.2 r i (by omega)
        rw [List.getElem_cons_succ, this]
        omega
theorem insR_desc {F : List Rat} (h : Desc F) (r : Rat) : Desc (insR F r) := by
  have hd : (F.take (pl F r) ++ F.drop (pl F r)).Pairwise fun a b => b ≤ a := by rw [List.take_append_drop]; exact h
  obtain ⟨h1, h2, h3⟩ := List.pairwise_append.mp hd
  have t1 : ∀ x ∈ F.take (pl F r), r ≤ x := fun x hx => by
    obtain ⟨i, hi, rfl⟩ := List.getElem_of_mem hx
    rw [List.length_take] at hi
    rw [List.getElem_take]
    have := desc_pl h r i (by omega)
    refine Rat.not_lt.mp fun z => ?_
    have := this.mp z
    omega
  have t2 : ∀ x ∈ F.drop (pl F r), x ≤ r := fun x hx => by
    obtain ⟨i, hi, rfl⟩ := List.getElem_of_mem hx
    rw [List.length_drop] at hi
    rw [List.getElem_drop]
    exact Rat.le_of_lt ((desc_pl h r _ (by omega)).mpr (by omega))
  unfold insR
  show List.Pairwise _ _
  rw [List.append_assoc]
  refine List.pairwise_append.mpr ⟨h1, List.pairwise_cons.mpr ⟨t2, h2⟩, fun a ha b hb => ?_⟩
  rcases List.mem_cons.mp hb with rfl | hb
  · exact t1 a ha
  · exact h3 a ha b hb
theorem fallD : ∀ (L : List Rat) {F : List Rat}, Desc F → Desc (L.foldl insR F)
  | [], _, h => h
  | r :: L, _, h => fallD L (insR_desc h r)
theorem fallP : ∀ (L : List Rat) (F : List Rat), (L.foldl insR F).Perm (F ++ L)
  | [], F => by rw [List.append_nil]; exact .refl _
  | r :: L, F => ((fallP L (insR F r)).trans ((insR_perm F r).append_right L)).trans List.perm_middle.symm
theorem fall_desc (L : List Rat) : Desc (fall L) := fallD L List.Pairwise.nil
theorem fall_perm (L : List Rat) : (fall L).Perm L := fallP L []
theorem fall_len (L : List Rat) : (fall L).length = L.length := (fall_perm L).length_eq
theorem fall_eq {L M : List Rat} (h : L.Perm M) : fall L = fall M :=
  List.Perm.eq_of_pairwise (le := fun a b : Rat => b ≤ a) (fun a b _ _ x y => Rat.le_antisymm y x) (fall_desc L) (fall_desc M) ((fall_perm L).trans (h.trans (fall_perm M).symm))
/-! sums -/
def sumR (L : List Rat) : Rat := L.foldl (· + ·) 0
theorem sumR_from : ∀ (L : List Rat) (a : Rat), L.foldl (· + ·) a = a + sumR L
  | [], a => by show a = a + 0; rw [Rat.add_zero]
  | r :: L, a => by
    show L.foldl (· + ·) (a + r) = a + L.foldl (· + ·) (0 + r)
    rw [sumR_from L (a + r), sumR_from L (0 + r), Rat.zero_add, Rat.add_assoc]
theorem sumR_cons (r : Rat) (L : List Rat) : sumR (r :: L) = r + sumR L := by
  show L.foldl (· + ·) (0 + r) = _
  rw [sumR_from, Rat.zero_add]
theorem sumR_perm {L M : List Rat} (h : L.Perm M) : sumR L = sumR M := by
  induction h with
  | nil => rfl
  | cons x _ ih => rw [sumR_cons, sumR_cons, ih]
  | swap x y l => rw [sumR_cons, sumR_cons, sumR_cons, sumR_cons, ← Rat.add_assoc, ← Rat.add_assoc, Rat.add_comm y x]
  | trans _ _ h1 h2 => rw [h1, h2]
def gr (L : List Rat) (i : Nat) : Rat := L.getD i 0
theorem gr_eq {L : List Rat} {i : Nat} (h : i < L.length) : gr L i = L[i] := by
  unfold gr
  rw [List.getD_eq_getElem?_getD, List.getElem?_eq_getElem h]
  rfl
theorem sumR_set : ∀ {L : List Rat} {i : Nat} (d : Rat), i < L.length → sumR (L.set i (gr L i + d)) = sumR L + d
  | x :: L, 0, d, _ => by
    show sumR ((x + d) :: L) = _
    rw [sumR_cons, sumR_cons, Rat.add_assoc, Rat.add_assoc, Rat.add_comm d]
  | x :: L, i + 1, d, h => by
    show sumR (x :: L.set i (gr L i + d)) = _
    rw [sumR_cons, sumR_cons, sumR_set d (by simpa using h), Rat.add_assoc]
/-- a transfer -/
def tr (N : List Rat) (a b : Nat) (s : Rat) : List Rat :=
  let M := N.set a (gr N a - s)
  M.set b (gr M b + s)
theorem tr_len (N : List Rat) (a b : Nat) (s : Rat) : (tr N a b s).length = N.length := by simp [tr]
theorem sumR_tr {N : List Rat} {a b : Nat} (s : Rat) (ha : a < N.length) (hb : b < N.length) : sumR (tr N a b s) = sumR N := by
  unfold tr
  dsimp only
  rw [sumR_set s (by rw [List.length_set]; exact hb), Rat.sub_eq_add_neg, sumR_set (-s) ha, Rat.add_assoc, Rat.add_comm (-s), ← Rat.sub_eq_add_neg, Rat.sub_self, Rat.add_zero]
theorem tr_ne {N : List Rat} {a b : Nat} (s : Rat) (h : a ≠ b) : tr N a b s = (N.set a (gr N a - s)).set b (gr N b + s) := by
  unfold tr
  dsimp only
  congr 2
  unfold gr
  simp only [List.getD_eq_getElem?_getD, List.getElem?_set_ne h]
/-- whether there is enough for a transfer -/
def okT (N : List Rat) (a b : Nat) (s : Rat) : Bool := !decide (gr N a - gr N b < s)
theorem okT_ne {N : List Rat} {a b : Nat} {s : Rat} (hs : 0 < s) (h : okT N a b s = true) : a ≠ b := by
  rintro rfl
  unfold okT at h
  rw [Rat.sub_self, decide_eq_true hs] at h
  cases h
/-- transfers, one after another -/
def trs (N : List Rat) (X : List (Nat × Nat × Rat)) : List Rat := X.foldl (fun N x => tr N x.1 x.2.1 x.2.2) N
def okTs : List Rat → List (Nat × Nat × Rat) → Bool
  | _, [] => true
  | N, x :: X => okT N x.1 x.2.1 x.2.2 && okTs (tr N x.1 x.2.1 x.2.2) X
theorem trs_snoc (N : List Rat) (X : List (Nat × Nat × Rat)) (x : Nat × Nat × Rat) : trs N (X ++ [x]) = tr (trs N X) x.1 x.2.1 x.2.2 := by
  unfold trs
  rw [List.foldl_append]
  rfl
theorem okTs_snoc : ∀ (N : List Rat) (X : List (Nat × Nat × Rat)) (x : Nat × Nat × Rat), okTs N (X ++ [x]) = (okTs N X && okT (trs N X) x.1 x.2.1 x.2.2)
  | N, [], x => by simp [okTs, trs]
  | N, y :: X, x => by
    show (okT N y.1 y.2.1 y.2.2 && okTs (tr N y.1 y.2.1 y.2.2) (X ++ [x])) = _
    rw [okTs_snoc _ X x, ← Bool.and_assoc]
    rfl
def trT (x : Nat × Nat × Rat) : T := .tup [.int x.1, .int x.2.1, rT x.2.2]
structure TrOk (n : Nat) (x : Nat × Nat × Rat) : Prop where
  a : x.1 < n
  b : x.2.1 < n
  p : 0 < x.2.2
  z : Sz x.2.2 4
theorem trs_len (X : List (Nat × Nat × Rat)) : ∀ (N : List Rat), (trs N X).length = N.length := by
  induction X with
  | nil => exact fun _ => rfl
  | cons x X ih => exact fun N => (ih _).trans (tr_len _ _ _ _)
theorem sumR_trs {n : Nat} : ∀ {X : List (Nat × Nat × Rat)} {N : List Rat}, N.length = n → (∀ x ∈ X, TrOk n x) → sumR (trs N X) = sumR N
  | [], _, _, _ => rfl
  | x :: X, N, hn, h => by
    have hx := h x List.mem_cons_self
    show sumR (trs (tr N x.1 x.2.1 x.2.2) X) = _
    rw [sumR_trs (by rw [tr_len]; exact hn) (fun y hy => h y (List.mem_cons_of_mem _ hy)), sumR_tr _ (by rw [hn]; exact hx.a) (by rw [hn]; exact hx.b)]
def SzL (L : List Rat) (k : Nat) : Prop := ∀ r ∈ L, Sz r k
theorem SzL.mono {L : List Rat} {i j : Nat} (h : SzL L i) (hij : i ≤ j) : SzL L j := fun r hr => (h r hr).mono hij
theorem SzL.gr {L : List Rat} {k : Nat} (h : SzL L k) {i : Nat} (hi : i < L.length) : Sz (gr L i) k := by
  rw [gr_eq hi]
  exact h _ (List.getElem_mem hi)
theorem SzL.set {L : List Rat} {k : Nat} (h : SzL L k) {i : Nat} {r : Rat} (hr : Sz r k) : SzL (L.set i r) k := fun x hx => by
  rcases List.mem_or_eq_of_mem_set hx with z | rfl
  · exact h x z
  · exact hr
theorem SzL.tr {N : List Rat} {k n : Nat} (h : SzL N k) (hn : N.length = n) {x : Nat × Nat × Rat} (hx : TrOk n x) : SzL (tr N x.1 x.2.1 x.2.2) (k + 10) := by
  have h1 : SzL (N.set x.1 (Lw.gr N x.1 - x.2.2)) (k + 5) := (h.mono (by omega)).set ((SzL.gr h (by rw [hn]; exact hx.a)).sub hx.z)
  exact (h1.mono (by omega)).set ((SzL.gr h1 (by rw [List.length_set, hn]; exact hx.b)).add hx.z)
theorem SzL.trs {n : Nat} : ∀ {X : List (Nat × Nat × Rat)} {N : List Rat} {k : Nat}, SzL N k → N.length = n → (∀ x ∈ X, TrOk n x) → SzL (trs N X) (k + 10 * X.length)
  | [], _, _, h, _, _ => h
  | x :: X, N, k, h, hn, hX => by
    have := SzL.trs (X := X) (h.tr hn (hX x List.mem_cons_self)) (by rw [tr_len]; exact hn) (fun y hy => hX y (List.mem_cons_of_mem _ hy))
    exact this.mono (by rw [List.length_cons]; omega)
theorem SzL.perm {L M : List Rat} {k : Nat} (h : SzL L k) (p : M.Perm L) : SzL M k := fun r hr => h r (p.mem_iff.mp hr)
def rTs (L : List Rat) : List T := L.map rT
theorem rT_injF {a b : Rat} (h : rT a = rT b) : a = b := by
  unfold rT at h
  have h1 : a.num = b.num := by injection h with h; injection h with h h2; injection h
  have h2 : (a.den : Int) = b.den := by injection h with h; injection h with h h2; injection h2 with h2; injection h2
  exact Rat.ext h1 (by omega)
theorem rTs_inj {L M : List Rat} (h : rTs L = rTs M) : L = M := List.map_inj_right (fun _ _ => rT_injF) |>.mp h

/-! mixing: plain facts -/
def ceilR (b : Rat) : Int := -((-b.num) / (b.den : Int))
theorem div_floor (a : Rat) : a.num / (a.den : Int) = a.floor := by
  unfold Rat.floor
  split
  · rename_i h
    rw [h]
    simp
  · rfl
theorem ceilR_floor (b : Rat) : ceilR b = -(-b).floor := by
  unfold ceilR
  rw [← div_floor, Rat.neg_num, Rat.neg_den]
theorem ceilR_le (b : Rat) : b ≤ (ceilR b : Rat) := by
  have h := Rat.floor_le (-b)
  have e : ((ceilR b : Int) : Rat) = -((-b).floor : Rat) := by rw [ceilR_floor]; exact Rat.intCast_neg _
  rw [e]
  grind
theorem ceilR_gt (b : Rat) : (ceilR b : Rat) < b + 1 := by
  have h := @Rat.lt_floor (-b)
  have e : ((ceilR b : Int) : Rat) = -((-b).floor : Rat) := by rw [ceilR_floor]; exact Rat.intCast_neg _
  rw [e]
  grind
theorem ceilR_least {b : Rat} {z : Int} (h : b ≤ (z : Rat)) : ceilR b ≤ z := by
  have h1 : ((-z : Int) : Rat) ≤ -b := by rw [Rat.intCast_neg]; grind
  have := Rat.le_floor_iff.mpr h1
  rw [ceilR_floor]
  omega
def prt (b : Rat) : Rat := b - ((ceilR b - 1 : Int) : Rat)
theorem cast_pred (z : Int) : ((z - 1 : Int) : Rat) = (z : Rat) - 1 := by
  rw [Rat.intCast_sub]
  rfl
theorem prt_pos (b : Rat) : 0 < prt b := by
  unfold prt
  have := ceilR_gt b
  rw [cast_pred]
  grind
theorem prt_le (b : Rat) : prt b ≤ 1 := by
  unfold prt
  have := ceilR_le b
  rw [cast_pred]
  grind
theorem prt_eq (b : Rat) : b = ((ceilR b : Int) : Rat) - 1 + prt b := by
  unfold prt
  rw [cast_pred]
  grind
theorem int_lt {a b : Int} (h : (a : Rat) < (b : Rat)) : a < b := by exact_mod_cast h
theorem int_le {a b : Int} (h : a ≤ b) : (a : Rat) ≤ (b : Rat) := by exact_mod_cast h
/-- what a row asks for -/
def askL (k c x : Nat → Rat) : List Nat → Rat → Rat
  | [], _ => 0
  | p :: L, l => (k p - l) * (c p - x p) + askL k c x L (k p)
def lastK (k : Nat → Rat) : List Nat → Rat → Rat
  | [], l => l
  | p :: L, _ => lastK k L (k p)
/-- ascending from l on -/
def AscK (k : Nat → Rat) : List Nat → Rat → Prop
  | [], _ => True
  | p :: L, l => l ≤ k p ∧ AscK k L (k p)
theorem lastK_ge {k : Nat → Rat} : ∀ {L : List Nat} {l : Rat}, AscK k L l → l ≤ lastK k L l
  | [], _, _ => Rat.le_refl
  | p :: L, l, h => Rat.le_trans h.1 (lastK_ge h.2)
theorem lastK_le {k : Nat → Rat} : ∀ {L : List Nat} {l : Rat}, (∀ p ∈ L, k p ≤ 1) → l ≤ 1 → lastK k L l ≤ 1
  | [], _, _, h => h
  | p :: L, l, h, _ => by
    show lastK k L (k p) ≤ 1
    exact lastK_le (fun q hq => h q (List.mem_cons_of_mem _ hq)) (h p List.mem_cons_self)
section
variable {k c x : Nat → Rat} {m r : Rat}
theorem ask_low (hi : ∀ p, r < k p → c p - x p ≤ m) : ∀ {L : List Nat} {l : Rat}, AscK k L l → r ≤ l → (∀ p ∈ L, r < k p) → askL k c x L l ≤ m * (lastK k L l - l)
  | [], l, _, _, _ => by
    show (0 : Rat) ≤ m * (l - l)
    grind
  | p :: L, l, h, hl, hr => by
    have kp := hr p List.mem_cons_self
    have ih := ask_low hi (L := L) (l := k p) h.2 (by grind) fun q hq => hr q (List.mem_cons_of_mem _ hq)
    have h1 := Rat.mul_le_mul_of_nonneg_left (hi p kp) (show 0 ≤ k p - l by have := h.1; grind)
    show (k p - l) * (c p - x p) + askL k c x L (k p) ≤ m * (lastK k L (k p) - l)
    grind
theorem ask_le (lo : ∀ p, k p ≤ r → c p - x p ≤ m + 1) (hi : ∀ p, r < k p → c p - x p ≤ m) : ∀ {L : List Nat} {l : Rat}, AscK k L l → l ≤ r → askL k c x L l ≤ m * (lastK k L l - l) + (r - l)
  | [], l, _, h => by
    show (0 : Rat) ≤ m * (l - l) + (r - l)
    grind
  | p :: L, l, h, hl => by
    show (k p - l) * (c p - x p) + askL k c x L (k p) ≤ m * (lastK k L (k p) - l) + (r - l)
    have kl : 0 ≤ k p - l := by have := h.1; grind
    by_cases z : k p ≤ r
    · have ih := ask_le lo hi h.2 z
      have h1 := Rat.mul_le_mul_of_nonneg_left (lo p z) kl
      grind
    · have z := Rat.not_le.mp z
      have all : ∀ q ∈ L, r < k q := by
        have : ∀ {L : List Nat} {l : Rat}, AscK k L l → r < l → ∀ q ∈ L, r < k q := by
          intro L
          induction L with
          | nil => intro l _ _ q hq; cases hq
          | cons a L ih =>
            intro l h hl q hq
            have ra : r < k a := by have := h.1; grind
            rcases List.mem_cons.mp hq with e | hq
            · rw [e]; exact ra
            · exact ih h.2 ra q hq
        exact this h.2 z
      have ih := ask_low hi h.2 (by grind) all
      have h1 := Rat.mul_le_mul_of_nonneg_left (hi p z) kl
      grind
end
/-- a rest and whole numbers of lots meet all rows -/
theorem row_holds {b : Nat → Rat} {x : Nat → Int} {s : Rat} (s0 : 0 ≤ s) (hx : ∀ p, b p ≤ s + (x p : Rat)) {L : List Nat} (asc : AscK (fun p => prt (b p)) L 0) :
    askL (fun p => prt (b p)) (fun p => (ceilR (b p) : Rat)) (fun p => (x p : Rat)) L 0 ≤ s ∧ ∀ p L', L = p :: L' → askL (fun p => prt (b p)) (fun p => (ceilR (b p) : Rat)) (fun p => (x p : Rat)) L 0 + (1 - lastK (fun p => prt (b p)) L 0) * ((ceilR (b p) : Rat) - 1 - (x p : Rat)) ≤ s := by
  have m0 : (0 : Int) ≤ s.floor := Rat.le_floor_iff.mpr s0
  have m0 : (0 : Rat) ≤ (s.floor : Rat) := int_le m0
  have r0 := Rat.floor_le s
  have r1 := @Rat.lt_floor s
  have key : ∀ p, prt (b p) ≤ s - (s.floor : Rat) → (ceilR (b p) : Rat) - (x p : Rat) ≤ (s.floor : Rat) + 1 := fun p h => by
    have e := prt_eq (b p)
    have hp := hx p
    have f0 := prt_pos (b p)
    have : ((ceilR (b p) - x p : Int) : Rat) < ((s.floor + 2 : Int) : Rat) := by
      rw [Rat.intCast_sub, Rat.intCast_add]
      show _ < (s.floor : Rat) + 2
      grind
    have := int_lt this
    have := int_le (show ceilR (b p) - x p ≤ s.floor + 1 by omega)
    rw [Rat.intCast_sub, Rat.intCast_add] at this
    exact this
  have key2 : ∀ p, s - (s.floor : Rat) < prt (b p) → (ceilR (b p) : Rat) - (x p : Rat) ≤ (s.floor : Rat) := fun p h => by
    have e := prt_eq (b p)
    have hp := hx p
    have : ((ceilR (b p) - x p : Int) : Rat) < ((s.floor + 1 : Int) : Rat) := by
      rw [Rat.intCast_sub, Rat.intCast_add]
      show _ < (s.floor : Rat) + 1
      grind
    have := int_lt this
    have := int_le (show ceilR (b p) - x p ≤ s.floor by omega)
    rw [Rat.intCast_sub] at this
    exact this
  obtain ⟨m, hm⟩ : ∃ m : Rat, m = (s.floor : Rat) := ⟨_, rfl⟩
  rw [← hm] at m0 r0 r1 key key2
  have e1 : lastK (fun p => prt (b p)) L 0 ≤ 1 := lastK_le (fun p _ => prt_le (b p)) (by decide)
  have e0 := lastK_ge asc
  have h1 := ask_le (k := fun p => prt (b p)) (c := fun p => (ceilR (b p) : Rat)) (x := fun p => (x p : Rat)) (m := m) (r := s - m) key key2 asc (by grind)
  obtain ⟨e, he⟩ : ∃ e, e = lastK (fun p => prt (b p)) L 0 := ⟨_, rfl⟩
  rw [← he] at e1 e0 h1
  have me : m * e ≤ m := by
    have := Rat.mul_le_mul_of_nonneg_left e1 m0
    grind
  refine ⟨by grind, fun p L' hL => ?_⟩
  rw [← he]
  by_cases z : prt (b p) ≤ s - m
  · have h2 := key p z
    have h3 := Rat.mul_le_mul_of_nonneg_left (show (ceilR (b p) : Rat) - 1 - (x p : Rat) ≤ m by grind) (show 0 ≤ 1 - e by grind)
    grind
  · have z := Rat.not_le.mp z
    have h2 := key2 p z
    subst hL
    have a2 : AscK (fun p => prt (b p)) L' (prt (b p)) := asc.2
    have all : ∀ q ∈ p :: L', s - m < prt (b q) := by
      have : ∀ {L : List Nat} {l : Rat}, AscK (fun p => prt (b p)) L l → s - m < l → ∀ q ∈ L, s - m < prt (b q) := by
        intro L
        induction L with
        | nil => intro l _ _ q hq; cases hq
        | cons a L ih =>
          intro l h hl q hq
          have ra : s - m < prt (b a) := by have := h.1; grind
          rcases List.mem_cons.mp hq with e | hq
          · rw [e]; exact ra
          · exact ih h.2 ra q hq
      intro q hq
      rcases List.mem_cons.mp hq with e | hq
      · rw [e]; exact z
      · exact this a2 z q hq
    have h4 := ask_low (k := fun p => prt (b p)) (c := fun p => (ceilR (b p) : Rat)) (x := fun p => (x p : Rat)) (m := m) (r := s - m) key2 (L := L') (l := prt (b p)) a2 (by grind) fun q hq => all q (List.mem_cons_of_mem _ hq)
    have h5 := Rat.mul_le_mul_of_nonneg_left h2 (show 0 ≤ prt (b p) by have := prt_pos (b p); grind)
    have h6 := Rat.mul_le_mul_of_nonneg_left (show (ceilR (b p) : Rat) - 1 - (x p : Rat) ≤ m - 1 by grind) (show 0 ≤ 1 - e by grind)
    have eL : lastK (fun p => prt (b p)) L' (prt (b p)) = e := he.symm
    rw [eL] at h4
    show (prt (b p) - 0) * ((ceilR (b p) : Rat) - (x p : Rat)) + askL (fun p => prt (b p)) (fun p => (ceilR (b p) : Rat)) (fun p => (x p : Rat)) L' (prt (b p)) + _ ≤ s
    grind

/-! amounts: walks -/
theorem cut_fromL (xs : List T) (k : Nat) (h : k ≤ xs.length) : slice (.lst xs) (some (k : Int)) none = some (.own (xs.drop k)) := by
  have := cut_fromT xs k h
  show some (T.own (cut xs (some (k : Int)) none)) = _
  injection this with this
  injection this with this
  rw [this]
theorem cut_toL (xs : List T) (k : Nat) (h : k ≤ xs.length) : slice (.lst xs) none (some (k : Int)) = some (.own (xs.take k)) := by
  have := cut_toT xs k h
  show some (T.own (cut xs none (some (k : Int)))) = _
  injection this with this
  injection this with this
  rw [this]
theorem add_own (xs ys : List T) (h : xs.length + ys.length ≤ 1000000) : bop .add (.own xs) (.own ys) = some (.own (xs ++ ys)) := by
  show (if szOk (xs.length + ys.length) then some (T.own (xs ++ ys)) else none) = _
  rw [if_pos (by simpa [szOk] using h)]
theorem ev_filA {F : Fns} {ρ : En} {S S' : Store} {c : CE} {j : Nat} {it : It} {α : Type} {L : List α} (enc : α → T) (q : α → Bool) (h : evalI F ρ it S = .ok (L.map enc, S')) (hz : L.length ≤ 1000000) (hg : ∀ t, (ρ.put j t).get j = some t) (hc : ∀ p ∈ L, (enc p).isOwn = false ∧ evalE F (ρ.put j (enc p)) c S' = .ok (.bl (q p), S')) : evalE F ρ (.comp (.slot j) (.name j) it (some c)) S = .ok (.own ((L.filter q).map enc), S') := by
  have ec : compL (turn F ρ (.slot j) (.name j) (some c)) (L.map enc) S' = .ok ((L.filter q).map enc, S') := by
    clear h hz
    induction L with
    | nil => rfl
    | cons p L ih =>
      obtain ⟨o, hp⟩ := hc p List.mem_cons_self
      have e1 := turn_some (F := F) (ρ := ρ) (elt := .slot j) (c := c) (j := j) (x := enc p) o hp
      have ih := ih fun r hr => hc r (List.mem_cons_of_mem _ hr)
      have e : evalE F (ρ.put j (enc p)) (.slot j) S' = .ok (enc p, S') := ev_slot (hg _) o
      rw [e] at e1
      rw [List.map_cons, List.filter_cons]
      cases z : q p with
      | true =>
        rw [z] at e1
        have e1 : turn F ρ (.slot j) (.name j) (some c) (enc p) S' = .ok (some (enc p), S') := e1
        simp only [compL, e1, Res.ok_bind, ih, if_true, List.map_cons, vw_of o]
      | false =>
        rw [z] at e1
        have e1 : turn F ρ (.slot j) (.name j) (some c) (enc p) S' = .ok (none, S') := e1
        simp only [compL, e1, Res.ok_bind, ih]
        rfl
  exact ev_comp h (by rw [List.length_map]; exact hz) ec
theorem gcd_red (r : Rat) : Int.gcd r.num r.den = 1 := by
  have := r.reduced
  exact this
theorem den_lt {r : Rat} {k : Nat} (h : Sz r k) (hk : k ≤ 8000) : (r.den : Int).natAbs < 2 ^ 8000 := by
  rw [den_abs]
  exact Nat.lt_of_lt_of_le h.2 (Nat.pow_le_pow_right (by omega) hk)
theorem is_ratio_rT (n : Nat) (r : Rat) {k : Nat} (h : Sz r k) (hk : k ≤ 8000) (S : Store) : FF (n + 2) i_is_ratio [rT r] S = .ok (.bl true, S) := by
  have i0 := is_int_ok n r.num S
  have i1 := is_int_ok n r.den S
  have cd := common_divisor_ok n r.num r.den (den_lt h hk) S
  rw [gcd_red] at cd
  refine fn_rt (c := ⟨1, 1, c_is_ratio⟩) (ts := [rT r]) g_is_ratio rfl ?_ rfl
  show evalSs (FF (n + 1)) c_is_ratio [some (rT r)] S = _
  dsimp only [c_is_ratio]
  refine ss_nx (st_if_n (ev_or_f (ev_not (b := true) (ev_isinst (ev_slot rfl rfl) rfl rfl)) (ev_or_f (ev_cmp (ev_prim (r := .int 2) (ts := [rT r]) (ev_cons (t := rT r) (ev_slot rfl rfl) ev_nil) rfl) ev_cst (co_nef rfl)) (ev_or_f (ev_not (b := true) (ev_call (ev_cons (t := .int r.num) (ev_num rfl) ev_nil) i0)) (ev_not (b := true) (ev_call (ev_cons (t := .int r.den) (ev_den rfl) ev_nil) i1)))))) ?_
  exact ss_rt (st_ret (ev_and_t (ev_cmp (ev_den rfl) ev_cst (co_gt (den_pos r))) (ev_cmp (ev_call (ev_cons (t := .int r.num) (ev_num rfl) (ev_cons (t := .int r.den) (ev_den rfl) ev_nil)) cd) ev_cst (co_eq rfl))))
theorem is_ratio_non (n : Nat) (S : Store) : FF (n + 2) i_is_ratio [.non] S = .ok (.bl false, S) := by
  refine fn_rt (c := ⟨1, 1, c_is_ratio⟩) (ts := [.non]) g_is_ratio rfl ?_ rfl
  show evalSs (FF (n + 1)) c_is_ratio [some .non] S = _
  dsimp only [c_is_ratio]
  exact ss_rt (st_if_t (ev_or_t (ev_not (b := false) (ev_isinst (ev_slot rfl rfl) rfl rfl))) (ss_rt (st_ret ev_cst)))
theorem is_ratio_22 (n : Nat) (S : Store) : FF (n + 2) i_is_ratio [.tup [.int 2, .int 2]] S = .ok (.bl false, S) := by
  have i0 := is_int_ok n 2 S
  have cd := common_divisor_ok n 2 2 (by decide +kernel) S
  have e2 : Int.gcd 2 2 = 2 := by decide
  rw [e2] at cd
  refine fn_rt (c := ⟨1, 1, c_is_ratio⟩) (ts := [.tup [.int 2, .int 2]]) g_is_ratio rfl ?_ rfl
  show evalSs (FF (n + 1)) c_is_ratio [some (.tup [.int 2, .int 2])] S = _
  dsimp only [c_is_ratio]
  have s0 : ∀ S, sub (deref S (.tup [.int 2, .int 2])) (.int 0) = some (.int 2) := fun _ => rfl
  have s1 : ∀ S, sub (deref S (.tup [.int 2, .int 2])) (.int 1) = some (.int 2) := fun _ => rfl
  refine ss_nx (st_if_n (ev_or_f (ev_not (b := true) (ev_isinst (ev_slot rfl rfl) rfl rfl)) (ev_or_f (ev_cmp (ev_prim (r := .int 2) (ts := [.tup [.int 2, .int 2]]) (ev_cons (t := .tup [.int 2, .int 2]) (ev_slot rfl rfl) ev_nil) rfl) ev_cst (co_nef rfl)) (ev_or_f (ev_not (b := true) (ev_call (ev_cons (t := .int 2) (ev_sub (ev_slot rfl rfl) ev_cst (s0 _)) ev_nil) i0)) (ev_not (b := true) (ev_call (ev_cons (t := .int 2) (ev_sub (ev_slot rfl rfl) ev_cst (s1 _)) ev_nil) i0)))))) ?_
  exact ss_rt (st_ret (ev_and_t (ev_cmp (ev_sub (ev_slot rfl rfl) ev_cst (s1 _)) ev_cst (co_gt (by omega))) (ev_cmp (ev_call (ev_cons (t := .int 2) (ev_sub (ev_slot rfl rfl) ev_cst (s0 _)) (ev_cons (t := .int 2) (ev_sub (ev_slot rfl rfl) ev_cst (s1 _)) ev_nil)) cd) ev_cst (co_eqf (by decide)))))
theorem rTs_len (L : List Rat) : (rTs L).length = L.length := List.length_map _
theorem ev_chainA {F : Fns} {ρ : En} {S : Store} {o o' : CO} {a b c : CE} {i j k : Int} (h1 : evalE F ρ a S = .ok (.int i, S)) (h2 : evalE F ρ b S = .ok (.int j, S)) (h3 : evalE F ρ c S = .ok (.int k, S)) : evalE F ρ (.chain o o' a b c) S = .ok (.bl (ltI o i j && ltI o' j k), S) := by
  rw [x_chain, h1, Res.ok_bind, h2, Res.ok_bind]
  have e : cop o (.int i) (.int j) = some (ltI o i j) := by cases o <;> rfl
  have e2 : cop o' (.int j) (.int k) = some (ltI o' j k) := by cases o' <;> rfl
  rw [e]
  cases q : ltI o i j <;> simp [e2, h3, q]
theorem Sz01 : Sz 0 1 := ⟨by decide, by decide⟩
/-- a loop value: a list or a tuple of ratios -/
def seqT (t : T) (L : List Rat) : Prop := t = .tup (rTs L) ∨ t = .lst (rTs L)
theorem seqT.own {t : T} {L : List Rat} (h : seqT t L) : t.isOwn = false := by rcases h with rfl | rfl <;> rfl
theorem seqT.view {t : T} {L : List Rat} (h : seqT t L) : t.view = t := by rcases h with rfl | rfl <;> rfl
theorem seqT.seq {t : T} {L : List Rat} (h : seqT t L) : seqOf t = some (L.map rT) := by rcases h with rfl | rfl <;> rfl
theorem rTs_take (L : List Rat) (k : Nat) : rTs (L.take k) = (rTs L).take k := List.map_take
theorem rTs_drop (L : List Rat) (k : Nat) : rTs (L.drop k) = (rTs L).drop k := List.map_drop
theorem rTs_ins (F : List Rat) (r : Rat) : rTs (insR F r) = (rTs F).take (pl F r) ++ [rT r] ++ (rTs F).drop (pl F r) := by
  unfold insR rTs
  rw [List.map_append, List.map_append, List.map_take, List.map_drop]
  rfl
theorem foldI_len (L F : List Rat) : (L.foldl insR F).length = F.length + L.length := by
  have := (fallP L F).length_eq
  rw [List.length_append] at this
  exact this
theorem foldI_mem {L : List Rat} {k : Nat} (h : SzL L k) : SzL (L.foldl insR []) k := h.perm (fallP L [])
theorem SzL.take {L : List Rat} {k : Nat} (h : SzL L k) (i : Nat) : SzL (L.take i) k := fun r hr => h r (List.mem_of_mem_take hr)
theorem take_ins (L : List Rat) {i : Nat} (hi : i < L.length) : (L.take (i + 1)).foldl insR [] = insR ((L.take i).foldl insR []) L[i] := by
  rw [List.take_succ_eq_append_getElem hi, List.foldl_append]
  rfl
/-! families: items, arcs, sets as bits -/
def itT (I : List (Int × Int)) : T := .tup (I.map fun p => .tup [.int p.1, .int p.2])
def arT (R : List (Nat × Nat)) : T := .tup (R.map fun p => .tup [.int p.1, .int p.2])
def fS (I : List (Int × Int)) (i : Nat) : Int := (I.getD i (0, 0)).1
def fK (I : List (Int × Int)) (i : Nat) : Int := (I.getD i (0, 0)).2
structure FamOk (I : List (Int × Int)) (n : Nat) : Prop where
  len : I.length = n
  n1 : 1 ≤ n
  n8 : n ≤ 8
  bd : ∀ p ∈ I, (1 ≤ p.1 ∧ p.1 ≤ 9999) ∧ (1 ≤ p.2 ∧ p.2 ≤ 9999)
theorem FamOk.at {I : List (Int × Int)} {n i : Nat} (h : FamOk I n) (hi : i < n) : (1 ≤ fS I i ∧ fS I i ≤ 9999) ∧ (1 ≤ fK I i ∧ fK I i ≤ 9999) := by
  have hl : i < I.length := by rw [h.len]; exact hi
  unfold fS fK
  rw [List.getD_eq_getElem?_getD, List.getElem?_eq_getElem hl]
  exact h.bd _ (List.getElem_mem hl)
theorem itT_at {I : List (Int × Int)} {i : Nat} (S : Store) (h : i < I.length) : sub (deref S (itT I)) (.int i) = some (.tup [.int (fS I i), .int (fK I i)]) := by
  show L2.atI (I.map fun p => T.tup [.int p.1, .int p.2]) (i : Int) = _
  rw [atI_nn _ _ (by omega), Int.toNat_natCast, List.getElem?_map, List.getElem?_eq_getElem h]
  unfold fS fK
  rw [List.getD_eq_getElem?_getD, List.getElem?_eq_getElem h]
  rfl
/-! bits -/
def bit (m i : Nat) : Int := if m.testBit i then 1 else 0
theorem band_nat (a b : Nat) : Builtin.bitAnd (a : Int) (b : Int) = ((a &&& b : Nat) : Int) := by
  unfold Builtin.bitAnd
  simp
theorem shr_nat (m i : Nat) : bop .shr (.int (m : Int)) (.int (i : Int)) = some (.int ((m >>> i : Nat) : Int)) := by
  show (bopI .shr (m : Int) (i : Int)).map T.int = _
  have e : bopI .shr (m : Int) (i : Int) = some ((m : Int) / 2 ^ ((i : Int)).toNat) := by
    show (if decide ((0 : Int) ≤ (i : Int)) then some ((m : Int) / 2 ^ ((i : Int)).toNat) else none) = _
    rw [decide_eq_true (by omega), if_pos rfl]
  rw [e, Int.toNat_natCast, Nat.shiftRight_eq_div_pow]
  simp
theorem bit_val (m i : Nat) : bop .band (.int ((m >>> i : Nat) : Int)) (.int 1) = some (.int (bit m i)) := by
  show (bopI .band ((m >>> i : Nat) : Int) 1).map T.int = _
  have e : bopI .band ((m >>> i : Nat) : Int) 1 = some (bit m i) := by
    show some (Builtin.bitAnd ((m >>> i : Nat) : Int) ((1 : Nat) : Int)) = _
    rw [band_nat]
    congr 1
    unfold bit
    rw [Nat.testBit, Nat.and_comm 1]
    rcases Nat.mod_two_eq_zero_or_one (m >>> i) with z | z
    · simp [Nat.and_one_is_mod, z]
    · simp [Nat.and_one_is_mod, z]
  rw [e]
  rfl
theorem truth_bit (m i : Nat) : truth (.int (bit m i)) = some (m.testBit i) := by
  show some (bit m i != 0) = _
  unfold bit
  cases m.testBit i <;> rfl
section
variable {F : Fns} {ρ : En} {S : Store}
theorem ev_bit {ea eb : CE} {m i : Nat} (h1 : evalE F ρ ea S = .ok (.int m, S)) (h2 : evalE F ρ eb S = .ok (.int i, S)) : evalE F ρ (.bin .band (.bin .shr ea eb) (.cst (.int 1))) S = .ok (.int (bit m i), S) :=
  ev_bin (ev_bin h1 h2 (shr_nat m i)) ev_cst (bit_val m i)
theorem ev_notT {a : CE} {t : T} {b : Bool} {S1 : Store} (h : evalE F ρ a S = .ok (t, S1)) (ht : truth t = some b) : evalE F ρ (.not a) S = .ok (.bl (!b), S1) := by
  rw [x_not, h, Res.ok_bind]
  show (Res.of (truth t)).bind _ = _
  rw [ht]
  rfl
/-- x or y, x a bit -/
theorem ev_orBit {a b : CE} {m i : Nat} {r : Res (T × Store)} (h : evalE F ρ a S = .ok (.int (bit m i), S)) (h2 : m.testBit i = false → evalE F ρ b S = r) (h3 : m.testBit i = true → r = .ok (.int 1, S)) : evalE F ρ (.or a b) S = r := by
  rw [x_or, h, Res.ok_bind]
  cases q : m.testBit i with
  | true =>
    have e : bit m i = 1 := by simp [bit, q]
    show (if bit m i = 0 then _ else _) = _
    rw [e, if_neg (by decide), h3 q]
  | false =>
    have e : bit m i = 0 := by simp [bit, q]
    show (if bit m i = 0 then _ else _) = _
    rw [e, if_pos rfl, h2 q]
theorem turn_someT {elt c : CE} {j : Nat} {x t : T} {S1 : Store} {b : Bool} (ho : x.isOwn = false) (hc : evalE F (ρ.put j x) c S = .ok (t, S1)) (ht : truth t = some b) : turn F ρ elt (.name j) (some c) x S = if b then (evalE F (ρ.put j x) elt S1 >>= fun r => .ok (some r.1, r.2)) else .ok (none, S1) := by
  unfold turn
  rw [bind_nm ho]
  simp only [Res.of_some, Res.bind_okv, xc_some, hc, Res.ok_bind, ht]
/-- what a comprehension over a range keeps, by any truth -/
theorem ev_fmT {S' : Store} {elt c a : CE} {j m : Nat} (q : Nat → Bool) (g : Nat → T) (h : evalE F ρ a S = .ok (.int m, S')) (hz : m ≤ 1000000) (hc : ∀ i, i < m → ∃ t, evalE F (ρ.put j (.int i)) c S' = .ok (t, S') ∧ truth t = some (q i)) (hg : ∀ i, i < m → (g i).isOwn = false ∧ evalE F (ρ.put j (.int i)) elt S' = .ok (g i, S')) : evalE F ρ (.comp elt (.name j) (.rng1 a) (some c)) S = .ok (.own (((List.range m).filter q).map g), S') := by
  have hi := it_rng1 h (by omega)
  have ej : ((m : Nat) : Int).toNat = m := by omega
  rw [ej, rangeT_nat] at hi
  have ec := compL_filter (step := turn F ρ elt (.name j) (some c)) (S := S') (xs := (List.range m).map fun i => T.int ((i : Nat) : Int)) (fun t => match t with | .int i => if q i.toNat then some (g i.toNat) else none | _ => none) fun x hx => by
    obtain ⟨i, hi, rfl⟩ := List.mem_map.mp hx
    have hi := List.mem_range.mp hi
    obtain ⟨t, ht, hq⟩ := hc i hi
    rw [turn_someT rfl ht hq, (hg i hi).2]
    simp only [Int.toNat_natCast, Res.ok_bind]
    by_cases z : q i = true
    · rw [if_pos z, if_pos z]
    · rw [if_neg z, if_neg z]
  rw [ev_comp hi (by simp; exact hz) ec]
  congr 3
  rw [List.filterMap_map]
  have : ∀ L : List Nat, (∀ i ∈ L, i < m) → L.filterMap ((fun x => (match x with | .int i => if q i.toNat then some (g i.toNat) else none | _ => none : Option T).map T.view) ∘ fun i : Nat => T.int (i : Int)) = (L.filter q).map g := by
    intro L
    induction L with
    | nil => intro _; rfl
    | cons a L ih =>
      intro hL
      rw [List.filterMap_cons, List.filter_cons, ih fun i hi => hL i (List.mem_cons_of_mem _ hi)]
      simp only [Function.comp, Int.toNat_natCast]
      by_cases z : q a = true
      · rw [if_pos z, if_pos z]
        have := vw_of (hg a (hL a (List.mem_cons_self))).1
        simp only [Option.map_some, this, List.map_cons]
      · rw [if_neg z, if_neg z]; rfl
  exact this _ fun i hi => List.mem_range.mp hi
/-- over pairs -/
theorem ev_mapP {S' : Store} {elt : CE} {i j : Nat} {it : It} {α : Type} {L : List α} (f1 f2 g : α → T) (h : evalI F ρ it S = .ok (L.map fun a => T.tup [f1 a, f2 a], S')) (hz : L.length ≤ 1000000) (hc : ∀ a ∈ L, (f1 a).isOwn = false ∧ (f2 a).isOwn = false ∧ (g a).isOwn = false ∧ evalE F ((ρ.put i (f1 a)).put j (f2 a)) elt S' = .ok (g a, S')) : evalE F ρ (.comp elt (.tup [.name i, .name j]) it none) S = .ok (.own (L.map g), S') := by
  have ec : compL (turn F ρ elt (.tup [.name i, .name j]) none) (L.map fun a => T.tup [f1 a, f2 a]) S' = .ok (L.map g, S') := by
    clear h hz
    induction L with
    | nil => rfl
    | cons a L ih =>
      obtain ⟨o1, o2, o3, e⟩ := hc a List.mem_cons_self
      have hb : bindT (.tup [.name i, .name j]) (.tup [f1 a, f2 a]) ρ = some ((ρ.put i (f1 a)).put j (f2 a)) := by
        simp [bindT, bindTs, o1, o2]
      have et : turn F ρ elt (.tup [.name i, .name j]) none (.tup [f1 a, f2 a]) S' = .ok (some (g a), S') := by
        unfold turn
        rw [hb]
        simp only [Res.of_some, Res.bind_okv, xc_none, Res.ok_bind, e, if_true]
      rw [List.map_cons, List.map_cons]
      simp only [compL, et, Res.ok_bind, ih fun b hb => hc b (List.mem_cons_of_mem _ hb), vw_of o3]
  exact ev_comp h (by rw [List.length_map]; exact hz) ec
end
/-- the members of a set -/
def mem (n m : Nat) : List Nat := (List.range n).filter m.testBit
def memT (n m : Nat) : T := .tup ((mem n m).map fun i => T.int ((i : Nat) : Int))
theorem mem_lt {n m i : Nat} : i ∈ mem n m ↔ i < n ∧ m.testBit i = true := by
  unfold mem
  rw [List.mem_filter, List.mem_range]
theorem mem_len (n m : Nat) : (mem n m).length ≤ n := by
  unfold mem
  have := List.length_filter_le m.testBit (List.range n)
  rw [List.length_range] at this
  exact this
/-- a set that has, with each item, those above it in a larger set -/
def up (R : List (Nat × Nat)) (m w : Nat) : Bool := R.all fun p => !m.testBit p.2 || (m.testBit p.1 || !w.testBit p.1)
/-- sums over a set -/
def qS (I : List (Int × Int)) (n m : Nat) : Int := ((mem n m).map (fS I)).sum
def qK (I : List (Int × Int)) (n m : Nat) : Int := ((mem n m).map (fK I)).sum
def quo (I : List (Int × Int)) (n m : Nat) : Rat := mkRat (qS I n m) (qK I n m).toNat
theorem sum_filter (q : Nat → Bool) (f : Nat → Int) : ∀ n, (((List.range n).filter q).map f).sum = sumTo (fun i => if q i then f i else 0) n
  | 0 => rfl
  | n + 1 => by
    rw [List.range_succ, List.filter_append, List.map_append, List.sum_append, sum_filter q f n, sumTo_succ]
    cases z : q n <;> simp [z]
theorem qS_to (I : List (Int × Int)) (n m : Nat) : qS I n m = sumTo (fun i => if m.testBit i then fS I i else 0) n := sum_filter _ _ _
theorem qK_to (I : List (Int × Int)) (n m : Nat) : qK I n m = sumTo (fun i => if m.testBit i then fK I i else 0) n := sum_filter _ _ _
/-! last starts: plain; natural numbers as data -/
def iN (L : List Nat) : List T := L.map fun k : Nat => T.int (k : Int)
theorem iN_len (L : List Nat) : (iN L).length = L.length := List.length_map _
theorem toDs_iN : ∀ L : List Nat, T.toDs (iN L) = some (L.map fun k : Nat => PyData.int (k : Int))
  | [] => rfl
  | x :: L => by
    show (match T.toD (T.int x), T.toDs (iN L) with | some d, some ds => some (d :: ds) | _, _ => none) = _
    rw [toDs_iN L]
    rfl
def sortN (L : List Nat) : List Nat := L.mergeSort fun a b => decide (a ≤ b)
theorem sortN_perm (L : List Nat) : (sortN L).Perm L := List.mergeSort_perm _ _
theorem sortN_le (L : List Nat) : (sortN L).Pairwise fun p q => p ≤ q := by
  have := List.pairwise_mergeSort (le := fun a b : Nat => decide (a ≤ b)) (fun a b c h1 h2 => by
    simp only [decide_eq_true_eq] at *
    omega) (fun a b => by
    simp only [Bool.or_eq_true, decide_eq_true_eq]
    omega) L
  exact this.imp fun h => by simpa using h
/-- the ascending list of some numbers -/
theorem sortN_is {L M : List Nat} (hn : L.Nodup) (hm : M.Pairwise fun a b => a < b) (h : ∀ a, a ∈ L ↔ a ∈ M) : sortN L = M := by
  have nm : M.Nodup := hm.imp fun z => by omega
  have pm : (sortN L).Perm M := (sortN_perm L).trans ((List.perm_ext_iff_of_nodup hn nm).mpr h)
  exact List.Perm.eq_of_pairwise (le := fun a b : Nat => a ≤ b) (fun a b _ _ x y => by omega) (sortN_le L) (hm.imp fun z => by omega) pm
theorem sort_iN (L : List Nat) (hl : L.length ≤ 1000000) : sortT (iN L) = some (iN (sortN L)) := by
  have h1 : T.plains (iN L) = true := by
    clear hl
    induction L with
    | nil => rfl
    | cons p L ih =>
      show T.plains (T.int p :: iN L) = true
      simp only [T.plains, T.plain, ih, Bool.and_self]
  have h2 : alikeTs (iN L) = true := by
    unfold alikeTs
    simp only [Bool.and_eq_true, List.all_eq_true, h1, true_and]
    refine ⟨⟨fun x hx y hy => ?_, fun x hx => ?_⟩, fun x hx => ?_⟩
    · obtain ⟨A, _, rfl⟩ := List.mem_map.mp hx
      obtain ⟨B, _, rfl⟩ := List.mem_map.mp hy
      rfl
    · obtain ⟨A, _, rfl⟩ := List.mem_map.mp hx
      rfl
    · obtain ⟨A, _, rfl⟩ := List.mem_map.mp hx
      rfl
  have h3 : ((iN L).all isTupC || (iN L).all fun x => !isTup x) = true := by
    rw [Bool.or_eq_true]
    right
    rw [List.all_eq_true]
    intro x hx
    obtain ⟨A, hA, rfl⟩ := List.mem_map.mp hx
    rfl
  unfold sortT
  rw [h2, h3, iN_len, decide_eq_true hl]
  simp only [Bool.and_self, if_true]
  congr 1
  unfold sortN iN
  rw [List.map_mergeSort]
  intro a _ b _
  have := congrFun (congrFun (PySem.W.dataLe_int (fun p : Nat => (p : Int))) a) b
  refine Eq.trans ?_ this.symm
  exact decide_eq_decide.mpr (by omega)
/-! dicts with numbers for keys -/
def kN (k : Nat) : List L2.Key := [.inl (k : Int)]
def tTN (_ : Nat) : T := .bl true
def addN (K : List Nat) (k : Nat) : List Nat := if k ∈ K then K else K ++ [k]
theorem kN_inj {a b : Nat} (h : kN a = kN b) : a = b := by
  unfold kN at h
  injection h with h
  injection h with h
  omega
theorem any_kN (K : List Nat) (k : Nat) : ((K.map kN).any fun k' => decide (k' = kN k)) = decide (k ∈ K) := by
  rw [List.any_map, Bool.eq_iff_iff, List.any_eq_true, decide_eq_true_eq]
  constructor
  · rintro ⟨q, hq, h⟩
    simp only [Function.comp, decide_eq_true_eq] at h
    rw [← kN_inj h]
    exact hq
  · intro h
    exact ⟨k, h, by simp⟩
theorem dput_N (K : List Nat) (k : Nat) : dputK (K.map kN) (kN k) = (addN K k).map kN ∧ dputV (K.map kN) (K.map tTN) (kN k) (.bl true) = (addN K k).map tTN := by
  unfold dputK dputV addN
  rw [any_kN]
  by_cases c : k ∈ K
  · rw [decide_eq_true c, if_pos rfl, if_pos rfl, if_pos c]
    refine ⟨rfl, ?_⟩
    clear c
    induction K with
    | nil => rfl
    | cons x K ih =>
      rw [List.map_cons, List.map_cons, List.zipWith_cons_cons, ih]
      congr 1
      split <;> rfl
  · rw [decide_eq_false c, if_neg c, if_neg Bool.false_ne_true, if_neg Bool.false_ne_true, List.map_append, List.map_append]
    exact ⟨rfl, rfl⟩
theorem addN_nodup {K : List Nat} (h : K.Nodup) (k : Nat) : (addN K k).Nodup := by
  unfold addN
  split
  · exact h
  · rename_i c
    refine List.nodup_append.mpr ⟨h, by simp, fun a ha b hb => ?_⟩
    rw [List.mem_singleton.mp hb]
    exact fun z => c (z ▸ ha)
theorem mem_addN {K : List Nat} {k s : Nat} : s ∈ addN K k ↔ s ∈ K ∨ s = k := by
  unfold addN
  split
  · rename_i c
    constructor
    · exact .inl
    · rintro (h | rfl)
      · exact h
      · exact c
  · rw [List.mem_append, List.mem_singleton]
theorem addN_len (K : List Nat) (k : Nat) : (addN K k).length ≤ K.length + 1 := by
  unfold addN
  split
  · omega
  · rw [List.length_append]
    exact Nat.le_refl _
def dN (K : List Nat) : T := .odct (K.map kN) (K.map tTN) true
theorem wp_dputN {F : Fns} {ρ : En} {S : Store} {i : Nat} {k e : CE} {K : List Nat} {p : Nat} {cs : List CS} {Q : Res Fl → Prop} (he : evalE F ρ e S = .ok (.bl true, S)) (hk : evalE F ρ k S = .ok (.int p, S)) (hg : ρ.get i = some (dN K)) (hz : K.length ≤ 1000000) (ko : Wp Q (evalSs F cs (ρ.put i (dN (addN K p))) S)) : Wp Q (evalSs F (.dput i k e :: cs) ρ S) := by
  obtain ⟨d1, d2⟩ := dput_N K p
  have zz : szOk (K.map kN).length = true := by rw [List.length_map]; simpa [szOk] using hz
  have : evalS F (.dput i k e) ρ S = .ok (.nx (ρ.put i (dN (addN K p))) S) := by
    rw [xs_dput, he, Res.ok_bind, hk, Res.ok_bind]
    simp only [hg, dN, keyO_i]
    show (if szOk (K.map kN).length then Res.ok (Fl.nx (ρ.put i (.odct (dputK (K.map kN) (kN p)) (dputV (K.map kN) (K.map tTN) (kN p) (T.bl true).view) true)) S) else Res.bad) = _
    rw [zz, if_pos rfl, d1]
    have d2' : dputV (K.map kN) (K.map tTN) (kN p) (T.bl true).view = (addN K p).map tTN := d2
    rw [d2']
  rw [step_nx this]
  exact ko
theorem sorted_dN (K : List Nat) (hl : K.length ≤ 1000000) : prim .sorted [.dct (K.map kN) (K.map tTN) true] = some (.own (iN (sortN K))) := by
  show (sortT ((K.map kN).map fun k => keyT (hdK k))).map T.own = _
  have : ((K.map kN).map fun k => keyT (hdK k)) = iN K := by
    unfold iN
    rw [List.map_map]
    rfl
  rw [this, sort_iN K hl]
  rfl
/-! last starts -/
def fitB (P : Prob) (s e : Nat) : Bool := decide (stg P s + lotI P s e = stg P e)
def fitL (P : Prob) (e : Nat) : List Nat := (List.range e).filter fun s => fitB P s e
def srcB (P : Prob) (L : List (List Nat)) (e x s : Nat) : Bool := if 0 < segS P.d x e then x == s else (L.getD x []).contains s
def laN (P : Prob) (L : List (List Nat)) (e : Nat) : List Nat := (List.range e).filter fun s => (fitL P e).any fun x => srcB P L e x s
def laL (P : Prob) : Nat → List (List Nat)
  | 0 => [[]]
  | e + 1 => laL P e ++ [laN P (laL P e) (e + 1)]
def la (P : Prob) (e : Nat) : List Nat := (laL P e).getD e []
theorem laL_len (P : Prob) : ∀ e, (laL P e).length = e + 1
  | 0 => rfl
  | e + 1 => by
    show (laL P e ++ _).length = _
    rw [List.length_append, laL_len P e]
    rfl
theorem laL_get (P : Prob) : ∀ (k e : Nat), e ≤ k → (laL P k).getD e [] = la P e
  | 0, e, h => by
    have : e = 0 := by omega
    rw [this]
    rfl
  | k + 1, e, h => by
    by_cases c : e = k + 1
    · rw [c]
      rfl
    · have := laL_get P k e (by omega)
      rw [← this]
      show (laL P k ++ _).getD e [] = _
      rw [List.getD_eq_getElem?_getD, List.getD_eq_getElem?_getD, List.getElem?_append_left (by rw [laL_len]; omega)]
theorem la_zero (P : Prob) : la P 0 = [] := rfl
theorem la_succ (P : Prob) (e : Nat) : la P (e + 1) = laN P (laL P e) (e + 1) := by
  unfold la
  show (laL P e ++ _).getD (e + 1) [] = _
  rw [List.getD_eq_getElem?_getD, List.getElem?_append_right (by rw [laL_len]; exact Nat.le_refl _), laL_len, Nat.sub_self]
  rfl
theorem mem_fitL {P : Prob} {s e : Nat} : s ∈ fitL P e ↔ s < e ∧ stg P s + lotI P s e = stg P e := by
  unfold fitL fitB
  rw [List.mem_filter, List.mem_range, decide_eq_true_eq]
theorem la_asc (P : Prob) (e : Nat) : (la P e).Pairwise fun a b => a < b := by
  cases e with
  | zero => exact List.Pairwise.nil
  | succ e =>
    rw [la_succ]
    exact List.Pairwise.filter _ List.pairwise_lt_range
theorem la_lt {P : Prob} {e s : Nat} (h : s ∈ la P e) : s < e := by
  cases e with
  | zero => cases h
  | succ e =>
    rw [la_succ] at h
    exact List.mem_range.mp (List.mem_filter.mp h).1
/-- where a start comes from -/
def Src (P : Prob) (e x s : Nat) : Prop := (0 < segS P.d x e ∧ x = s) ∨ (¬ 0 < segS P.d x e ∧ s ∈ la P x)
theorem srcB_iff {P : Prob} {e x s : Nat} (h : x ≤ e) : srcB P (laL P e) (e + 1) x s = true ↔ Src P (e + 1) x s := by
  unfold srcB Src
  by_cases c : 0 < segS P.d x (e + 1)
  · simp [c]
  · simp only [c, if_false, false_and, false_or, not_false_eq_true, true_and, laL_get P e x h, List.contains_eq_mem, decide_eq_true_eq]
theorem mem_la {P : Prob} {e s : Nat} : s ∈ la P (e + 1) ↔ ∃ x, x ∈ fitL P (e + 1) ∧ Src P (e + 1) x s := by
  rw [la_succ]
  unfold laN
  rw [List.mem_filter, List.mem_range, List.any_eq_true]
  constructor
  · rintro ⟨_, x, hx, h⟩
    have := (mem_fitL.mp hx).1
    exact ⟨x, hx, (srcB_iff (by omega)).mp h⟩
  · rintro ⟨x, hx, h⟩
    have lt := (mem_fitL.mp hx).1
    refine ⟨?_, x, hx, (srcB_iff (by omega)).mpr h⟩
    rcases h with ⟨_, rfl⟩ | ⟨_, h⟩
    · exact lt
    · have := la_lt h
      omega

/-! mixing: walks of the program's defs -/
theorem bo_fdiv {i j : Int} (h : 0 < j) (hn : numOk j = true) : bop .fdiv (.int i) (.int j) = some (.int (i / j)) := by
  show (bopI .fdiv i j).map T.int = _
  have e : bopI .fdiv i j = some (i / j) := by
    show (if decide (0 < j) && numOk j then some (i / j) else none) = _
    rw [decide_eq_true h, hn, Bool.and_self, if_pos rfl]
  rw [e]
  rfl
/-- a bound -/
structure Bd (b : Rat) : Prop where
  nn : 0 ≤ b
  le : b ≤ 999
  sz : Sz b 10
structure BdL (B : List Rat) (n : Nat) : Prop where
  len : B.length = n
  n1 : 1 ≤ n
  n5 : n ≤ 5
  bd : ∀ b ∈ B, Bd b
theorem BdL.at {B : List Rat} {n p : Nat} (h : BdL B n) (hp : p < n) : Bd (gr B p) := by
  rw [gr_eq (by rw [h.len]; exact hp)]
  exact h.bd _ (List.getElem_mem _)
theorem Bd.ceil {b : Rat} (h : Bd b) : 0 ≤ ceilR b ∧ ceilR b ≤ 999 := by
  have h1 := ceilR_le b
  have h2 : ceilR b ≤ 999 := ceilR_least (z := 999) h.le
  have h3 : (0 : Rat) < ((ceilR b + 1 : Int) : Rat) := by
    have := h.nn
    rw [Rat.intCast_add]
    show (0 : Rat) < (ceilR b : Rat) + 1
    grind
  have h3 : ((0 : Int) : Rat) < ((ceilR b + 1 : Int) : Rat) := h3
  have := int_lt h3
  omega
theorem Bd.szc {b : Rat} (h : Bd b) : Sz (ceilR b : Rat) 10 := Sz.int (by have := h.ceil; omega) (by omega)
theorem Bd.szd {b : Rat} (h : Bd b) : Sz ((ceilR b - 1 : Int) : Rat) 10 := Sz.int (by have := h.ceil; omega) (by omega)
theorem Bd.szp {b : Rat} (h : Bd b) : Sz (prt b) 21 := Sz.sub h.sz h.szd
theorem rTs_at (S : Store) {L : List Rat} {p : Nat} (hp : p < L.length) : sub (deref S (.tup (rTs L))) (.int (p : Nat)) = some (rT (gr L p)) := by
  show L2.atI (L.map rT) (p : Int) = _
  rw [atI_nn _ _ (by omega), Int.toNat_natCast, List.getElem?_map, List.getElem?_eq_getElem hp, gr_eq hp]
  rfl
theorem ceiling_ok (n : Nat) (b : Rat) {k : Nat} (h : Sz b k) (hk : k ≤ 8000) (S : Store) : FF (n + 1) i_ceiling [rT b] S = .ok (.int (ceilR b), S) := by
  refine fn_is (c := ⟨1, 1, c_ceiling⟩) (ts := [rT b]) g_ceiling rfl ?_
  show Wp _ (evalSs (FF n) c_ceiling [some (rT b)] S)
  dsimp only [c_ceiling]
  exact wp_ret (ev_neg (ev_bin (ev_neg (ev_num rfl)) (ev_den rfl) (bo_fdiv (den_pos b) (numOk_den h hk)))) ⟨rfl, rfl⟩
theorem part_of_ok (n : Nat) (b : Rat) (h : Bd b) (S : Store) : FF (n + 4) i_part_of [rT b] S = .ok (rT (prt b), S) := by
  have e1 := ceiling_ok (n + 2) b h.sz (by omega) S
  have e2 := minus_ok n b ((ceilR b - 1 : Int) : Rat) h.sz h.szd (by omega) S
  refine fn_is (c := ⟨1, 1, c_part_of⟩) (ts := [rT b]) g_part_of rfl ?_
  show Wp _ (evalSs (FF (n + 3)) c_part_of [some (rT b)] S)
  dsimp only [c_part_of]
  exact wp_ret (ev_call (ev_cons (t := rT b) (ev_slot rfl rfl) (ev_cons (t := rT ((ceilR b - 1 : Int) : Rat)) (ev_tup (ev_cons (t := .int (ceilR b - 1)) (ev_bin (ev_call (ev_cons (t := rT b) (ev_slot rfl rfl) ev_nil) e1) ev_cst rfl) (ev_cons (t := .int 1) ev_cst ev_nil))) ev_nil)) e2) ⟨rfl, rfl⟩
/-! places by rising parts -/
def cntK (k : Nat → Rat) (F : List Nat) (p : Nat) : Nat := (F.filter fun q => !decide (k p < k q)).length
def insK (k : Nat → Rat) (F : List Nat) (p : Nat) : List Nat := F.take (cntK k F p) ++ [p] ++ F.drop (cntK k F p)
def ordK (k : Nat → Rat) (L : List Nat) : List Nat := L.foldl (insK k) []
theorem cntK_le (k : Nat → Rat) (F : List Nat) (p : Nat) : cntK k F p ≤ F.length := List.length_filter_le _ _
theorem insK_perm (k : Nat → Rat) (F : List Nat) (p : Nat) : (insK k F p).Perm (p :: F) := by
  unfold insK
  rw [List.append_assoc]
  have := List.perm_middle (a := p) (l₁ := F.take (cntK k F p)) (l₂ := F.drop (cntK k F p))
  rw [List.take_append_drop] at this
  exact this
theorem ordK_perm (k : Nat → Rat) (L : List Nat) : (ordK k L).Perm L := by
  have : ∀ (L F : List Nat), (L.foldl (insK k) F).Perm (F ++ L) := by
    intro L
    induction L with
    | nil => intro F; rw [List.append_nil]; exact List.Perm.refl _
    | cons p L ih =>
      intro F
      rw [List.foldl_cons]
      refine (ih _).trans (((insK_perm k F p).append_right L).trans ?_)
      exact List.perm_middle.symm
  exact this L []
/-- rising -/
def Asc (k : Nat → Rat) (F : List Nat) : Prop := F.Pairwise fun a b => k a ≤ k b
theorem cntK_pl (k : Nat → Rat) (F : List Nat) (p : Nat) : cntK k F p = pl (F.map fun q => -k q) (-k p) := by
  unfold cntK pl
  rw [List.filter_map, List.length_map]
  congr 1
  refine List.filter_congr fun q _ => ?_
  have : (-k q < -k p) ↔ k p < k q := by constructor <;> intro h <;> grind
  simp [this]
theorem asc_desc {k : Nat → Rat} {F : List Nat} : Asc k F ↔ Desc (F.map fun q => -k q) := by
  unfold Asc Desc
  rw [List.pairwise_map]
  constructor <;> intro h <;> refine h.imp fun {a b} z => ?_ <;> grind
theorem asc_at {k : Nat → Rat} {F : List Nat} (h : Asc k F) (p i : Nat) (hi : i < F.length) : k p < k F[i] ↔ cntK k F p ≤ i := by
  have := desc_pl (asc_desc.mp h) (-k p) i (by rw [List.length_map]; exact hi)
  rw [← cntK_pl, List.getElem_map] at this
  rw [← this]
  constructor <;> intro z <;> grind
theorem asc_ins {k : Nat → Rat} {F : List Nat} (h : Asc k F) (p : Nat) : Asc k (insK k F p) := by
  rw [asc_desc]
  have := insR_desc (asc_desc.mp h) (-k p)
  unfold insR at this
  unfold insK
  rw [List.map_append, List.map_append, List.map_take, List.map_drop, cntK_pl]
  exact this
theorem asc_ord (k : Nat → Rat) (L : List Nat) : Asc k (ordK k L) := by
  have : ∀ (L F : List Nat), Asc k F → Asc k (L.foldl (insK k) F) := by
    intro L
    induction L with
    | nil => exact fun F h => h
    | cons p L ih => exact fun F h => ih _ (asc_ins h p)
  exact this L [] List.Pairwise.nil
theorem ascK_of {k : Nat → Rat} (h0 : ∀ p, 0 ≤ k p) {L : List Nat} (h : Asc k L) : AscK k L 0 := by
  have : ∀ (L : List Nat) (l : Rat), Asc k L → (∀ p ∈ L, l ≤ k p) → AscK k L l := by
    intro L
    induction L with
    | nil => exact fun _ _ _ => trivial
    | cons p L ih =>
      intro l h hl
      obtain ⟨h1, h2⟩ := List.pairwise_cons.mp h
      exact ⟨hl p List.mem_cons_self, ih _ h2 h1⟩
  exact this L 0 h fun p _ => h0 p
def kB (B : List Rat) (p : Nat) : Rat := prt (gr B p)
def cB (B : List Rat) (p : Nat) : Rat := (ceilR (gr B p) : Rat)
theorem iN_app (A B : List Nat) : iN (A ++ B) = iN A ++ iN B := List.map_append
theorem iN_ins (k : Nat → Rat) (F : List Nat) (p : Nat) : iN (insK k F p) = (iN F).take (cntK k F p) ++ [.int (p : Nat)] ++ (iN F).drop (cntK k F p) := by
  unfold insK
  rw [iN_app, iN_app]
  unfold iN
  rw [List.map_take, List.map_drop]
  rfl
theorem in_order_ok (n m : Nat) (B : List Rat) (hB : BdL B m) (L : List Nat) (hL : ∀ p ∈ L, p < m) (lL : L.length ≤ 1000) (S : Store) : FF (n + 5) i_in_order [.tup (rTs B), .tup (iN L)] S = .ok (.own (iN (ordK (kB B) L)), S) := by
  have lB := hB.len
  obtain ⟨t, S', e, rfl, rfl⟩ := fn_Rt (n := n + 4) (f := i_in_order) (c := ⟨6, 2, c_in_order⟩) (ts := [.tup (rTs B), .tup (iN L)]) (S := S) (P := fun t S' => t = .own (iN (ordK (kB B) L)) ∧ S' = S) g_in_order rfl (by
    show Wp (Rt _) (evalSs (FF (n + 4)) c_in_order [some (.tup (rTs B)), some (.tup (iN L)), none, none, none, none] S)
    dsimp only [c_in_order]
    refine wp_setO (xs := []) (S1 := S) (ev_lst ev_nil) ?_
    dsimp only [En.put]
    refine wp_for (xs := iN L) (fun i ρ S' => S' = S ∧ ∃ F x3 x4, (∀ p ∈ F, p < m) ∧ F = (L.take i).foldl (insK (kB B)) [] ∧ F.length = i ∧ ρ = [some (.tup (rTs B)), some (.tup (iN L)), some (.own (iN F)), x3, x4, none]) (fun _ _ => False) (it_seq (t := .tup (iN L)) (ev_slot rfl rfl) rfl) ⟨rfl, [], none, none, fun p hp => (by cases hp), rfl, rfl, rfl⟩ ?_ (fun _ _ z => z.elim) ?_
    · rintro i ρ S' hi ⟨rfl, F, x3, x4, hF, eF, lF, rfl⟩
      rw [iN_len] at hi
      have ex : (iN L)[i]'(by rw [iN_len]; exact hi) = .int (L[i] : Nat) := List.getElem_map _
      rw [ex]
      have hp := hL _ (List.getElem_mem hi)
      have et : (L.take (i + 1)).foldl (insK (kB B)) [] = insK (kB B) F L[i] := by rw [List.take_succ_eq_append_getElem hi, List.foldl_append, ← eF]; rfl
      rw [et]
      generalize L[i] = p at hp ⊢
      refine ⟨[some (.tup (rTs B)), some (.tup (iN L)), some (.own (iN F)), some (.int (p : Nat)), x4, none], rfl, ?_⟩
      have po := part_of_ok n (gr B p) (hB.at hp) S'
      have ef := ev_filA (F := FF (n + 4)) (ρ := [some (.tup (rTs B)), some (.tup (iN L)), some (.own (iN F)), some (.int (p : Nat)), x4, none]) (S := S') (S' := S') (c := .not (.call i_below [.call i_part_of [.sub (.slot 0) (.slot 3)], .call i_part_of [.sub (.slot 0) (.slot 5)]])) (j := 5) (it := .seq (.view 2)) (L := F) (fun q => .int (q : Nat)) (fun q => !decide (kB B p < kB B q)) (it_seq (t := .lst (iN F)) (ev_view (t := .own (iN F)) rfl) rfl) (by omega) (fun _ => rfl) (fun q hq => by
        have hq := hF q hq
        have pq := part_of_ok n (gr B q) (hB.at hq) S'
        have bo := below_ok (n + 3) (kB B p) (kB B q) (hB.at hp).szp (hB.at hq).szp (by omega) S'
        refine ⟨rfl, ev_not (ev_call (ev_cons (t := rT (kB B p)) (ev_call (ev_cons (t := rT (gr B p)) (ev_sub (x := .tup (rTs B)) (ev_slot rfl rfl) (ev_slot rfl rfl) (rTs_at S' (by omega))) ev_nil) po) (ev_cons (t := rT (kB B q)) (ev_call (ev_cons (t := rT (gr B q)) (ev_sub (x := .tup (rTs B)) (ev_slot rfl rfl) (ev_slot rfl rfl) (rTs_at S' (by omega))) ev_nil) pq) ev_nil)) bo)⟩)
      have el : prim .len [T.lst (iN (F.filter fun q => !decide (kB B p < kB B q)))] = some (.int (cntK (kB B) F p : Nat)) := by
        show some (T.int ((iN (F.filter fun q => !decide (kB B p < kB B q))).length : Nat)) = _
        rw [iN_len]
        rfl
      refine wp_set (t := .int (cntK (kB B) F p : Nat)) (S1 := S') (ev_prim1 (p := .len) ef el) rfl ?_
      dsimp only [En.put]
      have cl := cntK_le (kB B) F p
      refine wp_ins (j := cntK (kB B) F p) (t := .int (p : Nat)) (ev_slot rfl rfl) (ev_slot rfl rfl) rfl rfl (by rw [iN_len]; omega) (by omega) (wp_nil ?_)
      refine ⟨rfl, insK (kB B) F p, some (.int (p : Nat)), some (.int (cntK (kB B) F p : Nat)), fun q hq => ?_, rfl, by rw [(insK_perm (kB B) F p).length_eq, List.length_cons, lF], by rw [iN_ins]; rfl⟩
      rcases List.mem_cons.mp ((insK_perm (kB B) F p).mem_iff.mp hq) with z | z
      · rw [z]; exact hp
      · exact hF q z
    · rintro ρ S' ⟨rfl, F, x3, x4, hF, eF, lF, rfl⟩
      rw [iN_len, List.take_length] at eF
      refine wp_retO rfl ⟨_, _, rfl, rfl, ?_, rfl⟩
      rw [eF]
      rfl)
  exact e
/-! gaps -/
def gapF (B : List Rat) (s : Rat) (X : List Rat) (L : List Nat) (r : Bool) : Rat := s - (askL (kB B) (cB B) (gr X) L 0 + if r then (1 - lastK (kB B) L 0) * (cB B (L.headD 0) - 1 - gr X (L.headD 0)) else 0)
def mixT (s : Rat) (X : List Rat) : T := .tup [rT s, .tup (rTs X)]
def rowQ (q : List Nat × Bool) : T := .tup [.tup (iN q.1), .bl q.2]
structure MixOk (s : Rat) (X : List Rat) (n : Nat) : Prop where
  len : X.length = n
  nn : 0 ≤ s
  szs : Sz s 100
  szx : SzL X 20
theorem MixOk.at {s : Rat} {X : List Rat} {n p : Nat} (h : MixOk s X n) (hp : p < n) : Sz (gr X p) 20 := h.szx.gr (by rw [h.len]; exact hp)
/-- a row -/
structure RowOk (q : List Nat × Bool) (n : Nat) : Prop where
  ne : q.1 ≠ []
  asc : q.1.Pairwise (· < ·)
  lt : ∀ p ∈ q.1, p < n
theorem RowOk.len {q : List Nat × Bool} {n : Nat} (h : RowOk q n) : q.1.length ≤ n := by
  have := List.Nodup.length_le_of_subset (l₂ := List.range n) (h.asc.imp fun z => by omega) fun p hp => List.mem_range.mpr (h.lt p hp)
  rw [List.length_range] at this
  exact this
theorem mixT_0 (S : Store) (s : Rat) (X : List Rat) : sub (deref S (mixT s X)) (.int 0) = some (rT s) := rfl
theorem mixT_1 (S : Store) (s : Rat) (X : List Rat) : sub (deref S (mixT s X)) (.int 1) = some (.tup (rTs X)) := rfl
theorem rT_one : rT 1 = .tup [.int 1, .int 1] := rfl
theorem rT_zero : rT 0 = .tup [.int 0, .int 1] := rfl
theorem mix_gap_ok (n m : Nat) (B : List Rat) (hB : BdL B m) (s : Rat) (X : List Rat) (hX : MixOk s X m) (q : List Nat × Bool) (hq : RowOk q m) (S : Store) : FF (n + 6) i_mix_gap [.tup (rTs B), mixT s X, rowQ q] S = .ok (rT (gapF B s X (ordK (kB B) q.1) q.2), S) := by
  have lB := hB.len
  have lX := hX.len
  have m5 := hB.n5
  have lq := hq.len
  have io := in_order_ok n m B hB q.1 hq.lt (by omega) S
  obtain ⟨L, hL⟩ : ∃ L, L = ordK (kB B) q.1 := ⟨_, rfl⟩
  have pL := ordK_perm (kB B) q.1
  rw [← hL] at io pL ⊢
  have mL : ∀ p ∈ L, p < m := fun p hp => hq.lt p (pL.mem_iff.mp hp)
  have lL : L.length ≤ 5 := by rw [pL.length_eq]; omega
  have L0 : L ≠ [] := fun z => hq.ne (by rw [z] at pL; exact List.nil_perm.mp pL)
  obtain ⟨pl, r⟩ := q
  dsimp only at *
  obtain ⟨t, S', e, rfl, rfl⟩ := fn_Rt (n := n + 5) (f := i_mix_gap) (c := ⟨9, 3, c_mix_gap⟩) (ts := [.tup (rTs B), mixT s X, rowQ (pl, r)]) (S := S) (P := fun t S' => t = rT (gapF B s X L r) ∧ S' = S) g_mix_gap rfl (by
    show Wp (Rt _) (evalSs (FF (n + 5)) c_mix_gap [some (.tup (rTs B)), some (mixT s X), some (rowQ (pl, r)), none, none, none, none, none, none] S)
    dsimp only [c_mix_gap]
    refine wp_par (S1 := S) (xs := [.own (iN L), rT 0, rT 0]) (ep_cons (ev_call (ev_cons (t := .tup (rTs B)) (ev_slot rfl rfl) (ev_cons (t := .tup (iN pl)) (ev_sub (x := rowQ (pl, r)) (ev_slot rfl rfl) ev_cst rfl) ev_nil)) io) (ep_cons (ev_tup (ev_cons (t := .int 0) ev_cst (ev_cons (t := .int 1) ev_cst ev_nil))) (ep_cons (ev_tup (ev_cons (t := .int 0) ev_cst (ev_cons (t := .int 1) ev_cst ev_nil))) ep_nil))) rfl ?_
    have gB : ∀ (ρ : En) (j p : Nat), p < m → ρ.get 0 = some (.tup (rTs B)) → ρ.get j = some (.int (p : Nat)) → evalE (FF (n + 5)) ρ (.sub (.slot 0) (.slot j)) S = .ok (rT (gr B p), S) := fun ρ j p hp h0 hj => ev_sub (x := .tup (rTs B)) (ev_slot h0 rfl) (ev_slot hj rfl) (rTs_at S (by omega))
    have gX : ∀ (ρ : En) (j p : Nat), p < m → ρ.get 1 = some (mixT s X) → ρ.get j = some (.int (p : Nat)) → evalE (FF (n + 5)) ρ (.sub (.sub (.slot 1) (.cst (.int 1))) (.slot j)) S = .ok (rT (gr X p), S) := fun ρ j p hp h0 hj => ev_sub (x := .tup (rTs X)) (ev_sub (x := mixT s X) (ev_slot h0 rfl) ev_cst (mixT_1 S s X)) (ev_slot hj rfl) (rTs_at S (by omega))
    refine wp_for (xs := iN L) (fun i ρ S' => S' = S ∧ ∃ a l x6 x7, a + askL (kB B) (cB B) (gr X) (L.drop i) l = askL (kB B) (cB B) (gr X) L 0 ∧ lastK (kB B) (L.drop i) l = lastK (kB B) L 0 ∧ Sz a (75 * i + 1) ∧ Sz l 21 ∧ ρ = [some (.tup (rTs B)), some (mixT s X), some (rowQ (pl, r)), some (.lst (iN L)), some (rT l), some (rT a), x6, x7, none]) (fun _ _ => False) (it_seq (t := .lst (iN L)) (ev_slot rfl rfl) rfl) ⟨rfl, 0, 0, none, none, by rw [List.drop_zero]; grind, rfl, Sz01, Sz01.mono (by omega), rfl⟩ ?_ (fun _ _ z => z.elim) ?_
    · rintro i ρ S' hi ⟨rfl, a, l, x6, x7, h1, h2, za, zl, rfl⟩
      rw [iN_len] at hi
      have ex : (iN L)[i]'(by rw [iN_len]; exact hi) = .int (L[i] : Nat) := List.getElem_map _
      rw [ex]
      have hp := mL _ (List.getElem_mem hi)
      rw [List.drop_eq_getElem_cons hi] at h1 h2
      generalize L[i] = p at hp h1 h2 ⊢
      have hb := hB.at hp
      have zx := hX.at hp
      refine ⟨[some (.tup (rTs B)), some (mixT s X), some (rowQ (pl, r)), some (.lst (iN L)), some (rT l), some (rT a), some (.int (p : Nat)), x7, none], rfl, ?_⟩
      have po := part_of_ok (n + 1) (gr B p) hb S'
      have mi := minus_ok (n + 2) (kB B p) l hb.szp zl (by omega) S'
      refine wp_set (t := rT (kB B p - l)) (S1 := S') (ev_call (ev_cons (t := rT (kB B p)) (ev_call (ev_cons (t := rT (gr B p)) (gB _ 6 p hp rfl rfl) ev_nil) po) (ev_cons (t := rT l) (ev_slot rfl rfl) ev_nil)) mi) rfl ?_
      dsimp only [En.put]
      have z1 : Sz (kB B p - l) 43 := (Sz.sub hb.szp zl).mono (by omega)
      have z2 : Sz (cB B p - gr X p) 31 := (Sz.sub hb.szc zx).mono (by omega)
      have z3 : Sz ((kB B p - l) * (cB B p - gr X p)) 74 := Sz.mul z1 z2
      have ce := ceiling_ok (n + 4) (gr B p) hb.sz (by omega) S'
      have m2 := minus_ok (n + 2) (cB B p) (gr X p) hb.szc zx (by omega) S'
      have tm := times_ok (n + 2) (kB B p - l) (cB B p - gr X p) z1 z2 (by omega) S'
      have pls := plus_ok (n + 2) a ((kB B p - l) * (cB B p - gr X p)) za z3 (by omega) S'
      refine wp_set (t := rT (a + (kB B p - l) * (cB B p - gr X p))) (S1 := S') (ev_call (ev_cons (t := rT a) (ev_slot rfl rfl) (ev_cons (t := rT ((kB B p - l) * (cB B p - gr X p))) (ev_call (ev_cons (t := rT (kB B p - l)) (ev_slot rfl rfl) (ev_cons (t := rT (cB B p - gr X p)) (ev_call (ev_cons (t := rT (cB B p)) (ev_tup (ev_cons (t := .int (ceilR (gr B p))) (ev_call (ev_cons (t := rT (gr B p)) (gB _ 6 p hp rfl rfl) ev_nil) ce) (ev_cons (t := .int 1) ev_cst ev_nil))) (ev_cons (t := rT (gr X p)) (gX _ 6 p hp rfl rfl) ev_nil)) m2) ev_nil)) tm) ev_nil)) pls) rfl ?_
      dsimp only [En.put]
      refine wp_set (t := rT (kB B p)) (S1 := S') (ev_call (ev_cons (t := rT (gr B p)) (gB _ 6 p hp rfl rfl) ev_nil) po) rfl (wp_nil ?_)
      dsimp only [En.put]
      refine ⟨rfl, a + (kB B p - l) * (cB B p - gr X p), kB B p, some (.int (p : Nat)), some (rT (kB B p - l)), ?_, h2, (Sz.add za z3).mono (by omega), hb.szp, rfl⟩
      rw [← h1]
      show _ = a + ((kB B p - l) * (cB B p - gr X p) + askL (kB B) (cB B) (gr X) (L.drop (i + 1)) (kB B p))
      grind
    · rintro ρ S' ⟨rfl, a, l, x6, x7, h1, h2, za, zl, rfl⟩
      rw [iN_len, List.drop_length] at h1 h2
      rw [iN_len] at za
      have h1 : a = askL (kB B) (cB B) (gr X) L 0 := by
        have : a + 0 = askL (kB B) (cB B) (gr X) L 0 := h1
        rw [← this]
        grind
      have h2 : l = lastK (kB B) L 0 := h2
      have za : Sz a 376 := za.mono (by omega)
      unfold gapF
      rw [← h1, ← h2]
      have s0 : ∀ ρ : En, ρ.get 1 = some (mixT s X) → evalE (FF (n + 5)) ρ (.sub (.slot 1) (.cst (.int 0))) S' = .ok (rT s, S') := fun ρ h => ev_sub (x := mixT s X) (ev_slot h rfl) ev_cst (mixT_0 S' s X)
      cases r with
      | false =>
        refine wp_if_n (ev_sub (x := rowQ (pl, false)) (ev_slot rfl rfl) ev_cst rfl) ?_
        have mi := minus_ok (n + 2) s a hX.szs za (by omega) S'
        have ea : (a + if (false : Bool) = true then (1 - l) * (cB B (L.headD 0) - 1 - gr X (L.headD 0)) else 0) = a := by rw [if_neg Bool.false_ne_true]; grind
        rw [ea]
        exact wp_ret (ev_call (ev_cons (t := rT s) (s0 _ rfl) (ev_cons (t := rT a) (ev_slot rfl rfl) ev_nil)) mi) ⟨_, _, rfl, rfl, rfl, rfl⟩
      | true =>
        refine wp_if_t (ev_sub (x := rowQ (pl, true)) (ev_slot rfl rfl) ev_cst rfl) ?_
        dsimp only [List.cons_append, List.nil_append]
        obtain ⟨p, L', eL⟩ := List.exists_cons_of_ne_nil L0
        have hp : p < m := mL p (by rw [eL]; exact List.mem_cons_self)
        have hd : L.headD 0 = p := by rw [eL]; rfl
        rw [hd, if_pos rfl]
        have s3 : sub (deref S' (.lst (iN L))) (.int 0) = some (.int (p : Nat)) := by
          rw [eL]
          show L2.atI (T.int (p : Nat) :: iN L') ((0 : Nat) : Int) = _
          rw [atI_nn _ _ (by omega)]
          rfl
        refine wp_set (t := .int (p : Nat)) (S1 := S') (ev_sub (x := .lst (iN L)) (ev_slot rfl rfl) ev_cst s3) rfl ?_
        dsimp only [En.put]
        have hb := hB.at hp
        have zx := hX.at hp
        have o1 : Sz (1 : Rat) 1 := ⟨by decide, by decide⟩
        have z1 : Sz (1 - l) 23 := (Sz.sub o1 zl).mono (by omega)
        have ecd : cB B p - 1 = ((ceilR (gr B p) - 1 : Int) : Rat) := (cast_pred _).symm
        have z2 : Sz (cB B p - 1 - gr X p) 31 := by rw [ecd]; exact (Sz.sub hb.szd zx).mono (by omega)
        have z3 : Sz ((1 - l) * (cB B p - 1 - gr X p)) 54 := Sz.mul z1 z2
        have m1 := minus_ok (n + 2) 1 l o1 zl (by omega) S'
        have ce := ceiling_ok (n + 4) (gr B p) hb.sz (by omega) S'
        have m2 := minus_ok (n + 2) ((ceilR (gr B p) - 1 : Int) : Rat) (gr X p) hb.szd zx (by omega) S'
        rw [← ecd] at m2
        have tm := times_ok (n + 2) (1 - l) (cB B p - 1 - gr X p) z1 z2 (by omega) S'
        have pls := plus_ok (n + 2) a ((1 - l) * (cB B p - 1 - gr X p)) za z3 (by omega) S'
        have z4 : Sz (a + (1 - l) * (cB B p - 1 - gr X p)) 431 := (Sz.add za z3).mono (by omega)
        have tcd : rT (cB B p - 1) = .tup [.int (ceilR (gr B p) - 1), .int 1] := by rw [ecd]; rfl
        refine wp_set (t := rT (a + (1 - l) * (cB B p - 1 - gr X p))) (S1 := S') (ev_call (ev_cons (t := rT a) (ev_slot rfl rfl) (ev_cons (t := rT ((1 - l) * (cB B p - 1 - gr X p))) (ev_call (ev_cons (t := rT (1 - l)) (ev_call (ev_cons (t := rT 1) (ev_tup (ev_cons (t := .int 1) ev_cst (ev_cons (t := .int 1) ev_cst ev_nil))) (ev_cons (t := rT l) (ev_slot rfl rfl) ev_nil)) m1) (ev_cons (t := rT (cB B p - 1 - gr X p)) (ev_call (ev_cons (t := rT (cB B p - 1)) (by
          rw [tcd]
          exact ev_tup (ev_cons (t := .int (ceilR (gr B p) - 1)) (ev_bin (ev_call (ev_cons (t := rT (gr B p)) (gB _ 8 p hp rfl rfl) ev_nil) ce) ev_cst rfl) (ev_cons (t := .int 1) ev_cst ev_nil))) (ev_cons (t := rT (gr X p)) (gX _ 8 p hp rfl rfl) ev_nil)) m2) ev_nil)) tm) ev_nil)) pls) rfl ?_
        dsimp only [En.put]
        have mi := minus_ok (n + 2) s (a + (1 - l) * (cB B p - 1 - gr X p)) hX.szs z4 (by omega) S'
        exact wp_ret (ev_call (ev_cons (t := rT s) (s0 _ rfl) (ev_cons (t := rT (a + (1 - l) * (cB B p - 1 - gr X p))) (ev_slot rfl rfl) ev_nil)) mi) ⟨_, _, rfl, rfl, rfl, rfl⟩)
  exact e

/-! refusals: tests of rows at any value; exceptions by wishes; menus -/
def rk : T → Bool
  | .tup xs => xs.all vk && decide (xs.length ≤ 1000)
  | t => vk t
/-- a tuple of so many things of a kind -/
def isRow (m : Nat) (q : T → Bool) : T → Bool
  | .tup xs => decide (xs.length = m) && xs.all q
  | _ => false
theorem rk_vk {v : T} (h : rk v = true) : vk v = true := by cases v <;> first | rfl | exact h
theorem isT_ev {F : Fns} {ρ : En} {S : Store} {i : Nat} {v : T} (hv : vk v = true) (h : ρ.get i = some v) : evalE F ρ (.isinst (.slot i) [.tuple]) S = .ok (.bl (isTup v), S) := by
  obtain ⟨y, hy, hb⟩ := vk_ty hv
  exact ev_isinst (ev_slot h (vk_own hv)) hy (by rw [List.any_cons, hb]; simp)
theorem all_ev {F : Fns} {ρ : En} {S : Store} {xs : List T} {i j : Nat} {elt : CE} {q : T → Bool} (hk : rk (.tup xs) = true) (gi' : ρ.get i = some (.tup xs)) (hc : ∀ x, vk x = true → evalE F (ρ.put j x) elt S = .ok (.bl (q x), S)) : evalE F ρ (.prim .all [.comp elt (.name j) (.seq (.slot i)) none]) S = .ok (.bl (xs.all q), S) := by
  simp only [rk, Bool.and_eq_true, decide_eq_true_eq] at hk
  have ec := ev_mapA (F := F) (ρ := ρ) (S := S) (S' := S) (elt := elt) (j := j) (it := .seq (.slot i)) (L := xs) id (fun x => .bl (q x)) (by rw [List.map_id]; exact it_seq (t := .tup xs) (ev_slot gi' rfl) rfl) (by omega) (fun x hx => by
    have kx := List.all_eq_true.mp hk.1 x hx
    exact ⟨vk_own kx, rfl, hc x kx⟩)
  have em : xs.map (fun x => T.bl (q x)) = (xs.map q).map T.bl := by rw [List.map_map]; rfl
  rw [em] at ec
  have pa := pr_allL (xs.map q)
  have ef : (xs.map q).all id = xs.all q := by rw [List.all_map]; rfl
  rw [ef] at pa
  exact ev_prim1 (p := .all) ec pa
theorem len_ev {F : Fns} {ρ : En} {S : Store} {xs : List T} {i : Nat} (gi' : ρ.get i = some (.tup xs)) : evalE F ρ (.prim .len [.slot i]) S = .ok (.int xs.length, S) :=
  ev_prim (ev_cons (t := .tup xs) (ev_slot gi' rfl) ev_nil) rfl
theorem row_test {F : Fns} {ρ : En} {S : Store} {v : T} {i j m : Nat} {ep elt : CE} {q : T → Bool} (hk : rk v = true) (gi' : ρ.get i = some v) (he : evalE F ρ ep S = .ok (.int m, S)) (hc : ∀ x, vk x = true → evalE F (ρ.put j x) elt S = .ok (.bl (q x), S)) :
    evalE F ρ (.or (.not (.isinst (.slot i) [.tuple])) (.or (.cmp .ne (.prim .len [.slot i]) ep) (.not (.prim .all [.comp elt (.name j) (.seq (.slot i)) none])))) S = .ok (.bl (!isRow m q v), S) := by
  have gt := isT_ev (F := F) (S := S) (rk_vk hk) gi'
  cases hv : isTup v with
  | false =>
    rw [hv] at gt
    have e : isRow m q v = false := by cases v <;> first | rfl | cases hv
    rw [e]
    exact ev_or_t (ev_not gt)
  | true =>
    rw [hv] at gt
    obtain ⟨xs, rfl⟩ : ∃ xs, v = .tup xs := by cases v <;> first | exact ⟨_, rfl⟩ | cases hv
    have gl := len_ev (F := F) (S := S) gi'
    have bb := all_ev (F := F) (S := S) hk gi' hc
    refine ev_or_f (ev_not gt) ?_
    by_cases c : xs.length = m
    · have e : isRow m q (.tup xs) = xs.all q := by simp [isRow, c]
      rw [e]
      exact ev_or_f (ev_cmp gl he (co_nef (by omega))) (ev_not bb)
    · have e : isRow m q (.tup xs) = false := by simp [isRow, c]
      rw [e]
      exact ev_or_t (ev_cmp gl he (co_ne (by omega)))
/-- the test of the length alone -/
theorem len_test {F : Fns} {ρ : En} {S : Store} {v : T} {i m : Nat} {ep : CE} (hk : rk v = true) (gi' : ρ.get i = some v) (he : evalE F ρ ep S = .ok (.int m, S)) :
    evalE F ρ (.or (.not (.isinst (.slot i) [.tuple])) (.cmp .ne (.prim .len [.slot i]) ep)) S = .ok (.bl (!isRow m (fun _ => true) v), S) := by
  have gt := isT_ev (F := F) (S := S) (rk_vk hk) gi'
  cases hv : isTup v with
  | false =>
    rw [hv] at gt
    have e : isRow m (fun _ => true) v = false := by cases v <;> first | rfl | cases hv
    rw [e]
    exact ev_or_t (ev_not gt)
  | true =>
    rw [hv] at gt
    obtain ⟨xs, rfl⟩ : ∃ xs, v = .tup xs := by cases v <;> first | exact ⟨_, rfl⟩ | cases hv
    have gl := len_ev (F := F) (S := S) gi'
    refine ev_or_f (ev_not gt) (ev_as (ev_cmp gl he (r := !decide ((xs.length : Int) = (m : Int))) rfl) ?_)
    by_cases c : xs.length = m
    · simp [isRow, c]
    · have : ¬ (xs.length : Int) = (m : Int) := by omega
      simp [isRow, c, this]
/-- a wish: an exception -/
def Xc (k : Nat) (as : List T) (S : Store) (r : Res Fl) : Prop := ∃ ρ, r = .ok (.xc k as ρ S)
theorem fn_X {n f : Nat} {c : CFn} {ts as : List T} {k : Nat} {S : Store} (hG : Gam tab f = some c) (hl : ts.length = c.params) (h : Wp (Xc k as S) (evalSs (FF n) c.body (ts.map some ++ List.replicate (c.slots - c.params) none) S)) : FF (n + 1) f ts S = .exc k as S := by
  obtain ⟨⟨ρ, e⟩⟩ := h
  exact fn_xc hG hl e rfl
/-- a wish: it goes on, nothing changed -/
def Nx (ρ : En) (S : Store) (r : Res Fl) : Prop := r = .ok (.nx ρ S)
theorem xs_tryN {F : Fns} {b : List CS} {hs : List CH} {ρ ρ' : En} {S S' : Store} (h : evalSs F b ρ S = .ok (.nx ρ' S')) : evalS F (.tryX b hs) ρ S = .ok (.nx ρ' S') := by
  rw [xs_tryX, h]
theorem wp_tryN {F : Fns} {b cs : List CS} {hs : List CH} {ρ ρ' : En} {S S' : Store} {Q : Res Fl → Prop} (h : evalSs F b ρ S = .ok (.nx ρ' S')) (k : Wp Q (evalSs F cs ρ' S')) : Wp Q (evalSs F (.tryX b hs :: cs) ρ S) := by
  rw [step_nx (xs_tryN h)]
  exact k
theorem wp_tryX {F : Fns} {b cs : List CS} {hs : List CH} {ρ ρ' : En} {S S' S2 : Store} {k : Nat} {as : List T} {t : T} {Q : Res Fl → Prop} (h : evalSs F b ρ S = .ok (.xc k as ρ' S')) (h2 : evalHs F hs k as ρ' S' = .ok (.rt t S2)) (kq : Q (.ok (.rt t S2))) : Wp Q (evalSs F (.tryX b hs :: cs) ρ S) := by
  have e : evalS F (.tryX b hs) ρ S = .ok (.rt t S2) := by
    rw [xs_tryX, h]
    exact h2
  rw [ss_rt e]
  exact ⟨kq⟩
theorem ss_menu {F : Fns} {ρ : En} {S S1 : Store} {c : CE} {L : List (Str × Nat)} {es : List CE} {ts : List T} {t : T} {x : Str} {n : Nat} {cs : List CS} {r : Res Fl} (hf : evalE F ρ c S = .ok (.fn x n, S)) (hm : (x, n) ∈ L) (ha : evalEs F ρ es S = .ok (ts, S)) (h : F n ts S = .ok (t, S1)) (k : evalSs F cs ρ S1 = r) : evalSs F (.xcall .drop (.e c L) es :: cs) ρ S = r := by
  refine ss_nx (ρ' := ρ) (S' := S1) ?_ k
  simp only [evalS, callX, hf, hm, if_true, ha, h, koS]
theorem ss_menuX {F : Fns} {ρ : En} {S : Store} {c : CE} {L : List (Str × Nat)} {es : List CE} {ts as : List T} {x : Str} {n k : Nat} {cs : List CS} (hf : evalE F ρ c S = .ok (.fn x n, S)) (hm : (x, n) ∈ L) (ha : evalEs F ρ es S = .ok (ts, S)) (h : F n ts S = .exc k as S) : evalSs F (.xcall .drop (.e c L) es :: cs) ρ S = .ok (.xc k as ρ S) := by
  refine ss_xc ?_
  simp only [evalS, callX, hf, hm, if_true, ha, h]
theorem ev_as1 {F : Fns} {ρ : En} {S : Store} {i : Nat} {t : T} (h1 : ρ.get i = some t) (o1 : t.isOwn = false) : evalEs F ρ [.slot i] S = .ok ([t], S) := by
  have e := ev_cons (F := F) (ρ := ρ) (S := S) (e := .slot i) (t := t) (ev_slot h1 o1) ev_nil
  rw [vw_of o1] at e
  exact e
theorem ev_as2 {F : Fns} {ρ : En} {S : Store} {i j : Nat} {t u : T} (h1 : ρ.get i = some t) (h2 : ρ.get j = some u) (o1 : t.isOwn = false) (o2 : u.isOwn = false) : evalEs F ρ [.slot i, .slot j] S = .ok ([t, u], S) := by
  have e := ev_cons (F := F) (ρ := ρ) (S := S) (e := .slot i) (t := t) (ev_slot h1 o1) (ev_cons (e := .slot j) (t := u) (ev_slot h2 o2) ev_nil)
  rw [vw_of o1, vw_of o2] at e
  exact e
theorem ev_as3 {F : Fns} {ρ : En} {S : Store} {i j l : Nat} {t u v : T} (h1 : ρ.get i = some t) (h2 : ρ.get j = some u) (h3 : ρ.get l = some v) (o1 : t.isOwn = false) (o2 : u.isOwn = false) (o3 : v.isOwn = false) : evalEs F ρ [.slot i, .slot j, .slot l] S = .ok ([t, u, v], S) := by
  have e := ev_cons (F := F) (ρ := ρ) (S := S) (e := .slot i) (t := t) (ev_slot h1 o1) (ev_cons (e := .slot j) (t := u) (ev_slot h2 o2) (ev_cons (e := .slot l) (t := v) (ev_slot h3 o3) ev_nil))
  rw [vw_of o1, vw_of o2, vw_of o3] at e
  exact e
/-- the first statement's call raises -/
theorem first2_X {n f g : Nat} {c : CFn} {rest : List CS} {v x : T} {us as : List T} {k : Nat} {S : Store} (hG : Gam tab f = some c) (hb : c.body = .xcall .drop (.f g) [.slot 0, .slot 1] :: rest) (hl : (v :: x :: us).length = c.params) (ov : v.isOwn = false) (ox : x.isOwn = false) (e : FF n g [v, x] S = .exc k as S) : FF (n + 1) f (v :: x :: us) S = .exc k as S := by
  refine fn_X hG hl ?_
  rw [hb]
  refine wp_xdropX (ts := [v, x]) (ev_as2 (t := v) (u := x) rfl rfl ov ox) e ⟨_, rfl⟩
theorem first1_X {n f g : Nat} {c : CFn} {rest : List CS} {v : T} {us as : List T} {k : Nat} {S : Store} (hG : Gam tab f = some c) (hb : c.body = .xcall .drop (.f g) [.slot 0] :: rest) (hl : (v :: us).length = c.params) (ov : v.isOwn = false) (e : FF n g [v] S = .exc k as S) : FF (n + 1) f (v :: us) S = .exc k as S := by
  refine fn_X hG hl ?_
  rw [hb]
  exact wp_xdropX (ts := [v]) (ev_as1 (t := v) rfl ov) e ⟨_, rfl⟩

/-! shifts, tests of places (shl_one of fam3, in_ev of fam5, by other names) -/
theorem shl_oneM (n : Nat) (h : n ≤ 1000) : bop .shl (.int 1) (.int (n : Int)) = some (.int ((2 ^ n : Nat) : Int)) := by
  show (bopI .shl 1 (n : Int)).map T.int = _
  have e : bopI .shl 1 (n : Int) = some (1 * 2 ^ ((n : Int)).toNat) := by
    show (if decide ((0 : Int) ≤ (n : Int)) && decide ((n : Int) ≤ 1000) && decide ((1 : Int).natAbs < 2 ^ 64) then some ((1 : Int) * 2 ^ ((n : Int)).toNat) else none) = _
    rw [decide_eq_true (by omega), decide_eq_true (by omega)]
    rfl
  rw [e, Int.toNat_natCast, Int.one_mul]
  simp
theorem in_evM (k : Nat) {F : Fns} {ρ : En} {S : Store} {j : Nat} {a b : Int} {ea eb : CE} (hF : F = FF (k + 2)) (ha : ∀ x, evalE F (ρ.put j x) ea S = .ok (.int a, S)) (hb : ∀ x, evalE F (ρ.put j x) eb S = .ok (.int b, S)) (hg : ∀ x, (ρ.put j x).get j = some x) : ∀ x, vk x = true → evalE F (ρ.put j x) (.call i_is_in [.slot j, ea, eb]) S = .ok (.bl (inI a b x), S) := by
  intro x hx
  subst hF
  have e := is_in_any k x a b hx S
  rw [← vk_view hx] at e
  exact ev_as (ev_call (ev_cons (t := x) (ev_slot (hg x) (vk_own hx)) (ev_cons (t := .int a) (ha x) (ev_cons (t := .int b) (hb x) ev_nil))) e) (by rw [vk_view hx])

/-! mixing: tests of bounds, of mixes, of rows; rows; gaps by the program's own def -/
theorem len_rTs {F : Fns} {ρ : En} {S : Store} {a : CE} {L : List Rat} (h : evalE F ρ a S = .ok (.tup (rTs L), S)) : evalE F ρ (.prim .len [a]) S = .ok (.int L.length, S) := by
  rw [← rTs_len]
  exact ev_prim1 (p := .len) h rfl
theorem need_bounds_ok (n m : Nat) (B : List Rat) (hB : BdL B m) (S : Store) : FF (n + 3) i_need_bounds [.tup (rTs B)] S = .ok (.non, S) := by
  have lB := hB.len
  have m1 := hB.n1
  have m5 := hB.n5
  refine fn_is (c := ⟨2, 1, c_need_bounds⟩) (ts := [.tup (rTs B)]) g_need_bounds rfl ?_
  show Wp _ (evalSs (FF (n + 2)) c_need_bounds [some (.tup (rTs B)), none] S)
  dsimp only [c_need_bounds]
  have ch := ev_chainA (F := FF (n + 2)) (ρ := [some (.tup (rTs B)), none]) (S := S) (o := .le) (o' := .le) (a := .cst (.int 1)) (c := .cst (.int 5)) ev_cst (len_rTs (a := .slot 0) (ev_slot rfl rfl)) ev_cst
  have e1 : (ltI .le 1 (B.length : Int) && ltI .le (B.length : Int) 5) = true := by
    simp [ltI]
    omega
  rw [e1] at ch
  refine wp_if_n (ev_or_f (ev_not (b := true) (ev_isinst (x := .tup (rTs B)) (ev_slot rfl rfl) rfl rfl)) (ev_not ch)) ?_
  refine wp_forid (S1 := S) (xs := rTs B) (it_seq (t := .tup (rTs B)) (ev_slot rfl rfl) rfl) (fun x hx => ?_) fun o => wp_nil ⟨rfl, rfl⟩
  obtain ⟨b, hb, rfl⟩ := List.mem_map.mp hx
  have hb := hB.bd b hb
  have ir := is_ratio_rT n b hb.sz (by omega) S
  have nine : Sz ((999 : Int) : Rat) 10 := Sz.int (by decide) (by omega)
  have bo := below_ok (n + 1) ((999 : Int) : Rat) b nine hb.sz (by omega) S
  have lt : ¬ ((999 : Int) : Rat) < b := Rat.not_lt.mpr hb.le
  rw [decide_eq_false lt] at bo
  have nn : ¬ b.num < 0 := by
    have := Rat.num_nonneg.mpr hb.nn
    omega
  exact ⟨rfl, ss_nx (st_if_n (ev_or_f (ev_not (b := true) (ev_call (ev_cons (t := rT b) (ev_slot rfl rfl) ev_nil) ir)) (ev_or_f (ev_cmp (ev_num rfl) ev_cst (co_ltf nn)) (ev_call (ev_cons (t := rT ((999 : Int) : Rat)) (ev_tup (ev_cons (t := .int 999) ev_cst (ev_cons (t := .int 1) ev_cst ev_nil))) (ev_cons (t := rT b) (ev_slot rfl rfl) ev_nil)) bo)))) ss_no⟩
theorem all_ratios (n : Nat) {ρ : En} {S : Store} {a : CE} {j : Nat} {L : List Rat} {k : Nat} (hs : SzL L k) (hk : k ≤ 8000) (hl : L.length ≤ 1000) (hg : ∀ x, (ρ.put j x).get j = some x) (h : evalE (FF (n + 2)) ρ a S = .ok (.tup (rTs L), S)) : evalE (FF (n + 2)) ρ (.prim .all [.comp (.call i_is_ratio [.slot j]) (.name j) (.seq a) none]) S = .ok (.bl true, S) := by
  have ec := ev_mapA (F := FF (n + 2)) (ρ := ρ) (S := S) (S' := S) (elt := .call i_is_ratio [.slot j]) (j := j) (it := .seq a) (L := L) rT (fun _ => .bl true) (it_seq (t := .tup (rTs L)) h rfl) (by omega) (fun r hr => ⟨rfl, rfl, ev_call (ev_cons (t := rT r) (ev_slot (hg _) rfl) ev_nil) (is_ratio_rT n r (hs r hr) hk S)⟩)
  have em : L.map (fun _ => T.bl true) = (L.map fun _ => true).map T.bl := by rw [List.map_map]; rfl
  rw [em] at ec
  have pa := pr_allL (L.map fun _ => true)
  have ef : (L.map fun _ => true).all id = true := by simp
  rw [ef] at pa
  exact ev_prim1 (p := .all) ec pa
theorem need_mix_ok (n m : Nat) (B : List Rat) (hB : BdL B m) (s : Rat) (X : List Rat) (hX : MixOk s X m) (S : Store) : FF (n + 3) i_need_mix [.tup (rTs B), mixT s X] S = .ok (.non, S) := by
  have lB := hB.len
  have lX := hX.len
  have m5 := hB.n5
  have ir := is_ratio_rT n s hX.szs (by omega) S
  refine fn_is (c := ⟨3, 2, c_need_mix⟩) (ts := [.tup (rTs B), mixT s X]) g_need_mix rfl ?_
  show Wp _ (evalSs (FF (n + 2)) c_need_mix [some (.tup (rTs B)), some (mixT s X), none] S)
  dsimp only [c_need_mix]
  have nn : ¬ s.num < 0 := by
    have := Rat.num_nonneg.mpr hX.nn
    omega
  have p0 : evalE (FF (n + 2)) [some (.tup (rTs B)), some (mixT s X), none] (.sub (.slot 1) (.cst (.int 0))) S = .ok (rT s, S) := ev_sub (x := mixT s X) (ev_slot rfl rfl) ev_cst (mixT_0 S s X)
  have p1 : evalE (FF (n + 2)) [some (.tup (rTs B)), some (mixT s X), none] (.sub (.slot 1) (.cst (.int 1))) S = .ok (.tup (rTs X), S) := ev_sub (x := mixT s X) (ev_slot rfl rfl) ev_cst (mixT_1 S s X)
  refine wp_if_n (ev_or_f (ev_not (b := true) (ev_isinst (x := mixT s X) (ev_slot rfl rfl) rfl rfl)) (ev_or_f (ev_cmp (x := .int 2) (ev_prim1 (p := .len) (t := mixT s X) (ev_slot rfl rfl) rfl) ev_cst (co_nef rfl)) (ev_or_f (ev_not (b := true) (ev_call (ev_cons (t := rT s) p0 ev_nil) ir)) (ev_cmp (ev_sub (x := rT s) p0 ev_cst (rT_0 S s)) ev_cst (co_ltf nn))))) ?_
  refine wp_if_n (ev_or_f (ev_not (b := true) (ev_isinst (x := .tup (rTs X)) p1 rfl rfl)) (ev_cmp (len_rTs p1) (len_rTs (a := .slot 0) (ev_slot rfl rfl)) (co_nef (by omega)))) ?_
  exact wp_if_n (ev_not (b := true) (all_ratios n hX.szx (by omega) (by omega) (fun _ => rfl) p1)) (wp_nil ⟨rfl, rfl⟩)
theorem rowQ_0 (S : Store) (q : List Nat × Bool) : sub (deref S (rowQ q)) (.int 0) = some (.tup (iN q.1)) := rfl
theorem rowQ_1 (S : Store) (q : List Nat × Bool) : sub (deref S (rowQ q)) (.int 1) = some (.bl q.2) := rfl
theorem iN_at {L : List Nat} {i : Nat} (h : i < L.length) : L2.atI (iN L) (i : Nat) = some (.int (L[i] : Nat)) := by
  rw [atI_nn _ _ (by omega), Int.toNat_natCast]
  unfold iN
  rw [List.getElem?_map, List.getElem?_eq_getElem h]
  rfl
theorem iN_eq_nil {L : List Nat} (h : L ≠ []) : cop .eq (.tup (iN L)) (.tup []) = some false := by
  have := cop_ti (L.map fun i : Nat => (i : Int)) []
  rw [decide_eq_false (fun z => h (List.map_eq_nil_iff.mp z))] at this
  unfold ti at this
  rw [List.map_map] at this
  exact this
theorem need_mixing_row_ok (n m : Nat) (B : List Rat) (hB : BdL B m) (q : List Nat × Bool) (hq : RowOk q m) (S : Store) : FF (n + 3) i_need_mixing_row [.tup (rTs B), rowQ q] S = .ok (.non, S) := by
  have lB := hB.len
  have m5 := hB.n5
  have lq := hq.len
  refine fn_is (c := ⟨3, 2, c_need_mixing_row⟩) (ts := [.tup (rTs B), rowQ q]) g_need_mixing_row rfl ?_
  show Wp _ (evalSs (FF (n + 2)) c_need_mixing_row [some (.tup (rTs B)), some (rowQ q), none] S)
  dsimp only [c_need_mixing_row]
  have p0 : ∀ ρ : En, ρ.get 1 = some (rowQ q) → evalE (FF (n + 2)) ρ (.sub (.slot 1) (.cst (.int 0))) S = .ok (.tup (iN q.1), S) := fun ρ h => ev_sub (x := rowQ q) (ev_slot h rfl) ev_cst (rowQ_0 S q)
  have p1 : ∀ ρ : En, ρ.get 1 = some (rowQ q) → evalE (FF (n + 2)) ρ (.sub (.slot 1) (.cst (.int 1))) S = .ok (.bl q.2, S) := fun ρ h => ev_sub (x := rowQ q) (ev_slot h rfl) ev_cst (rowQ_1 S q)
  refine wp_if_n (ev_or_f (ev_not (b := true) (ev_isinst (x := rowQ q) (ev_slot rfl rfl) rfl rfl)) (ev_or_f (ev_cmp (x := .int 2) (ev_prim1 (p := .len) (t := rowQ q) (ev_slot rfl rfl) rfl) ev_cst (co_nef rfl)) (ev_or_f (ev_not (b := true) (ev_isinst (x := .tup (iN q.1)) (p0 _ rfl) rfl rfl)) (ev_not (b := true) (ev_isinst (x := .bl q.2) (p1 _ rfl) rfl rfl))))) ?_
  have lN : ∀ x, evalE (FF (n + 2)) [some (.tup (rTs B)), some (rowQ q), some x] (.bin .sub (.prim .len [.slot 0]) (.cst (.int 1))) S = .ok (.int ((m : Int) - 1), S) := fun x => ev_bin (x := .int (m : Nat)) (by rw [← lB]; exact len_rTs (a := .slot 0) (ev_slot rfl rfl)) ev_cst rfl
  have ie := in_evM n (F := FF (n + 2)) (ρ := [some (.tup (rTs B)), some (rowQ q), none]) (S := S) (j := 2) (a := 0) (b := (m : Int) - 1) (ea := .cst (.int 0)) (eb := .bin .sub (.prim .len [.slot 0]) (.cst (.int 1))) rfl (fun _ => ev_cst) lN (fun _ => rfl)
  have ec := ev_mapA (F := FF (n + 2)) (ρ := [some (.tup (rTs B)), some (rowQ q), none]) (S := S) (S' := S) (elt := .call i_is_in [.slot 2, .cst (.int 0), .bin .sub (.prim .len [.slot 0]) (.cst (.int 1))]) (j := 2) (it := .seq (.sub (.slot 1) (.cst (.int 0)))) (L := q.1) (fun p => .int (p : Nat)) (fun _ => .bl true) (it_seq (t := .tup (iN q.1)) (p0 _ rfl) rfl) (by omega) (fun p hp => by
    refine ⟨rfl, rfl, ?_⟩
    have := ie (.int (p : Nat)) rfl
    have e : inI 0 ((m : Int) - 1) (.int (p : Nat)) = true := by
      have := hq.lt p hp
      simp [inI]
      omega
    rw [e] at this
    exact this)
  have em : q.1.map (fun _ => T.bl true) = (q.1.map fun _ => true).map T.bl := by rw [List.map_map]; rfl
  rw [em] at ec
  have pa := pr_allL (q.1.map fun _ => true)
  have ef : (q.1.map fun _ => true).all id = true := by simp
  rw [ef] at pa
  refine wp_if_n (ev_or_f (ev_cmp (x := .tup (iN q.1)) (p0 _ rfl) (ev_tup ev_nil) (iN_eq_nil hq.ne)) (ev_not (b := true) (ev_prim1 (p := .all) ec pa))) ?_
  have ll : evalE (FF (n + 2)) [some (.tup (rTs B)), some (rowQ q), none] (.prim .len [.sub (.slot 1) (.cst (.int 0))]) S = .ok (.int q.1.length, S) := by
    rw [← iN_len]
    exact ev_prim1 (p := .len) (p0 _ rfl) rfl
  have hr := it_rng2 (F := FF (n + 2)) (ρ := [some (.tup (rTs B)), some (rowQ q), none]) (S := S) (S' := S) (S'' := S) (a := .cst (.int 1)) (b := .prim .len [.sub (.slot 1) (.cst (.int 0))]) (i := 1) (j := (q.1.length : Int)) ev_cst ll (by omega) (by omega)
  have eas := compL_const (step := turn (FF (n + 2)) [some (.tup (rTs B)), some (rowQ q), none] (.cmp .lt (.sub (.sub (.slot 1) (.cst (.int 0))) (.bin .sub (.slot 2) (.cst (.int 1)))) (.sub (.sub (.slot 1) (.cst (.int 0))) (.slot 2))) (.name 2) none) (S := S) (xs := rangeT 1 ((q.1.length : Int) - 1).toNat) true (fun x hx => by
    obtain ⟨j, hj, rfl⟩ := rangeT_mem hx
    have ej : (1 : Int) + (j : Int) = ((j + 1 : Nat) : Int) := by omega
    rw [ej]
    have l1 : j + 1 < q.1.length := by omega
    have lt := List.pairwise_iff_getElem.mp hq.asc j (j + 1) (by omega) l1 (by omega)
    refine turn_none rfl (ev_cmp (x := .int (q.1[j] : Nat)) (y := .int (q.1[j + 1] : Nat)) (ev_sub (x := .tup (iN q.1)) (y := .int ((j : Nat) : Int)) (p0 _ rfl) (ev_bin (ev_slot rfl rfl) ev_cst (by
      have : ((j : Nat) : Int) = ((j + 1 : Nat) : Int) - 1 := by omega
      rw [this]
      rfl)) (iN_at (by omega))) (ev_sub (x := .tup (iN q.1)) (p0 _ rfl) (ev_slot rfl rfl) (iN_at l1)) (co_lt (by omega))))
  obtain ⟨zs, ez, lz, hz⟩ := eas
  have az : prim .all [.lst zs] = some (.bl true) := by
    have e2 : zs = (zs.map fun _ => true).map T.bl := by
      rw [List.map_map]
      refine (List.map_id'' (fun _ => rfl) zs).symm.trans (List.map_congr_left fun z hz' => ?_)
      exact hz z hz'
    rw [e2, pr_allL]
    simp
  exact wp_if_n (ev_not (b := true) (ev_prim1 (p := .all) (ev_comp hr (by rw [rangeT_len]; omega) ez) az)) (wp_nil ⟨rfl, rfl⟩)
theorem mixing_gap_ok (n m : Nat) (B : List Rat) (hB : BdL B m) (s : Rat) (X : List Rat) (hX : MixOk s X m) (q : List Nat × Bool) (hq : RowOk q m) (S : Store) : FF (n + 7) i_mixing_gap [.tup (rTs B), mixT s X, rowQ q] S = .ok (rT (gapF B s X (ordK (kB B) q.1) q.2), S) := by
  have a1 := need_bounds_ok (n + 3) m B hB S
  have a2 := need_mix_ok (n + 3) m B hB s X hX S
  have a3 := need_mixing_row_ok (n + 3) m B hB q hq S
  have a4 := mix_gap_ok n m B hB s X hX q hq S
  refine fn_is (c := ⟨3, 3, c_mixing_gap⟩) (ts := [.tup (rTs B), mixT s X, rowQ q]) g_mixing_gap rfl ?_
  show Wp _ (evalSs (FF (n + 6)) c_mixing_gap [some (.tup (rTs B)), some (mixT s X), some (rowQ q)] S)
  dsimp only [c_mixing_gap]
  refine wp_xdrop (ev_cons (t := .tup (rTs B)) (ev_slot rfl rfl) ev_nil) a1 ?_
  refine wp_xdrop (ev_cons (t := .tup (rTs B)) (ev_slot rfl rfl) (ev_cons (t := mixT s X) (ev_slot rfl rfl) ev_nil)) a2 ?_
  refine wp_xdrop (ev_cons (t := .tup (rTs B)) (ev_slot rfl rfl) (ev_cons (t := rowQ q) (ev_slot rfl rfl) ev_nil)) a3 ?_
  exact wp_ret (ev_call (ev_cons (t := .tup (rTs B)) (ev_slot rfl rfl) (ev_cons (t := mixT s X) (ev_slot rfl rfl) (ev_cons (t := rowQ q) (ev_slot rfl rfl) ev_nil))) a4) ⟨rfl, rfl⟩
/-! all rows -/
theorem D_rowQ (q : List Nat × Bool) : (rowQ q).D = .tuple [.tuple (q.1.map fun i : Nat => .int (i : Int)), .bool q.2] := by
  have e : T.toDs (iN q.1) = some (q.1.map fun i : Nat => .int (i : Int)) := by
    have := toDs_ints (q.1.map fun i : Nat => (i : Int))
    rw [List.map_map, List.map_map] at this
    exact this
  unfold T.D rowQ
  simp only [T.toD, T.toDs, e, Option.map_some, Option.getD_some]
theorem sort_rows (R : List (List Nat × Bool)) (hl : R.length ≤ 1000000) (h5 : ∀ q ∈ R, q.1.length ≤ 1000) : ∃ R' : List (List Nat × Bool), R'.Perm R ∧ sortT (R.map rowQ) = some (R'.map rowQ) := by
  refine ⟨R.mergeSort (fun a b => W.dataLe false T.D (rowQ a) (rowQ b)), List.mergeSort_perm _ _, ?_⟩
  have h1 : T.plains (R.map rowQ) = true := by
    clear hl h5
    induction R with
    | nil => rfl
    | cons q R ih =>
      have : T.plains (iN q.1) = true := by
        obtain ⟨L, b⟩ := q
        dsimp only
        clear ih
        induction L with
        | nil => rfl
        | cons a L ih => exact ih
      rw [List.map_cons]
      simp only [T.plains, rowQ, T.plain, this, ih, Bool.and_self]
  have h2 : alikeTs (R.map rowQ) = true := by
    unfold alikeTs
    simp only [Bool.and_eq_true, List.all_eq_true, h1, true_and]
    refine ⟨⟨fun x hx y hy => ?_, fun x hx => ?_⟩, fun x hx => ?_⟩
    · obtain ⟨a, _, rfl⟩ := List.mem_map.mp hx
      obtain ⟨b, _, rfl⟩ := List.mem_map.mp hy
      rw [D_rowQ, D_rowQ]
      have e := alike_ints (a.1.map fun i : Nat => (i : Int)) (b.1.map fun i : Nat => (i : Int))
      rw [List.map_map, List.map_map] at e
      have e : W.alikeAll (a.1.map fun i : Nat => PyData.int (i : Int)) (b.1.map fun i : Nat => PyData.int (i : Int)) = true := e
      simp only [W.alike, W.alikeAll, e, Bool.and_self]
    · obtain ⟨a, _, rfl⟩ := List.mem_map.mp hx
      rfl
    · obtain ⟨a, _, rfl⟩ := List.mem_map.mp hx
      rw [D_rowQ]
      refine decide_eq_true ?_
      have e := PyProof.Rows.depthAll_ints (a.1.map fun i : Nat => (i : Int))
      rw [List.map_map] at e
      have e : PyData.depthAll (a.1.map fun i : Nat => PyData.int (i : Int)) = _ := e
      simp only [PyData.depth, PyData.depthAll, e]
      omega
  have h3 : ((R.map rowQ).all isTupC) = true := by
    rw [List.all_eq_true]
    intro x hx
    obtain ⟨a, _, rfl⟩ := List.mem_map.mp hx
    rfl
  unfold sortT
  rw [h2, h3]
  have h4 : decide ((R.map rowQ).length ≤ 1000000) = true := decide_eq_true (by rw [List.length_map]; exact hl)
  rw [h4]
  simp only [Bool.true_or, Bool.and_self, if_true]
  rw [List.map_mergeSort]
  intro a _ b _
  rfl
theorem mixing_rows_ok (n m : Nat) (hm : m ≤ 5) (S : Store) : ∃ R : List (List Nat × Bool), (∀ q ∈ R, RowOk q m) ∧ FF (n + 1) i_mixing_rows [.int m] S = .ok (.own (R.map rowQ), S) := by
  have p2 : 2 ^ m ≤ 2 ^ 5 := Nat.pow_le_pow_right (by omega) hm
  have sh := shl_oneM m (by omega)
  obtain ⟨M, hM⟩ : ∃ M, M = 2 ^ m := ⟨_, rfl⟩
  rw [← hM] at sh p2
  obtain ⟨t, S', e, ⟨R, hR, rfl⟩, rfl⟩ := fn_Rt (n := n) (f := i_mixing_rows) (c := ⟨5, 1, c_mixing_rows⟩) (ts := [.int m]) (S := S) (P := fun t S' => (∃ R : List (List Nat × Bool), (∀ q ∈ R, RowOk q m) ∧ t = .own (R.map rowQ)) ∧ S' = S) g_mixing_rows rfl (by
    show Wp (Rt _) (evalSs (FF n) c_mixing_rows [some (.int m), none, none, none, none] S)
    dsimp only [c_mixing_rows]
    refine wp_setL (xs := []) (S1 := S) (ev_lst ev_nil) ?_
    dsimp only [En.put]
    have hr := it_rng2 (F := FF n) (ρ := [some (.int m), some (.lst []), none, none, none]) (S := S) (S' := S) (S'' := S) (a := .cst (.int 1)) (b := .bin .shl (.cst (.int 1)) (.slot 0)) (i := 1) (j := (M : Int)) ev_cst (ev_bin ev_cst (ev_slot rfl rfl) sh) (by omega) (by omega)
    have et : ((M : Int) - 1).toNat = M - 1 := by omega
    rw [et] at hr
    refine wp_for (xs := rangeT 1 (M - 1)) (fun i ρ S' => S' = S ∧ ∃ R x2 x3, (∀ q ∈ R, RowOk q m) ∧ R.length = 2 * i ∧ ρ = [some (.int m), some (.lst (R.map rowQ)), x2, x3, none]) (fun _ _ => False) hr ⟨rfl, [], none, none, fun q hq => (by cases hq), rfl, rfl⟩ ?_ (fun _ _ z => z.elim) ?_
    · rintro i ρ S' hi ⟨rfl, R, x2, x3, hR, lR, rfl⟩
      rw [rangeT_len] at hi
      rw [rangeT_at]
      have ei : (1 : Int) + (i : Int) = ((i + 1 : Nat) : Int) := by omega
      rw [ei]
      obtain ⟨c, hc⟩ : ∃ c, c = i + 1 := ⟨_, rfl⟩
      rw [← hc]
      refine ⟨[some (.int m), some (.lst (R.map rowQ)), some (.int (c : Nat)), x3, none], rfl, ?_⟩
      have ec := ev_fmT (F := FF n) (ρ := [some (.int m), some (.lst (R.map rowQ)), some (.int (c : Nat)), x3, none]) (S := S') (S' := S') (elt := .slot 4) (c := .bin .band (.bin .shr (.slot 2) (.slot 4)) (.cst (.int 1))) (a := .slot 0) (j := 4) (m := m) c.testBit (fun i => .int i) (ev_slot rfl rfl) (by omega)
        (fun i hi => ⟨_, ev_bit (m := c) (i := i) (ev_slot rfl rfl) (ev_slot rfl rfl), truth_bit c i⟩) (fun i hi => ⟨rfl, ev_slot rfl rfl⟩)
      refine wp_set (t := .tup (iN (mem m c))) (S1 := S') (ev_prim1 (p := .tuple) ec rfl) rfl ?_
      dsimp only [En.put]
      have row : ∀ b : Bool, RowOk (mem m c, b) m := fun b => by
        refine ⟨fun z => ?_, List.Pairwise.filter _ List.pairwise_lt_range, fun p hp => (mem_lt.mp hp).1⟩
        obtain ⟨i, hi⟩ := Nat.exists_testBit_of_ne_zero (x := c) (by omega)
        have lt : i < m := by
          apply Classical.byContradiction
          intro q
          have : c < 2 ^ i := Nat.lt_of_lt_of_le (show c < 2 ^ m by omega) (Nat.pow_le_pow_right (by omega) (by omega))
          rw [Nat.testBit_lt_two_pow this] at hi
          cases hi
        have : i ∈ mem m c := mem_lt.mpr ⟨lt, hi⟩
        have z : mem m c = [] := z
        rw [z] at this
        cases this
      have ad : bop .add (.lst (R.map rowQ)) (.own [rowQ (mem m c, false), rowQ (mem m c, true)]) = some (.own ((R ++ [(mem m c, false), (mem m c, true)]).map rowQ)) := by
        show (if szOk _ then some (T.own _) else none) = _
        rw [if_pos (by simp [szOk]; omega), List.map_append]
        rfl
      refine wp_setL (xs := (R ++ [(mem m c, false), (mem m c, true)]).map rowQ) (S1 := S') (ev_bin (ev_slot (t := .lst (R.map rowQ)) rfl rfl) (ev_lst (ev_cons (t := rowQ (mem m c, false)) (ev_tup (ev_cons (t := .tup (iN (mem m c))) (ev_slot rfl rfl) (ev_cons (t := .bl false) ev_cst ev_nil))) (ev_cons (t := rowQ (mem m c, true)) (ev_tup (ev_cons (t := .tup (iN (mem m c))) (ev_slot rfl rfl) (ev_cons (t := .bl true) ev_cst ev_nil))) ev_nil))) ad) (wp_nil ?_)
      dsimp only [En.put]
      refine ⟨rfl, R ++ [(mem m c, false), (mem m c, true)], some (.int (c : Nat)), some (.tup (iN (mem m c))), fun q hq => ?_, by rw [List.length_append, lR]; simp; omega, rfl⟩
      rcases List.mem_append.mp hq with z | z
      · exact hR q z
      · simp only [List.mem_cons, List.not_mem_nil, or_false] at z
        rcases z with rfl | rfl
        · exact row false
        · exact row true
    · rintro ρ S' ⟨rfl, R, x2, x3, hR, lR, rfl⟩
      rw [rangeT_len] at lR
      obtain ⟨R', pR, sR⟩ := sort_rows R (by omega) (fun q hq => by have := (hR q hq).len; omega)
      have ps : prim .sorted [deref S' (T.view (.lst (R.map rowQ)))] = some (.own (R'.map rowQ)) := by
        show (sortT (R.map rowQ)).map T.own = _
        rw [sR]
        rfl
      exact wp_ret (ev_prim1 (p := .sorted) (t := .lst (R.map rowQ)) (ev_slot rfl rfl) ps) ⟨_, _, rfl, rfl, ⟨R', fun q hq => hR q (pR.mem_iff.mp hq), rfl⟩, rfl⟩)
  exact ⟨R, hR, e⟩
/-- no row is broken -/
theorem broken_mix_none (n m : Nat) (B : List Rat) (hB : BdL B m) (s : Rat) (X : List Rat) (hX : MixOk s X m) (hg : ∀ q, RowOk q m → 0 ≤ gapF B s X (ordK (kB B) q.1) q.2) (S : Store) : FF (n + 8) i_broken_mix [.tup (rTs B), mixT s X] S = .ok (.non, S) := by
  have lB := hB.len
  have a1 := need_bounds_ok (n + 4) m B hB S
  have a2 := need_mix_ok (n + 4) m B hB s X hX S
  obtain ⟨R, hR, a3⟩ := mixing_rows_ok (n + 5) m hB.n5 S
  have a4 : FF (n + 7) i_first_broken_mix [.tup (rTs B), mixT s X] S = .ok (.non, S) := by
    refine fn_is (c := ⟨3, 2, c_first_broken_mix⟩) (ts := [.tup (rTs B), mixT s X]) g_first_broken_mix rfl ?_
    show Wp _ (evalSs (FF (n + 6)) c_first_broken_mix [some (.tup (rTs B)), some (mixT s X), none] S)
    dsimp only [c_first_broken_mix]
    have ll : evalE (FF (n + 6)) [some (.tup (rTs B)), some (mixT s X), none] (.prim .len [.slot 0]) S = .ok (.int m, S) := by rw [← lB]; exact len_rTs (a := .slot 0) (ev_slot rfl rfl)
    refine wp_forid (S1 := S) (xs := R.map rowQ) (it_seq (t := .own (R.map rowQ)) (ev_call (ev_cons (t := .int m) ll ev_nil) a3) rfl) (fun x hx => ?_) fun o => wp_ret ev_cst ⟨rfl, rfl⟩
    obtain ⟨q, hq, rfl⟩ := List.mem_map.mp hx
    have hq := hR q hq
    have mg := mix_gap_ok n m B hB s X hX q hq S
    have nn := Rat.num_nonneg.mpr (hg q hq)
    refine ⟨rfl, ss_nx (st_if_n (ev_cmp (ev_sub (x := rT (gapF B s X (ordK (kB B) q.1) q.2)) (ev_call (ev_cons (t := .tup (rTs B)) (ev_slot rfl rfl) (ev_cons (t := mixT s X) (ev_slot rfl rfl) (ev_cons (t := rowQ q) (ev_slot rfl rfl) ev_nil))) mg) ev_cst (rT_0 S _)) ev_cst (co_ltf (by omega)))) ss_no⟩
  refine fn_is (c := ⟨2, 2, c_broken_mix⟩) (ts := [.tup (rTs B), mixT s X]) g_broken_mix rfl ?_
  show Wp _ (evalSs (FF (n + 7)) c_broken_mix [some (.tup (rTs B)), some (mixT s X)] S)
  dsimp only [c_broken_mix]
  refine wp_xdrop (ev_cons (t := .tup (rTs B)) (ev_slot rfl rfl) ev_nil) a1 ?_
  refine wp_xdrop (ev_cons (t := .tup (rTs B)) (ev_slot rfl rfl) (ev_cons (t := mixT s X) (ev_slot rfl rfl) ev_nil)) a2 ?_
  exact wp_ret (ev_call (ev_cons (t := .tup (rTs B)) (ev_slot rfl rfl) (ev_cons (t := mixT s X) (ev_slot rfl rfl) ev_nil)) a4) ⟨rfl, rfl⟩

/-! mixing: the law's own gaps, rows, sums -/
theorem rT_negM (r : Rat) : .tup [.int (0 - r.num), .int r.den] = rT (-r) := by
  unfold rT
  rw [Rat.neg_num, Int.zero_sub]
  rfl
theorem Sz.negM {r : Rat} {k : Nat} (h : Sz r k) : Sz (-r) k := by
  refine ⟨?_, h.2⟩
  rw [Rat.neg_num, Int.natAbs_neg]
  exact h.1
theorem ev_negR {F : Fns} {ρ : En} {S : Store} {a : CE} {r : Rat} (h : evalE F ρ a S = .ok (rT r, S)) : evalE F ρ (.tup [.bin .sub (.cst (.int 0)) (.sub a (.cst (.int 0))), .sub a (.cst (.int 1))]) S = .ok (rT (-r), S) := by
  rw [← rT_negM]
  exact ev_tup (ev_cons (t := .int (0 - r.num)) (ev_bin ev_cst (ev_sub (x := rT r) h ev_cst (rT_0 S r)) rfl) (ev_cons (t := .int r.den) (ev_sub (x := rT r) h ev_cst (rT_1 S r)) ev_nil))
theorem law_part_ok (n : Nat) (b : Rat) (h : Bd b) (S : Store) : FF (n + 3) i__law_part [rT b] S = .ok (.tup [rT (prt b), .int (ceilR b)], S) := by
  have e2 := law_plus_ok n b ((1 - ceilR b : Int) : Rat) (i := 10) (j := 10) h.sz (Sz.int (by have := h.ceil; omega) (by omega)) (by omega) S
  have ep : b + ((1 - ceilR b : Int) : Rat) = prt b := by
    unfold prt
    rw [Rat.intCast_sub, cast_pred]
    show b + (1 - (ceilR b : Rat)) = _
    grind
  rw [ep] at e2
  refine fn_is (c := ⟨2, 1, c__law_part⟩) (ts := [rT b]) g__law_part rfl ?_
  show Wp _ (evalSs (FF (n + 2)) c__law_part [some (rT b), none] S)
  dsimp only [c__law_part]
  refine wp_set (t := .int (ceilR b)) (S1 := S) (ev_bin ev_cst (ev_bin (ev_bin ev_cst (ev_num rfl) rfl) (ev_den rfl) (bo_fdiv (den_pos b) (numOk_den h.sz (by omega)))) (by
    show some (T.int (0 - (0 - b.num) / (b.den : Int))) = _
    unfold ceilR
    rw [Int.zero_sub, Int.zero_sub])) rfl ?_
  dsimp only [En.put]
  exact wp_ret (ev_tup (ev_cons (t := rT (prt b)) (ev_call (ev_cons (t := rT b) (ev_slot rfl rfl) (ev_cons (t := rT ((1 - ceilR b : Int) : Rat)) (ev_tup (ev_cons (t := .int (1 - ceilR b)) (ev_bin ev_cst (ev_slot rfl rfl) rfl) (ev_cons (t := .int 1) ev_cst ev_nil))) ev_nil)) e2) (ev_cons (t := .int (ceilR b)) (ev_slot rfl rfl) ev_nil))) ⟨rfl, rfl⟩
theorem iN_cutTo (L : List Nat) (k : Nat) (h : k ≤ L.length) : slice (.lst (iN L)) none (some (k : Int)) = some (.own ((iN L).take k)) := cut_toL (iN L) k (by rw [iN_len]; exact h)
theorem iN_cutFrom (L : List Nat) (k : Nat) (h : k ≤ L.length) : slice (.lst (iN L)) (some (k : Int)) none = some (.own ((iN L).drop k)) := cut_fromL (iN L) k (by rw [iN_len]; exact h)
theorem law_mix_gap_ok (n m : Nat) (B : List Rat) (hB : BdL B m) (s : Rat) (X : List Rat) (hX : MixOk s X m) (q : List Nat × Bool) (hq : RowOk q m) (S : Store) : FF (n + 4) i__law_mix_gap [.tup (rTs B), mixT s X, rowQ q] S = .ok (rT (gapF B s X (ordK (kB B) q.1) q.2), S) := by
  have lB := hB.len
  have lX := hX.len
  have m5 := hB.n5
  have lq := hq.len
  obtain ⟨pl, r⟩ := q
  have hlt := hq.lt
  dsimp only at *
  obtain ⟨t, S', e, rfl, rfl⟩ := fn_Rt (n := n + 3) (f := i__law_mix_gap) (c := ⟨12, 3, c__law_mix_gap⟩) (ts := [.tup (rTs B), mixT s X, rowQ (pl, r)]) (S := S) (P := fun t S' => t = rT (gapF B s X (ordK (kB B) pl) r) ∧ S' = S) g__law_mix_gap rfl (by
    show Wp (Rt _) (evalSs (FF (n + 3)) c__law_mix_gap [some (.tup (rTs B)), some (mixT s X), some (rowQ (pl, r)), none, none, none, none, none, none, none, none, none] S)
    dsimp only [c__law_mix_gap]
    have gB : ∀ (ρ : En) (j p : Nat), p < m → ρ.get 0 = some (.tup (rTs B)) → ρ.get j = some (.int (p : Nat)) → evalE (FF (n + 3)) ρ (.sub (.slot 0) (.slot j)) S = .ok (rT (gr B p), S) := fun ρ j p hp h0 hj => ev_sub (x := .tup (rTs B)) (ev_slot h0 rfl) (ev_slot hj rfl) (rTs_at S (by omega))
    have gP : ∀ (ρ : En) (a : CE) (p : Nat), p < m → evalE (FF (n + 3)) ρ a S = .ok (rT (gr B p), S) → evalE (FF (n + 3)) ρ (.call i__law_part [a]) S = .ok (.tup [rT (kB B p), .int (ceilR (gr B p))], S) := fun ρ a p hp h => ev_call (ev_cons (t := rT (gr B p)) h ev_nil) (law_part_ok n (gr B p) (hB.at hp) S)
    have gX : ∀ (ρ : En) (a : CE) (p : Nat), p < m → ρ.get 1 = some (mixT s X) → evalE (FF (n + 3)) ρ a S = .ok (.int (p : Nat), S) → evalE (FF (n + 3)) ρ (.sub (.sub (.slot 1) (.cst (.int 1))) a) S = .ok (rT (gr X p), S) := fun ρ a p hp h0 hj => ev_sub (x := .tup (rTs X)) (ev_sub (x := mixT s X) (ev_slot h0 rfl) ev_cst (mixT_1 S s X)) hj (rTs_at S (by omega))
    refine wp_setL (xs := []) (S1 := S) (ev_lst ev_nil) ?_
    dsimp only [En.put]
    refine wp_for (xs := iN pl) (fun i ρ S' => S' = S ∧ ∃ F x4 x7, (∀ p ∈ F, p < m) ∧ F = (pl.take i).foldl (insK (kB B)) [] ∧ F.length = i ∧ Asc (kB B) F ∧ ρ = [some (.tup (rTs B)), some (mixT s X), some (rowQ (pl, r)), some (.lst (iN F)), x4, none, none, x7, none, none, none, none]) (fun _ _ => False) (it_seq (t := .tup (iN pl)) (ev_sub (x := rowQ (pl, r)) (ev_slot rfl rfl) ev_cst rfl) rfl) ⟨rfl, [], none, none, fun p hp => (by cases hp), rfl, rfl, List.Pairwise.nil, rfl⟩ ?_ (fun _ _ z => z.elim) ?_
    · rintro i ρ S' hi ⟨rfl, F, x4, x7, hF, eF, lF, aF, rfl⟩
      rw [iN_len] at hi
      have ex : (iN pl)[i]'(by rw [iN_len]; exact hi) = .int (pl[i] : Nat) := List.getElem_map _
      rw [ex]
      have hp := hlt _ (List.getElem_mem hi)
      have et : (pl.take (i + 1)).foldl (insK (kB B)) [] = insK (kB B) F pl[i] := by rw [List.take_succ_eq_append_getElem hi, List.foldl_append, ← eF]; rfl
      rw [et]
      generalize pl[i] = p at hp ⊢
      refine ⟨[some (.tup (rTs B)), some (mixT s X), some (rowQ (pl, r)), some (.lst (iN F)), some (.int (p : Nat)), none, none, x7, none, none, none, none], rfl, ?_⟩
      refine wp_set (t := .int (0 : Nat)) ev_cst rfl ?_
      dsimp only [En.put]
      have cl := cntK_le (kB B) F p
      refine wp_while (fun j ρ S'' => S'' = S' ∧ ∃ a : Nat, a + j = cntK (kB B) F p ∧ ρ = [some (.tup (rTs B)), some (mixT s X), some (rowQ (pl, r)), some (.lst (iN F)), some (.int (p : Nat)), none, none, some (.int a), none, none, none, none]) (fun ρ S'' => S'' = S' ∧ ρ = [some (.tup (rTs B)), some (mixT s X), some (rowQ (pl, r)), some (.lst (iN F)), some (.int (p : Nat)), none, none, some (.int (cntK (kB B) F p)), none, none, none, none]) (k := cntK (kB B) F p) ⟨rfl, 0, by omega, rfl⟩ (by omega) ?_ ?_
      · rintro j ρ S'' ⟨rfl, a, ha, rfl⟩
        have el : evalE (FF (n + 3)) [some (.tup (rTs B)), some (mixT s X), some (rowQ (pl, r)), some (.lst (iN F)), some (.int (p : Nat)), none, none, some (.int a), none, none, none, none] (.prim .len [.slot 3]) S'' = .ok (.int F.length, S'') := by
          rw [← iN_len]
          exact ev_prim1 (p := .len) (t := .lst (iN F)) (ev_slot rfl rfl) rfl
        by_cases w : a < F.length
        · have sa : sub (deref S'' (.lst (iN F))) (.int a) = some (.int (F[a] : Nat)) := iN_at w
          have hb := hF _ (List.getElem_mem w)
          have le := law_less_ok (n + 2) (kB B p) (kB B F[a]) (hB.at hp).szp (hB.at hb).szp (by omega) S''
          have dp := asc_at aF p a w
          have t1 := ev_and_t (F := FF (n + 3)) (ρ := [some (.tup (rTs B)), some (mixT s X), some (rowQ (pl, r)), some (.lst (iN F)), some (.int (p : Nat)), none, none, some (.int a), none, none, none, none]) (a := .cmp .lt (.slot 7) (.prim .len [.slot 3])) (b := .not (.call i__law_less [.sub (.call i__law_part [.sub (.slot 0) (.slot 4)]) (.cst (.int 0)), .sub (.call i__law_part [.sub (.slot 0) (.sub (.slot 3) (.slot 7))]) (.cst (.int 0))])) (ev_cmp (ev_slot rfl rfl) el (co_lt (by omega))) (ev_not (ev_call (ev_cons (t := rT (kB B p)) (ev_sub (x := .tup [rT (kB B p), .int (ceilR (gr B p))]) (gP _ _ p hp (gB _ 4 p hp rfl rfl)) ev_cst rfl) (ev_cons (t := rT (kB B F[a])) (ev_sub (x := .tup [rT (kB B F[a]), .int (ceilR (gr B F[a]))]) (gP _ _ F[a] hb (ev_sub (x := .tup (rTs B)) (ev_slot rfl rfl) (ev_sub (x := .lst (iN F)) (ev_slot rfl rfl) (ev_slot rfl rfl) sa) (rTs_at S'' (by omega)))) ev_cst rfl) ev_nil)) le))
          by_cases c : kB B p < kB B F[a]
          · rw [decide_eq_true c] at t1
            have := dp.mp c
            refine .inl ⟨S'', t1, rfl, ?_⟩
            rw [show a = cntK (kB B) F p by omega]
          · rw [decide_eq_false c] at t1
            have : ¬ cntK (kB B) F p ≤ a := fun z => c (dp.mpr z)
            refine .inr ⟨S'', _, S'', j - 1, t1, ss_nx (st_aug rfl ev_cst rfl) ss_no, by omega, rfl, a + 1, by omega, rfl⟩
        · refine .inl ⟨S'', ev_and_f (ev_cmp (ev_slot rfl rfl) el (co_ltf (by omega))), rfl, ?_⟩
          rw [show a = cntK (kB B) F p by omega]
      · rintro ρ S'' ⟨rfl, rfl⟩
        have c1 := iN_cutTo F (cntK (kB B) F p) cl
        have c2 := iN_cutFrom F (cntK (kB B) F p) cl
        have rl := iN_len F
        have a1 := add_own ((iN F).take (cntK (kB B) F p)) [T.int (p : Nat)] (by rw [List.length_take]; simp; omega)
        have a2 := add_own ((iN F).take (cntK (kB B) F p) ++ [T.int (p : Nat)]) ((iN F).drop (cntK (kB B) F p)) (by rw [List.length_append, List.length_take, List.length_drop]; simp; omega)
        refine wp_setL (xs := iN (insK (kB B) F p)) (S1 := S'') (ev_bin (x := .own ((iN F).take (cntK (kB B) F p) ++ [T.int (p : Nat)])) (y := .own ((iN F).drop (cntK (kB B) F p))) (ev_bin (ev_slice (x := .lst (iN F)) (ev_slot rfl rfl) eo_none (eo_some (ev_slot rfl rfl)) c1) (ev_lst (ev_cons (t := .int (p : Nat)) (ev_slot rfl rfl) ev_nil)) a1) (ev_slice (x := .lst (iN F)) (ev_slot rfl rfl) (eo_some (ev_slot rfl rfl)) eo_none c2) (by rw [iN_ins]; exact a2)) (wp_nil ?_)
        dsimp only [En.put]
        refine ⟨rfl, insK (kB B) F p, some (.int (p : Nat)), some (.int (cntK (kB B) F p : Nat)), fun q hq => ?_, rfl, by rw [(insK_perm (kB B) F p).length_eq, List.length_cons, lF], asc_ins aF p, rfl⟩
        rcases List.mem_cons.mp ((insK_perm (kB B) F p).mem_iff.mp hq) with z | z
        · rw [z]; exact hp
        · exact hF q z
    · rintro ρ S' ⟨rfl, F, x4, x7, hF, eF, lF, aF, rfl⟩
      rw [iN_len, List.take_length] at eF
      rw [iN_len] at lF
      have eF : F = ordK (kB B) pl := eF
      rw [← eF]
      have lF5 : F.length ≤ 5 := by omega
      have F0 : F ≠ [] := fun z => hq.ne (by rw [z] at lF; exact List.eq_nil_of_length_eq_zero lF.symm)
      clear eF lF
      refine wp_par (S1 := S') (xs := [rT s, rT 0]) (ep_cons (ev_sub (x := mixT s X) (ev_slot rfl rfl) ev_cst (mixT_0 S' s X)) (ep_cons (ev_tup (ev_cons (t := .int 0) ev_cst (ev_cons (t := .int 1) ev_cst ev_nil))) ep_nil)) rfl ?_
      refine wp_for (xs := iN F) (fun i ρ S'' => S'' = S' ∧ ∃ a l x4 x8 x9 x10 x11, a - askL (kB B) (cB B) (gr X) (F.drop i) l = s - askL (kB B) (cB B) (gr X) F 0 ∧ lastK (kB B) (F.drop i) l = lastK (kB B) F 0 ∧ Sz a (75 * i + 101) ∧ Sz l 21 ∧ ρ = [some (.tup (rTs B)), some (mixT s X), some (rowQ (pl, r)), some (.lst (iN F)), x4, some (rT a), some (rT l), x7, x8, x9, x10, x11]) (fun _ _ => False) (it_seq (t := .lst (iN F)) (ev_slot rfl rfl) rfl) ⟨rfl, s, 0, x4, none, none, none, none, rfl, rfl, hX.szs.mono (by omega), Sz01.mono (by omega), rfl⟩ ?_ (fun _ _ z => z.elim) ?_
      · rintro i ρ S'' hi ⟨rfl, a, l, x4, x8, x9, x10, x11, h1, h2, za, zl, rfl⟩
        rw [iN_len] at hi
        have ex : (iN F)[i]'(by rw [iN_len]; exact hi) = .int (F[i] : Nat) := List.getElem_map _
        rw [ex]
        have hp := hF _ (List.getElem_mem hi)
        rw [List.drop_eq_getElem_cons hi] at h1 h2
        generalize F[i] = p at hp h1 h2 ⊢
        have hb := hB.at hp
        have zx := hX.at hp
        refine ⟨[some (.tup (rTs B)), some (mixT s X), some (rowQ (pl, r)), some (.lst (iN F)), some (.int (p : Nat)), some (rT a), some (rT l), x7, x8, x9, x10, x11], rfl, ?_⟩
        refine wp_setT (t := .tup [rT (kB B p), .int (ceilR (gr B p))]) (S1 := S'') (gP _ _ p hp (gB _ 4 p hp rfl rfl)) rfl ?_
        dsimp only [En.put]
        have z2 : Sz (cB B p + -gr X p) 31 := (Sz.add hb.szc zx.negM).mono (by omega)
        have z1 : Sz (kB B p + -l) 43 := (Sz.add hb.szp zl.negM).mono (by omega)
        have z3 : Sz ((kB B p + -l) * (cB B p + -gr X p)) 74 := Sz.mul z1 z2
        have p1 := law_plus_ok (n + 1) (cB B p) (-gr X p) hb.szc zx.negM (by omega) S''
        have p2 := law_plus_ok (n + 1) (kB B p) (-l) hb.szp zl.negM (by omega) S''
        have tm := law_times_ok (n + 1) (kB B p + -l) (cB B p + -gr X p) z1 z2 (by omega) S''
        have p3 := law_plus_ok (n + 1) a (-((kB B p + -l) * (cB B p + -gr X p))) za z3.negM (by omega) S''
        refine wp_set (t := rT (cB B p + -gr X p)) (S1 := S'') (ev_call (ev_cons (t := rT (cB B p)) (ev_tup (ev_cons (t := .int (ceilR (gr B p))) (ev_slot rfl rfl) (ev_cons (t := .int 1) ev_cst ev_nil))) (ev_cons (t := rT (-gr X p)) (ev_negR (gX _ (.slot 4) p hp rfl (ev_slot rfl rfl))) ev_nil)) p1) rfl ?_
        dsimp only [En.put]
        refine wp_set (t := rT ((kB B p + -l) * (cB B p + -gr X p))) (S1 := S'') (ev_call (ev_cons (t := rT (kB B p + -l)) (ev_call (ev_cons (t := rT (kB B p)) (ev_slot rfl rfl) (ev_cons (t := rT (-l)) (ev_negR (ev_slot rfl rfl)) ev_nil)) p2) (ev_cons (t := rT (cB B p + -gr X p)) (ev_slot rfl rfl) ev_nil)) tm) rfl ?_
        dsimp only [En.put]
        refine wp_par (S1 := S'') (xs := [rT (a + -((kB B p + -l) * (cB B p + -gr X p))), rT (kB B p)]) (ep_cons (ev_call (ev_cons (t := rT a) (ev_slot rfl rfl) (ev_cons (t := rT (-((kB B p + -l) * (cB B p + -gr X p)))) (ev_negR (ev_slot rfl rfl)) ev_nil)) p3) (ep_cons (ev_slot rfl rfl) ep_nil)) rfl (wp_nil ?_)
        refine ⟨rfl, a + -((kB B p + -l) * (cB B p + -gr X p)), kB B p, _, _, _, _, _, ?_, h2, (Sz.add za z3.negM).mono (by omega), hb.szp, rfl⟩
        rw [← h1]
        show _ = a - ((kB B p - l) * (cB B p - gr X p) + askL (kB B) (cB B) (gr X) (F.drop (i + 1)) (kB B p))
        grind
      · rintro ρ S'' ⟨rfl, a, l, x4, x8, x9, x10, x11, h1, h2, za, zl, rfl⟩
        rw [iN_len, List.drop_length] at h1 h2
        rw [iN_len] at za
        have h1 : a = s - askL (kB B) (cB B) (gr X) F 0 := by
          have : a - 0 = s - askL (kB B) (cB B) (gr X) F 0 := h1
          rw [← this]
          grind
        have h2 : l = lastK (kB B) F 0 := h2
        have za : Sz a 476 := za.mono (by omega)
        unfold gapF
        rw [← h2]
        cases r with
        | false =>
          refine wp_if_n (ev_sub (x := rowQ (pl, false)) (ev_slot rfl rfl) ev_cst rfl) ?_
          have ea : s - (askL (kB B) (cB B) (gr X) F 0 + if (false : Bool) = true then (1 - l) * (cB B (F.headD 0) - 1 - gr X (F.headD 0)) else 0) = a := by rw [if_neg Bool.false_ne_true, h1]; grind
          rw [ea]
          exact wp_ret (ev_slot rfl rfl) ⟨_, _, rfl, rfl, rfl, rfl⟩
        | true =>
          refine wp_if_t (ev_sub (x := rowQ (pl, true)) (ev_slot rfl rfl) ev_cst rfl) ?_
          dsimp only [List.cons_append, List.nil_append]
          obtain ⟨p, L', eL⟩ := List.exists_cons_of_ne_nil F0
          have hp : p < m := hF p (by rw [eL]; exact List.mem_cons_self)
          have hd : F.headD 0 = p := by rw [eL]; rfl
          rw [hd, if_pos rfl]
          have s3 : sub (deref S'' (.lst (iN F))) (.int 0) = some (.int (p : Nat)) := by
            rw [eL]
            show L2.atI (T.int (p : Nat) :: iN L') ((0 : Nat) : Int) = _
            rw [atI_nn _ _ (by omega)]
            rfl
          have g3 : ∀ ρ : En, ρ.get 3 = some (.lst (iN F)) → evalE (FF (n + 3)) ρ (.sub (.slot 3) (.cst (.int 0))) S'' = .ok (.int (p : Nat), S'') := fun ρ h => ev_sub (x := .lst (iN F)) (ev_slot h rfl) ev_cst s3
          have hb := hB.at hp
          have zx := hX.at hp
          have o1 : Sz (1 : Rat) 1 := ⟨by decide, by decide⟩
          have ecd : cB B p - 1 = ((ceilR (gr B p) - 1 : Int) : Rat) := (cast_pred _).symm
          have zc : Sz (cB B p - 1) 10 := by rw [ecd]; exact hb.szd
          have z1 : Sz (1 + -l) 23 := (Sz.add o1 zl.negM).mono (by omega)
          have z2 : Sz (cB B p - 1 + -gr X p) 31 := (Sz.add zc zx.negM).mono (by omega)
          have z3 : Sz ((1 + -l) * (cB B p - 1 + -gr X p)) 54 := Sz.mul z1 z2
          have p1 := law_plus_ok (n + 1) (cB B p - 1) (-gr X p) zc zx.negM (by omega) S''
          have p2 := law_plus_ok (n + 1) 1 (-l) o1 zl.negM (by omega) S''
          have tm := law_times_ok (n + 1) (1 + -l) (cB B p - 1 + -gr X p) z1 z2 (by omega) S''
          have p3 := law_plus_ok (n + 1) a (-((1 + -l) * (cB B p - 1 + -gr X p))) za z3.negM (by omega) S''
          have tcd : rT (cB B p - 1) = .tup [.int (ceilR (gr B p) - 1), .int 1] := by rw [ecd]; rfl
          refine wp_set (t := rT (cB B p - 1 + -gr X p)) (S1 := S'') (ev_call (ev_cons (t := rT (cB B p - 1)) (by
            rw [tcd]
            exact ev_tup (ev_cons (t := .int (ceilR (gr B p) - 1)) (ev_bin (ev_sub (x := .tup [rT (kB B p), .int (ceilR (gr B p))]) (gP _ _ p hp (ev_sub (x := .tup (rTs B)) (ev_slot rfl rfl) (g3 _ rfl) (rTs_at S'' (by omega)))) ev_cst rfl) ev_cst rfl) (ev_cons (t := .int 1) ev_cst ev_nil))) (ev_cons (t := rT (-gr X p)) (ev_negR (gX _ (.sub (.slot 3) (.cst (.int 0))) p hp rfl (g3 _ rfl))) ev_nil)) p1) rfl ?_
          dsimp only [En.put]
          refine wp_set (t := rT ((1 + -l) * (cB B p - 1 + -gr X p))) (S1 := S'') (ev_call (ev_cons (t := rT (1 + -l)) (ev_call (ev_cons (t := rT 1) (ev_tup (ev_cons (t := .int 1) ev_cst (ev_cons (t := .int 1) ev_cst ev_nil))) (ev_cons (t := rT (-l)) (ev_negR (ev_slot rfl rfl)) ev_nil)) p2) (ev_cons (t := rT (cB B p - 1 + -gr X p)) (ev_slot rfl rfl) ev_nil)) tm) rfl ?_
          dsimp only [En.put]
          have ea : s - (askL (kB B) (cB B) (gr X) F 0 + (1 - l) * (cB B p - 1 - gr X p)) = a + -((1 + -l) * (cB B p - 1 + -gr X p)) := by rw [h1]; grind
          rw [ea]
          refine wp_set (t := rT (a + -((1 + -l) * (cB B p - 1 + -gr X p)))) (S1 := S'') (ev_call (ev_cons (t := rT a) (ev_slot rfl rfl) (ev_cons (t := rT (-((1 + -l) * (cB B p - 1 + -gr X p)))) (ev_negR (ev_slot rfl rfl)) ev_nil)) p3) rfl ?_
          dsimp only [En.put]
          exact wp_ret (ev_slot rfl rfl) ⟨_, _, rfl, rfl, rfl, rfl⟩)
  exact e
theorem tN_iN (s : List Nat) : tN s = .tup (iN s) := by
  unfold tN ti nI iN
  rw [List.map_map]
  rfl
theorem law_mix_rows_ok (n m : Nat) (hm : m ≤ 5) (S : Store) : ∃ R : List (List Nat × Bool), (∀ q ∈ R, RowOk q m) ∧ R.length ≤ 64 ∧ FF (n + 2) i__law_mix_rows [.int m] S = .ok (.own (R.map rowQ), S) := by
  have p2 : 2 ^ m ≤ 2 ^ 5 := Nat.pow_le_pow_right (by omega) hm
  have ls := law_sets_ok n m (by omega) S
  have ll := setsL_len m
  obtain ⟨Z, hZ⟩ : ∃ Z, Z = setsL m := ⟨_, rfl⟩
  have mZ : ∀ s ∈ Z, s.Pairwise (· < ·) ∧ ∀ x ∈ s, x < m := fun s hs => setsL_mem m s (by rw [← hZ]; exact hs)
  rw [← hZ] at ls ll
  obtain ⟨t, S', e, ⟨R, hR, lR, rfl⟩, rfl⟩ := fn_Rt (n := n + 1) (f := i__law_mix_rows) (c := ⟨3, 1, c__law_mix_rows⟩) (ts := [.int m]) (S := S) (P := fun t S' => (∃ R : List (List Nat × Bool), (∀ q ∈ R, RowOk q m) ∧ R.length ≤ 64 ∧ t = .own (R.map rowQ)) ∧ S' = S) g__law_mix_rows rfl (by
    show Wp (Rt _) (evalSs (FF (n + 1)) c__law_mix_rows [some (.int m), none, none] S)
    dsimp only [c__law_mix_rows]
    refine wp_setL (xs := []) (S1 := S) (ev_lst ev_nil) ?_
    dsimp only [En.put]
    refine wp_for (xs := Z.map tN) (fun i ρ S' => S' = S ∧ ∃ R x2, (∀ q ∈ R, RowOk q m) ∧ R.length ≤ 2 * i ∧ ρ = [some (.int m), some (.lst (R.map rowQ)), x2]) (fun _ _ => False) (it_seq (t := .lst (Z.map tN)) (ev_call (ev_cons (t := .int m) (ev_slot rfl rfl) ev_nil) ls) rfl) ⟨rfl, [], none, fun q hq => (by cases hq), Nat.le_refl _, rfl⟩ ?_ (fun _ _ z => z.elim) ?_
    · rintro i ρ S' hi ⟨rfl, R, x2, hR, lR, rfl⟩
      rw [List.length_map] at hi
      have ex : (Z.map tN)[i]'(by rw [List.length_map]; exact hi) = .tup (iN Z[i]) := by rw [List.getElem_map, tN_iN]
      rw [ex]
      obtain ⟨s1, s2⟩ := mZ _ (List.getElem_mem hi)
      generalize Z[i] = s at s1 s2 ⊢
      refine ⟨[some (.int m), some (.lst (R.map rowQ)), some (.tup (iN s))], rfl, ?_⟩
      by_cases c : s = []
      · refine wp_if_n (ev_cmp (x := .tup (iN s)) (ev_slot rfl rfl) (ev_tup ev_nil) (by rw [c]; rfl)) (wp_nil ?_)
        exact ⟨rfl, R, _, hR, by omega, rfl⟩
      · have ne : cop .ne (.tup (iN s)) (.tup []) = some true := by
          have h : eqT (.tup (iN s)) (.tup []) = some false := iN_eq_nil c
          show (eqT _ _).map _ = _
          rw [h]
          rfl
        refine wp_if_t (ev_cmp (x := .tup (iN s)) (ev_slot rfl rfl) (ev_tup ev_nil) ne) ?_
        dsimp only [List.cons_append, List.nil_append]
        have ad : bop .add (.lst (R.map rowQ)) (.own [rowQ (s, false), rowQ (s, true)]) = some (.own ((R ++ [(s, false), (s, true)]).map rowQ)) := by
          show (if szOk _ then some (T.own _) else none) = _
          rw [if_pos (by simp [szOk]; omega), List.map_append]
          rfl
        refine wp_setL (xs := (R ++ [(s, false), (s, true)]).map rowQ) (S1 := S') (ev_bin (ev_slot (t := .lst (R.map rowQ)) rfl rfl) (ev_lst (ev_cons (t := rowQ (s, false)) (ev_tup (ev_cons (t := .tup (iN s)) (ev_slot rfl rfl) (ev_cons (t := .bl false) ev_cst ev_nil))) (ev_cons (t := rowQ (s, true)) (ev_tup (ev_cons (t := .tup (iN s)) (ev_slot rfl rfl) (ev_cons (t := .bl true) ev_cst ev_nil))) ev_nil))) ad) (wp_nil ?_)
        dsimp only [En.put]
        refine ⟨rfl, R ++ [(s, false), (s, true)], some (.tup (iN s)), fun q hq => ?_, by rw [List.length_append]; simp; omega, rfl⟩
        rcases List.mem_append.mp hq with z | z
        · exact hR q z
        · simp only [List.mem_cons, List.not_mem_nil, or_false] at z
          rcases z with rfl | rfl
          · exact ⟨c, s1, s2⟩
          · exact ⟨c, s1, s2⟩
    · rintro ρ S' ⟨rfl, R, x2, hR, lR, rfl⟩
      rw [List.length_map, ll] at lR
      obtain ⟨R', pR, sR⟩ := sort_rows R (by omega) (fun q hq => by have := (hR q hq).len; omega)
      have ps : prim .sorted [deref S' (T.view (.lst (R.map rowQ)))] = some (.own (R'.map rowQ)) := by
        show (sortT (R.map rowQ)).map T.own = _
        rw [sR]
        rfl
      exact wp_ret (ev_prim1 (p := .sorted) (t := .lst (R.map rowQ)) (ev_slot rfl rfl) ps) ⟨_, _, rfl, rfl, ⟨R', fun q hq => hR q (pR.mem_iff.mp hq), by rw [pR.length_eq]; omega, rfl⟩, rfl⟩)
  exact ⟨R, hR, lR, e⟩

/-! order of fractions -/
theorem mk_parts {n d : Int} (hd : 0 < d) : ∃ g : Int, 0 < g ∧ n = (mkRat n d.toNat).num * g ∧ d = ((mkRat n d.toNat).den : Int) * g := by
  obtain ⟨e1, e2⟩ := mk_num (n := n) hd
  refine ⟨(Int.gcd n d : Nat), by have := gcd_pos (n := n) hd; omega, ?_, ?_⟩
  · rw [e1, Int.ediv_mul_cancel (Int.gcd_dvd_left _ _)]
  · rw [e2, Int.ediv_mul_cancel (Int.gcd_dvd_right _ _)]
theorem mk_lt {n d k e : Int} (hd : 0 < d) (he : 0 < e) : mkRat n d.toNat < mkRat k e.toNat ↔ n * e < k * d := by
  obtain ⟨g, g0, g1, g2⟩ := mk_parts (n := n) hd
  obtain ⟨f, f0, f1, f2⟩ := mk_parts (n := k) he
  obtain ⟨A, hA⟩ : ∃ A, A = mkRat n d.toNat := ⟨_, rfl⟩
  obtain ⟨B, hB⟩ : ∃ B, B = mkRat k e.toNat := ⟨_, rfl⟩
  rw [← hA] at g1 g2 ⊢
  rw [← hB] at f1 f2 ⊢
  rw [Rat.lt_iff]
  have e1 : n * e = A.num * B.den * (g * f) := by rw [g1, f2]; grind
  have e2 : k * d = B.num * A.den * (g * f) := by rw [f1, g2]; grind
  rw [e1, e2]
  have gf : 0 < g * f := Int.mul_pos g0 f0
  exact ⟨fun z => Int.mul_lt_mul_of_pos_right z gf, fun z => Int.lt_of_mul_lt_mul_right z (by omega)⟩

/-! mixing: the law's draws -/
theorem mk_nnM {p d : Int} (hp : 0 ≤ p) (hd : 0 < d) : 0 ≤ mkRat p d.toNat := by
  have e1 := (mk_num (n := p) (d := d) hd).1
  refine Rat.num_nonneg.mp ?_
  rw [e1]
  exact Int.ediv_nonneg hp (by omega)
theorem mk_leM {p d k : Int} (hd : 0 < d) (h : p ≤ k * d) : mkRat p d.toNat ≤ (k : Rat) := by
  have e : (k : Rat) = mkRat k (1 : Int).toNat := by
    show (k : Rat) = mkRat k 1
    rw [Rat.mkRat_one]
  rw [e]
  refine Rat.not_lt.mp fun z => ?_
  have := (mk_lt (n := k) (d := 1) (k := p) (e := d) (by omega) hd).mp z
  omega
theorem rats_of {P : Rat → Prop} : ∀ {zs : List T}, (∀ z ∈ zs, ∃ r, z = rT r ∧ P r) → ∃ L : List Rat, zs = rTs L ∧ ∀ x ∈ L, P x
  | [], _ => ⟨[], rfl, by simp⟩
  | z :: zs, h => by
    obtain ⟨v, rfl, hv⟩ := h z (by simp)
    obtain ⟨L, rfl, hL⟩ := rats_of (zs := zs) fun y hy => h y (by simp [hy])
    exact ⟨v :: L, rfl, fun x hx => by
      rcases List.mem_cons.mp hx with rfl | hx
      · exact hv
      · exact hL x hx⟩
theorem row_lenM {ns : List Int} {S S' : Store} (h : Row ns S) (j : Row ns S') : S'.length = S.length := by
  obtain ⟨_, _, _, rfl, _⟩ := j
  obtain ⟨_, _, _, rfl, _⟩ := h
  rfl
theorem lowered_small (n : Nat) {p d : Int} (hd : 0 < d) (hd2 : d ≤ 1000) (hp : p.natAbs < 2 ^ 20) (S : Store) : FF (n + 1) i__law_lowered [.int p, .int d] S = .ok (rT (mkRat p d.toNat), S) :=
  law_lowered_ok n p d hd (Nat.lt_of_lt_of_le (by omega : d.natAbs < 2 ^ 10) (Nat.pow_le_pow_right (by omega) (by omega))) (Nat.lt_of_lt_of_le hp (Nat.pow_le_pow_right (by omega) (by omega))) S
theorem law_bounds_ok (n : Nat) (ns : List Int) (S : Store) (h : Row ns S) : ∃ (B : List Rat) (m : Nat) (S' : Store), BdL B m ∧ m ≤ 4 ∧ Row ns S' ∧ FF (n + 3) i__law_bounds [.ref 0] S = .ok (.tup (rTs B), S') := by
  obtain ⟨t, S1, e1, j1, ht⟩ := pick_ok n ns S [.int 1, .int 2, .int 3, .int 4, .int 7] h (by simp) (by simp)
  obtain ⟨low, rfl, l1, l7⟩ : ∃ low : Int, t = .int low ∧ 1 ≤ low ∧ low ≤ 7 := by
    simp only [List.mem_cons, List.not_mem_nil, or_false] at ht
    rcases ht with rfl | rfl | rfl | rfl | rfl
    · exact ⟨1, rfl, by omega, by omega⟩
    · exact ⟨2, rfl, by omega, by omega⟩
    · exact ⟨3, rfl, by omega, by omega⟩
    · exact ⟨4, rfl, by omega, by omega⟩
    · exact ⟨7, rfl, by omega, by omega⟩
  obtain ⟨v, S2, e2, j2, v0, v1⟩ := taken_ok (n + 1) ns S1 4 j1 (by omega) (by omega)
  obtain ⟨t, S', e, ⟨B, m, hB, m4, rfl⟩, j⟩ := fn_Rt (n := n + 2) (f := i__law_bounds) (c := ⟨3, 1, c__law_bounds⟩) (ts := [.ref 0]) (S := S) (P := fun t S' => (∃ (B : List Rat) (m : Nat), BdL B m ∧ m ≤ 4 ∧ t = .tup (rTs B)) ∧ Row ns S') g__law_bounds rfl (by
    show Wp (Rt _) (evalSs (FF (n + 2)) c__law_bounds [some (.ref 0), none, none] S)
    dsimp only [c__law_bounds]
    refine wp_set (t := .int low) (S1 := S1) (ev_call (ev_cons (t := .ref 0) (ev_slot rfl rfl) (ev_cons (t := .own [.int 1, .int 2, .int 3, .int 4, .int 7]) (ev_lst (ev_cons (t := .int 1) ev_cst (ev_cons (t := .int 2) ev_cst (ev_cons (t := .int 3) ev_cst (ev_cons (t := .int 4) ev_cst (ev_cons (t := .int 7) ev_cst ev_nil)))))) ev_nil)) e1) rfl ?_
    dsimp only [En.put]
    have hr := it_rng1 (F := FF (n + 2)) (ρ := [some (.ref 0), some (.int low), none]) (S := S1) (S' := S2) (a := .bin .add (.cst (.int 1)) (.call i__law_taken [.slot 0, .cst (.int 4)])) (j := 1 + v) (ev_bin ev_cst (ev_call (ev_cons (t := .ref 0) (ev_slot rfl rfl) (ev_cons (t := .int 4) ev_cst ev_nil)) e2) rfl) (by omega)
    obtain ⟨zs, S3, ec, j3, lz, hz⟩ := compL_draw (step := turn (FF (n + 2)) [some (.ref 0), some (.int low), none] (.call i__law_lowered [.call i__law_taken [.slot 0, .cst (.int 20)], .slot 1]) (.name 2) none) (Row ns) (fun t => ∃ b, t = rT b ∧ Bd b) (xs := rangeT 0 (1 + v).toNat) j2 fun x hx S hS => by
      obtain ⟨i, hi, rfl⟩ := rangeT_mem hx
      obtain ⟨u, S', eu, ju, u0, u1⟩ := taken_ok (n + 1) ns S 20 hS (by omega) (by omega)
      have lo := lowered_small (n + 1) (p := u) (d := low) (by omega) (by omega) (by omega) S'
      refine ⟨rT (mkRat u low.toNat), S', turn_none rfl (ev_call (ev_cons (t := .int u) (ev_call (ev_cons (t := .ref 0) (ev_slot rfl rfl) (ev_cons (t := .int 20) ev_cst ev_nil)) eu) (ev_cons (t := .int low) (ev_slot rfl rfl) ev_nil)) lo), ju, mkRat u low.toNat, rfl, mk_nnM u0 (by omega), ?_, mk_Sz (by omega) (by omega) (by omega)⟩
      exact mk_leM (k := 999) (by omega) (by omega)
    obtain ⟨B, rfl, hB⟩ := rats_of hz
    rw [rangeT_len, rTs_len] at lz
    refine wp_ret (ev_prim1 (p := .tuple) (ev_comp hr (by rw [rangeT_len]; omega) ec) rfl) ⟨_, _, rfl, row_lenM h j3, ⟨B, B.length, ⟨rfl, by omega, by omega, hB⟩, by omega, rfl⟩, j3⟩)
  exact ⟨B, m, S', hB, m4, j, e⟩
theorem pickT_ok (n : Nat) (ns : List Int) (S : Store) (xs : List T) (h : Row ns S) (h0 : 0 < xs.length) (h1 : xs.length ≤ 1000) :
    ∃ (t : T) (S' : Store), FF (n + 2) i__law_pick [.ref 0, .tup xs] S = .ok (t, S') ∧ Row ns S' ∧ t ∈ xs := by
  obtain ⟨v, S', e, j, v0, v1⟩ := taken_ok n ns S xs.length h (by omega) (by omega)
  have hx : v.toNat < xs.length := by omega
  have ha : L2.atI xs v = some xs[v.toNat] := by
    rw [atI_nn _ _ v0]
    simp [hx]
  refine ⟨xs[v.toNat], S', fn_rt (c := ⟨2, 2, c__law_pick⟩) (ts := [.ref 0, .tup xs]) g__law_pick rfl ?_ (row_lenM h j), j, by simp⟩
  show evalSs (FF (n + 1)) c__law_pick [some (.ref 0), some (.tup xs)] S = _
  dsimp only [c__law_pick]
  exact ss_rt (st_ret (ev_sub (x := .tup xs) (ev_slot rfl rfl) (ev_call (ev_cons (t := .ref 0) (ev_slot rfl rfl) (ev_cons (t := .int xs.length) (ev_prim1 (p := .len) (t := .tup xs) (ev_slot rfl rfl) rfl) ev_nil)) e) ha))
theorem law_sum_ok (n : Nat) (L : List Rat) {k : Nat} (h : SzL L k) (hk : (k + 1) * L.length + 1 + k ≤ 900) (S : Store) : FF (n + 3) i__law_sum [.lst (rTs L)] S = .ok (rT (sumR L), S) := by
  obtain ⟨t, S', e, rfl, rfl⟩ := fn_Rt (n := n + 2) (f := i__law_sum) (c := ⟨3, 1, c__law_sum⟩) (ts := [.lst (rTs L)]) (S := S) (P := fun t S' => t = rT (sumR L) ∧ S' = S) g__law_sum rfl (by
    show Wp (Rt _) (evalSs (FF (n + 2)) c__law_sum [some (.lst (rTs L)), none, none] S)
    dsimp only [c__law_sum]
    refine wp_set (t := rT 0) (S1 := S) (ev_tup (ev_cons (t := .int 0) ev_cst (ev_cons (t := .int 1) ev_cst ev_nil))) rfl ?_
    dsimp only [En.put]
    refine wp_for (xs := rTs L) (fun i ρ S' => S' = S ∧ ∃ a x, a = (L.take i).foldl (· + ·) 0 ∧ Sz a ((k + 1) * i + 1) ∧ ρ = [some (.lst (rTs L)), some (rT a), x]) (fun _ _ => False) (it_seq (t := .lst (rTs L)) (ev_slot rfl rfl) rfl) ⟨rfl, 0, none, rfl, Sz01, rfl⟩ ?_ (fun _ _ z => z.elim) ?_
    · rintro i ρ S' hi ⟨rfl, a, x, ha, sz, rfl⟩
      rw [rTs_len] at hi
      have ex : (rTs L)[i]'(by rw [rTs_len]; exact hi) = rT L[i] := List.getElem_map _
      rw [ex]
      have hz : Sz L[i] k := h _ (List.getElem_mem hi)
      have kb : (k + 1) * i ≤ (k + 1) * L.length := Nat.mul_le_mul_left _ (by omega)
      have p := law_plus_ok n _ _ sz hz (by omega) S'
      have et : (L.take (i + 1)).foldl (· + ·) 0 = a + L[i] := by rw [List.take_succ_eq_append_getElem hi, List.foldl_append, ← ha]; rfl
      generalize L[i] = r at et hz p ⊢
      refine ⟨[some (.lst (rTs L)), some (rT a), some (rT r)], rfl, ?_⟩
      refine wp_set (t := rT (a + r)) (ev_call (ev_cons (t := rT a) (ev_slot rfl rfl) (ev_cons (t := rT r) (ev_slot rfl rfl) ev_nil)) p) rfl (wp_nil ?_)
      exact ⟨rfl, a + r, _, et.symm, (sz.add hz).mono (by rw [Nat.mul_succ]; omega), rfl⟩
    · rintro ρ S' ⟨rfl, a, x, ha, sz, rfl⟩
      rw [rTs_len, List.take_length] at ha
      refine wp_ret (ev_slot rfl rfl) ⟨_, _, rfl, rfl, ?_, rfl⟩
      rw [ha]
      rfl)
  exact e
theorem sumR_nn {L : List Rat} (h : ∀ r ∈ L, 0 ≤ r) : 0 ≤ sumR L := by
  induction L with
  | nil => exact Rat.le_refl
  | cons a L ih =>
    rw [sumR_cons]
    have h1 := h a List.mem_cons_self
    have h2 := ih fun r hr => h r (List.mem_cons_of_mem _ hr)
    grind
theorem sumR_sz {L : List Rat} {k : Nat} (h : SzL L k) : Sz (sumR L) ((k + 1) * L.length + 1) := by
  have : ∀ (L : List Rat) (a : Rat) (j : Nat), SzL L k → Sz a j → Sz (L.foldl (· + ·) a) ((k + 1) * L.length + j) := by
    intro L
    induction L with
    | nil => intro a j _ ha; simpa using ha
    | cons r L ih =>
      intro a j h ha
      have := ih (a + r) (j + k + 1) (fun x hx => h x (List.mem_cons_of_mem _ hx)) (ha.add (h r List.mem_cons_self))
      refine this.mono ?_
      rw [List.length_cons, Nat.mul_succ]
      omega
  exact this L 0 1 h Sz01
/-- a whole part of the mix: its weight, its rest, its numbers -/
abbrev MPrt := Int × Rat × List Int
def mpT (p : MPrt) : T := .tup [.int p.1, rT p.2.1, .lst (p.2.2.map T.int)]
structure MPok (m : Nat) (p : MPrt) : Prop where
  w1 : 1 ≤ p.1
  w3 : p.1 ≤ 3
  r0 : 0 ≤ p.2.1
  rz : Sz p.2.1 21
  len : p.2.2.length = m
  bd : ∀ x ∈ p.2.2, -2 ≤ x ∧ x ≤ 1000
theorem ceil_bd {b r : Rat} (hb : Bd b) {k : Int} (r0 : 0 ≤ r) (rk : r ≤ (k : Rat)) : -k ≤ ceilR (b - r) ∧ ceilR (b - r) ≤ 999 := by
  have h1 := ceilR_le (b - r)
  have h2 : ceilR (b - r) ≤ 999 := ceilR_least (z := 999) (by
    have := hb.le
    show b - r ≤ (999 : Rat)
    grind)
  have h3 : ((-k : Int) : Rat) ≤ (ceilR (b - r) : Rat) := by
    have := hb.nn
    rw [Rat.intCast_neg]
    grind
  have h3 : -k ≤ ceilR (b - r) := by exact_mod_cast h3
  exact ⟨h3, h2⟩
theorem ev_ceil {F : Fns} {ρ : En} {S : Store} {a : CE} {r : Rat} {k : Nat} (hz : Sz r k) (hk : k ≤ 8000) (h : evalE F ρ a S = .ok (rT r, S)) : evalE F ρ (.bin .sub (.cst (.int 0)) (.bin .fdiv (.bin .sub (.cst (.int 0)) (.sub a (.cst (.int 0)))) (.sub a (.cst (.int 1))))) S = .ok (.int (ceilR r), S) :=
  ev_bin ev_cst (ev_bin (ev_bin ev_cst (ev_sub (x := rT r) h ev_cst (rT_0 S r)) rfl) (ev_sub (x := rT r) h ev_cst (rT_1 S r)) (bo_fdiv (den_pos r) (numOk_den hz hk))) (by
    show some (T.int (0 - (0 - r.num) / (r.den : Int))) = _
    unfold ceilR
    rw [Int.zero_sub, Int.zero_sub])

/-! mixing: the law's mix is drawn -/
abbrev mpA : List CS := [.setP (.name 6) (.ite (.cmp .eq (.call i__law_taken [.slot 0, .cst (.int 2)]) (.cst (.int 0))) (.call i__law_lowered [.call i__law_taken [.slot 0, .bin .mul (.cst (.int 2)) (.slot 4)], .slot 4]) (.sub (.call i__law_part [.call i__law_pick [.slot 0, .slot 1]]) (.cst (.int 0)))), .setO 7 (.lst []), .for (.name 9) (.seq (.slot 1)) [.setP (.name 11) (.call i__law_plus [.slot 9, .tup [.bin .sub (.cst (.int 0)) (.sub (.slot 6) (.cst (.int 0))), .sub (.slot 6) (.cst (.int 1))]]), .app 7 (.bin .add (.bin .sub (.cst (.int 0)) (.bin .fdiv (.bin .sub (.cst (.int 0)) (.sub (.slot 11) (.cst (.int 0)))) (.sub (.slot 11) (.cst (.int 1))))) (.ite (.cmp .eq (.call i__law_taken [.slot 0, .cst (.int 5)]) (.cst (.int 0))) (.cst (.int 1)) (.cst (.int 0))))], .setP (.name 10) (.bin .add (.cst (.int 1)) (.call i__law_taken [.slot 0, .cst (.int 3)])), .frz 7, .app 2 (.tup [.slot 10, .slot 6, .slot 7]), .setP (.name 3) (.bin .add (.slot 3) (.slot 10))]
theorem mp_turn (n m : Nat) (ns : List Int) (B : List Rat) (hB : BdL B m) (S : Store) (hS : Row ns S) (lo : Int) (l1 : 1 ≤ lo) (l6 : lo ≤ 6) (L : List MPrt) (hL : L.length ≤ 3) (w : Int) (x5 x6 x7 x8 x9 x10 x11 x12 : Option T) (Q : Res Fl → Prop)
    (k : ∀ (p : MPrt) (S' : Store) (x6 x7 x9 x10 x11 : Option T), Row ns S' → MPok m p → Q (.ok (.nx [some (.ref 0), some (.tup (rTs B)), some (.own ((L ++ [p]).map mpT)), some (.int (w + p.1)), some (.int lo), x5, x6, x7, x8, x9, x10, x11, x12] S'))) :
    Wp Q (evalSs (FF (n + 3)) mpA [some (.ref 0), some (.tup (rTs B)), some (.own (L.map mpT)), some (.int w), some (.int lo), x5, x6, x7, x8, x9, x10, x11, x12] S) := by
  have m1 := hB.n1
  have m5 := hB.n5
  have lB := hB.len
  obtain ⟨v, S1, e1, j1, v0, v1⟩ := taken_ok (n + 2) ns S 2 hS (by omega) (by omega)
  have ct : evalE (FF (n + 3)) [some (.ref 0), some (.tup (rTs B)), some (.own (L.map mpT)), some (.int w), some (.int lo), x5, x6, x7, x8, x9, x10, x11, x12] (.call i__law_taken [.slot 0, .cst (.int 2)]) S = .ok (.int v, S1) := ev_call (ev_cons (t := .ref 0) (ev_slot rfl rfl) (ev_cons (t := .int 2) ev_cst ev_nil)) e1
  obtain ⟨r, S2, r0, r2, rz, j2, er⟩ : ∃ (r : Rat) (S2 : Store), 0 ≤ r ∧ r ≤ ((2 : Int) : Rat) ∧ Sz r 21 ∧ Row ns S2 ∧ evalE (FF (n + 3)) [some (.ref 0), some (.tup (rTs B)), some (.own (L.map mpT)), some (.int w), some (.int lo), x5, x6, x7, x8, x9, x10, x11, x12] (.ite (.cmp .eq (.call i__law_taken [.slot 0, .cst (.int 2)]) (.cst (.int 0))) (.call i__law_lowered [.call i__law_taken [.slot 0, .bin .mul (.cst (.int 2)) (.slot 4)], .slot 4]) (.sub (.call i__law_part [.call i__law_pick [.slot 0, .slot 1]]) (.cst (.int 0)))) S = .ok (rT r, S2) := by
    by_cases z : v = 0
    · obtain ⟨u, S2, e2, j2, u0, u1⟩ := taken_ok (n + 2) ns S1 (2 * lo) j1 (by omega) (by omega)
      have lw := lowered_small (n + 2) (p := u) (d := lo) (by omega) (by omega) (by omega) S2
      refine ⟨mkRat u lo.toNat, S2, mk_nnM u0 (by omega), mk_leM (by omega) (by omega), (mk_Sz (k := 10) (by omega) (by omega) (by omega)).mono (by omega), j2, ev_ite_t (ev_cmp ct ev_cst (co_eq z)) ?_⟩
      exact ev_call (ev_cons (t := .int u) (ev_call (ev_cons (t := .ref 0) (ev_slot rfl rfl) (ev_cons (t := .int (2 * lo)) (ev_bin ev_cst (ev_slot rfl rfl) (bo_mul _ _ (numOk_of (by omega) (by omega)) (numOk_of (by omega) (by omega)))) ev_nil)) e2) (ev_cons (t := .int lo) (ev_slot rfl rfl) ev_nil)) lw
    · obtain ⟨t, S2, e2, j2, ht⟩ := pickT_ok (n + 1) ns S1 (rTs B) j1 (by rw [rTs_len]; omega) (by rw [rTs_len]; omega)
      obtain ⟨b, hb, rfl⟩ := List.mem_map.mp ht
      have hb := hB.bd b hb
      have lp := law_part_ok n b hb S2
      refine ⟨prt b, S2, Rat.le_of_lt (prt_pos b), ?_, hb.szp, j2, ev_ite_f (ev_cmp ct ev_cst (co_eqf z)) ?_⟩
      · have := prt_le b
        show prt b ≤ (2 : Rat)
        grind
      · exact ev_sub (x := .tup [rT (prt b), .int (ceilR b)]) (ev_call (ev_cons (t := rT b) (ev_call (ev_cons (t := .ref 0) (ev_slot rfl rfl) (ev_cons (t := .tup (rTs B)) (ev_slot rfl rfl) ev_nil)) e2) ev_nil) lp) ev_cst rfl
  refine wp_set (t := rT r) (S1 := S2) er rfl ?_
  dsimp only [En.put]
  refine wp_setO (xs := []) (S1 := S2) (ev_lst ev_nil) ?_
  dsimp only [En.put]
  refine wp_for (xs := rTs B) (fun i ρ S' => Row ns S' ∧ ∃ (N : List Int) (x9 x11 : Option T), N.length = i ∧ (∀ x ∈ N, -2 ≤ x ∧ x ≤ 1000) ∧ ρ = [some (.ref 0), some (.tup (rTs B)), some (.own (L.map mpT)), some (.int w), some (.int lo), x5, some (rT r), some (.own (N.map T.int)), x8, x9, x10, x11, x12]) (fun _ _ => False) (it_seq (t := .tup (rTs B)) (ev_slot rfl rfl) rfl) ⟨j2, [], x9, x11, rfl, fun x hx => (by cases hx), rfl⟩ ?_ (fun _ _ z => z.elim) ?_
  · rintro i ρ S' hi ⟨j, N, y9, y11, lN, hN, rfl⟩
    rw [rTs_len] at hi
    have ex : (rTs B)[i]'(by rw [rTs_len]; exact hi) = rT B[i] := List.getElem_map _
    rw [ex]
    have hb := hB.bd _ (List.getElem_mem hi)
    generalize B[i] = b at hb ⊢
    refine ⟨[some (.ref 0), some (.tup (rTs B)), some (.own (L.map mpT)), some (.int w), some (.int lo), x5, some (rT r), some (.own (N.map T.int)), x8, some (rT b), x10, y11, x12], rfl, ?_⟩
    have pl := law_plus_ok (n + 1) b (-r) hb.sz rz.negM (by omega) S'
    have ee : b + -r = b - r := by grind
    rw [ee] at pl
    have zz : Sz (b - r) 32 := (Sz.sub hb.sz rz).mono (by omega)
    refine wp_set (t := rT (b - r)) (S1 := S') (ev_call (ev_cons (t := rT b) (ev_slot rfl rfl) (ev_cons (t := rT (-r)) (ev_negR (ev_slot rfl rfl)) ev_nil)) pl) rfl ?_
    dsimp only [En.put]
    obtain ⟨u, S3, e3, j3, u0, u1⟩ := taken_ok (n + 2) ns S' 5 j (by omega) (by omega)
    obtain ⟨c1, c2⟩ := ceil_bd hb r0 r2
    have ce := ev_ceil (F := FF (n + 3)) (ρ := [some (.ref 0), some (.tup (rTs B)), some (.own (L.map mpT)), some (.int w), some (.int lo), x5, some (rT r), some (.own (N.map T.int)), x8, some (rT b), x10, some (rT (b - r)), x12]) (S := S') (a := .slot 11) zz (by omega) (ev_slot rfl rfl)
    have c5 : evalE (FF (n + 3)) [some (.ref 0), some (.tup (rTs B)), some (.own (L.map mpT)), some (.int w), some (.int lo), x5, some (rT r), some (.own (N.map T.int)), x8, some (rT b), x10, some (rT (b - r)), x12] (.call i__law_taken [.slot 0, .cst (.int 5)]) S' = .ok (.int u, S3) := ev_call (ev_cons (t := .ref 0) (ev_slot rfl rfl) (ev_cons (t := .int 5) ev_cst ev_nil)) e3
    obtain ⟨d, hd, ed⟩ : ∃ d : Int, (d = 0 ∨ d = 1) ∧ evalE (FF (n + 3)) [some (.ref 0), some (.tup (rTs B)), some (.own (L.map mpT)), some (.int w), some (.int lo), x5, some (rT r), some (.own (N.map T.int)), x8, some (rT b), x10, some (rT (b - r)), x12] (.ite (.cmp .eq (.call i__law_taken [.slot 0, .cst (.int 5)]) (.cst (.int 0))) (.cst (.int 1)) (.cst (.int 0))) S' = .ok (.int d, S3) := by
      by_cases z : u = 0
      · exact ⟨1, .inr rfl, ev_ite_t (ev_cmp c5 ev_cst (co_eq z)) ev_cst⟩
      · exact ⟨0, .inl rfl, ev_ite_f (ev_cmp c5 ev_cst (co_eqf z)) ev_cst⟩
    refine wp_app (t := .int (ceilR (b - r) + d)) (ev_bin ce ed rfl) rfl rfl (by rw [List.length_map]; omega) (wp_nil ?_)
    refine ⟨j3, N ++ [ceilR (b - r) + d], _, _, by rw [List.length_append, lN]; rfl, fun x hx => ?_, by rw [List.map_append]; rfl⟩
    rcases List.mem_append.mp hx with z | z
    · exact hN x z
    · rw [List.mem_singleton.mp z]
      omega
  · rintro ρ S' ⟨j, N, y9, y11, lN, hN, rfl⟩
    rw [rTs_len, lB] at lN
    obtain ⟨u, S3, e3, j3, u0, u1⟩ := taken_ok (n + 2) ns S' 3 j (by omega) (by omega)
    refine wp_set (t := .int (1 + u)) (S1 := S3) (ev_bin ev_cst (ev_call (ev_cons (t := .ref 0) (ev_slot rfl rfl) (ev_cons (t := .int 3) ev_cst ev_nil)) e3) rfl) rfl ?_
    refine wp_frz rfl ?_
    dsimp only [En.put]
    refine wp_app (t := mpT (1 + u, r, N)) (ev_tup (ev_cons (t := .int (1 + u)) (ev_slot rfl rfl) (ev_cons (t := rT r) (ev_slot rfl rfl) (ev_cons (t := .lst (N.map T.int)) (ev_slot rfl rfl) ev_nil)))) rfl rfl (by rw [List.length_map]; omega) ?_
    refine wp_set (t := .int (w + (1 + u))) (ev_bin (ev_slot rfl rfl) (ev_slot rfl rfl) rfl) rfl (wp_nil ?_)
    dsimp only [En.put]
    have el : L.map mpT ++ [mpT (1 + u, r, N)] = (L ++ [(1 + u, r, N)]).map mpT := by simp
    rw [el]
    exact k (1 + u, r, N) S3 _ _ _ _ _ j3 ⟨by show 1 ≤ 1 + u; omega, by show 1 + u ≤ 3; omega, r0, rz, lN, hN⟩
def whM (L : List MPrt) : Int := (L.map (·.1)).sum
theorem whM_bd {m : Nat} {L : List MPrt} (h : ∀ p ∈ L, MPok m p) : (L.length : Int) ≤ whM L ∧ whM L ≤ 3 * L.length := by
  induction L with
  | nil => exact ⟨by decide, by decide⟩
  | cons p L ih =>
    obtain ⟨a, b⟩ := ih fun q hq => h q (List.mem_cons_of_mem _ hq)
    have hp := h p List.mem_cons_self
    have h1 := hp.w1
    have h2 := hp.w3
    show ((L.length + 1 : Nat) : Int) ≤ p.1 + whM L ∧ p.1 + whM L ≤ 3 * ((L.length + 1 : Nat) : Int)
    omega
def amtM (L : List MPrt) (i : Nat) : Int := (L.map fun p => p.1 * gi p.2.2 i).sum
theorem amtM_bd {m i : Nat} (hi : i < m) {L : List MPrt} (h : ∀ p ∈ L, MPok m p) : -(3000 * (L.length : Int)) ≤ amtM L i ∧ amtM L i ≤ 3000 * L.length := by
  induction L with
  | nil =>
    show -(3000 * ((0 : Nat) : Int)) ≤ 0 ∧ (0 : Int) ≤ 3000 * ((0 : Nat) : Int)
    omega
  | cons p L ih =>
    obtain ⟨a, b⟩ := ih fun q hq => h q (List.mem_cons_of_mem _ hq)
    have hp := h p List.mem_cons_self
    have h1 := hp.w1
    have h2 := hp.w3
    have h3 := hp.bd _ (gi_mem p.2.2 i (by rw [hp.len]; exact hi))
    have : -3000 ≤ p.1 * gi p.2.2 i ∧ p.1 * gi p.2.2 i ≤ 3000 := by
      obtain ⟨y, hy⟩ : ∃ y, y = gi p.2.2 i := ⟨_, rfl⟩
      rw [← hy] at h3 ⊢
      have c : p.1 = 1 ∨ p.1 = 2 ∨ p.1 = 3 := by omega
      rcases c with c | c | c <;> rw [c] <;> omega
    show -(3000 * ((L.length + 1 : Nat) : Int)) ≤ p.1 * gi p.2.2 i + amtM L i ∧ p.1 * gi p.2.2 i + amtM L i ≤ 3000 * ((L.length + 1 : Nat) : Int)
    omega
theorem rT_overM {a d : Int} (hd : 0 < d) (hg : Int.gcd a d = 1) : .tup [.int a, .int d] = rT (mkRat a d.toNat) := by
  rw [rT_mk hd, hg]
  simp
theorem law_mix_point_ok (n m : Nat) (ns : List Int) (B : List Rat) (hB : BdL B m) (S : Store) (hS : Row ns S) : ∃ (s : Rat) (X : List Rat) (S' : Store), MixOk s X m ∧ Row ns S' ∧ FF (n + 4) i__law_mix_point [.ref 0, .tup (rTs B)] S = .ok (mixT s X, S') := by
  have m1 := hB.n1
  have m5 := hB.n5
  have lB := hB.len
  obtain ⟨v, S1, e1, j1, v0, v1⟩ := taken_ok (n + 2) ns S 6 hS (by omega) (by omega)
  obtain ⟨u, S2, e2, j2, u0, u1⟩ := taken_ok (n + 2) ns S1 3 j1 (by omega) (by omega)
  obtain ⟨t, S', e, ⟨s, X, hX, rfl⟩, j⟩ := fn_Rt (n := n + 3) (f := i__law_mix_point) (c := ⟨13, 2, c__law_mix_point⟩) (ts := [.ref 0, .tup (rTs B)]) (S := S) (P := fun t S' => (∃ (s : Rat) (X : List Rat), MixOk s X m ∧ t = mixT s X) ∧ Row ns S') g__law_mix_point rfl (by
    show Wp (Rt _) (evalSs (FF (n + 3)) c__law_mix_point [some (.ref 0), some (.tup (rTs B)), none, none, none, none, none, none, none, none, none, none, none] S)
    dsimp only [c__law_mix_point]
    refine wp_par (S1 := S1) (xs := [.own [], .int 0, .int (1 + v)]) (ep_cons (ev_lst ev_nil) (ep_cons ev_cst (ep_cons (ev_bin ev_cst (ev_call (ev_cons (t := .ref 0) (ev_slot rfl rfl) (ev_cons (t := .int 6) ev_cst ev_nil)) e1) rfl) ep_nil))) rfl ?_
    have hr := it_rng1 (F := FF (n + 3)) (ρ := [some (.ref 0), some (.tup (rTs B)), some (.own []), some (.int 0), some (.int (1 + v)), none, none, none, none, none, none, none, none]) (S := S1) (S' := S2) (a := .bin .add (.cst (.int 1)) (.call i__law_taken [.slot 0, .cst (.int 3)])) (j := 1 + u) (ev_bin ev_cst (ev_call (ev_cons (t := .ref 0) (ev_slot rfl rfl) (ev_cons (t := .int 3) ev_cst ev_nil)) e2) rfl) (by omega)
    refine wp_for (xs := rangeT 0 (1 + u).toNat) (fun i ρ S' => Row ns S' ∧ ∃ (L : List MPrt) (x5 x6 x7 x9 x10 x11 : Option T), L.length = i ∧ (∀ p ∈ L, MPok m p) ∧ ρ = [some (.ref 0), some (.tup (rTs B)), some (.own (L.map mpT)), some (.int (whM L)), some (.int (1 + v)), x5, x6, x7, none, x9, x10, x11, none]) (fun _ _ => False) hr ⟨j2, [], none, none, none, none, none, none, rfl, fun p hp => (by cases hp), rfl⟩ ?_ (fun _ _ z => z.elim) ?_
    · rintro i ρ S' hi ⟨j, L, x5, x6, x7, x9, x10, x11, lL, hL, rfl⟩
      rw [rangeT_len] at hi
      rw [rangeT_at]
      refine ⟨[some (.ref 0), some (.tup (rTs B)), some (.own (L.map mpT)), some (.int (whM L)), some (.int (1 + v)), some (.int (0 + (i : Int))), x6, x7, none, x9, x10, x11, none], rfl, ?_⟩
      refine mp_turn n m ns B hB S' j (1 + v) (by omega) (by omega) L (by omega) (whM L) _ _ _ _ _ _ _ _ _ fun p S3 y6 y7 y9 y10 y11 j3 hp => ?_
      refine ⟨j3, L ++ [p], some (.int (0 + (i : Int))), y6, y7, y9, y10, y11, by rw [List.length_append, lL]; rfl, fun q hq => ?_, ?_⟩
      · rcases List.mem_append.mp hq with z | z
        · exact hL q z
        · rw [List.mem_singleton.mp z]; exact hp
      · have : whM (L ++ [p]) = whM L + p.1 := by simp [whM]
        rw [this]
    · rintro ρ S' ⟨j, L, x5, x6, x7, x9, x10, x11, lL, hL, rfl⟩
      rw [rangeT_len] at lL
      obtain ⟨w1, w2⟩ := whM_bd hL
      obtain ⟨W, hW⟩ : ∃ W, W = whM L := ⟨_, rfl⟩
      rw [← hW] at w1 w2 ⊢
      have W1 : 1 ≤ W := by omega
      have W9 : W ≤ 9 := by omega
      have pz : ∀ p ∈ L, Sz (mkRat p.1 W.toNat) 4 ∧ 0 ≤ mkRat p.1 W.toNat := fun p hp => by
        have h1 := (hL p hp).w1
        have h2 := (hL p hp).w3
        exact ⟨mk_Sz (by omega) (by omega) (by omega), mk_nnM (by omega) (by omega)⟩
      have ec := ev_mapA (F := FF (n + 3)) (ρ := [some (.ref 0), some (.tup (rTs B)), some (.own (L.map mpT)), some (.int W), some (.int (1 + v)), x5, x6, x7, none, x9, x10, x11, none]) (S := S') (S' := S') (elt := .call i__law_times [.call i__law_lowered [.sub (.slot 12) (.cst (.int 0)), .slot 3], .sub (.slot 12) (.cst (.int 1))]) (j := 12) (it := .seq (.view 2)) (L := L) mpT (fun p => rT (mkRat p.1 W.toNat * p.2.1)) (it_seq (t := .lst (L.map mpT)) (ev_view (t := .own (L.map mpT)) rfl) rfl) (by omega) (fun p hp => by
        have h1 := (hL p hp).w1
        have h2 := (hL p hp).w3
        have lw := lowered_small (n + 2) (p := p.1) (d := W) (by omega) (by omega) (by omega) S'
        have tm := law_times_ok (n + 1) (mkRat p.1 W.toNat) p.2.1 (pz p hp).1 (hL p hp).rz (by omega) S'
        refine ⟨rfl, rfl, ev_call (ev_cons (t := rT (mkRat p.1 W.toNat)) (ev_call (ev_cons (t := .int p.1) (ev_sub (x := mpT p) (ev_slot rfl rfl) ev_cst rfl) (ev_cons (t := .int W) (ev_slot rfl rfl) ev_nil)) lw) (ev_cons (t := rT p.2.1) (ev_sub (x := mpT p) (ev_slot rfl rfl) ev_cst rfl) ev_nil)) tm⟩)
      have em : L.map (fun p => rT (mkRat p.1 W.toNat * p.2.1)) = rTs (L.map fun p => mkRat p.1 W.toNat * p.2.1) := by unfold rTs; rw [List.map_map]; rfl
      rw [em] at ec
      obtain ⟨M, hM⟩ : ∃ M, M = L.map fun p => mkRat p.1 W.toNat * p.2.1 := ⟨_, rfl⟩
      rw [← hM] at ec
      have zM : SzL M 25 := fun r hr => by
        rw [hM] at hr
        obtain ⟨p, hp, rfl⟩ := List.mem_map.mp hr
        exact Sz.mul (pz p hp).1 (hL p hp).rz
      have nM : ∀ r ∈ M, 0 ≤ r := fun r hr => by
        rw [hM] at hr
        obtain ⟨p, hp, rfl⟩ := List.mem_map.mp hr
        exact Rat.mul_nonneg (pz p hp).2 (hL p hp).r0
      have lM : M.length ≤ 3 := by rw [hM, List.length_map]; omega
      have ls := law_sum_ok n M zM (by omega) S'
      have s0 := sumR_nn nM
      have sz : Sz (sumR M) 79 := (sumR_sz zM).mono (by omega)
      refine wp_set (t := rT (sumR M)) (S1 := S') (ev_call (ev_cons (t := .own (rTs M)) ec ev_nil) ls) rfl ?_
      dsimp only [En.put]
      generalize sumR M = s at s0 sz
      refine wp_setO (xs := []) (S1 := S') (ev_lst ev_nil) ?_
      dsimp only [En.put]
      have lb : ∀ (ρ : En) (S'' : Store), ρ.get 1 = some (.tup (rTs B)) → evalE (FF (n + 3)) ρ (.prim .len [.slot 1]) S'' = .ok (.int m, S'') := fun ρ S'' h => by rw [← lB]; exact len_rTs (ev_slot h rfl)
      have hr2 := it_rng1 (F := FF (n + 3)) (ρ := [some (.ref 0), some (.tup (rTs B)), some (.own (L.map mpT)), some (.int W), some (.int (1 + v)), x5, some (rT s), some (.own []), none, x9, x10, x11, none]) (S := S') (S' := S') (a := .prim .len [.slot 1]) (j := (m : Int)) (lb _ _ rfl) (by omega)
      rw [Int.toNat_natCast] at hr2
      refine wp_for (xs := rangeT 0 m) (fun i ρ S2 => S2 = S' ∧ ∃ (X : List Rat) (x8 : Option T), X.length = i ∧ SzL X 14 ∧ ρ = [some (.ref 0), some (.tup (rTs B)), some (.own (L.map mpT)), some (.int W), some (.int (1 + v)), x5, some (rT s), some (.own (rTs X)), x8, x9, x10, x11, none]) (fun _ _ => False) hr2 ⟨rfl, [], none, rfl, fun r hr => (by cases hr), rfl⟩ ?_ (fun _ _ z => z.elim) ?_
      · rintro i ρ S2 hi ⟨rfl, X, x8, lX, zX, rfl⟩
        rw [rangeT_len] at hi
        rw [rangeT_at]
        have e0 : (0 : Int) + (i : Int) = (i : Nat) := by omega
        rw [e0]
        refine ⟨[some (.ref 0), some (.tup (rTs B)), some (.own (L.map mpT)), some (.int W), some (.int (1 + v)), x5, some (rT s), some (.own (rTs X)), some (.int (i : Nat)), x9, x10, x11, none], rfl, ?_⟩
        obtain ⟨a1, a2⟩ := amtM_bd hi hL
        have lw := lowered_small (n + 2) (p := amtM L i) (d := W) (by omega) (by omega) (by omega) S2
        have ec := ev_mapA (F := FF (n + 3)) (ρ := [some (.ref 0), some (.tup (rTs B)), some (.own (L.map mpT)), some (.int W), some (.int (1 + v)), x5, some (rT s), some (.own (rTs X)), some (.int (i : Nat)), x9, x10, x11, none]) (S := S2) (S' := S2) (elt := .bin .mul (.sub (.slot 12) (.cst (.int 0))) (.sub (.sub (.slot 12) (.cst (.int 2))) (.slot 8))) (j := 12) (it := .seq (.view 2)) (L := L) mpT (fun p => .int (p.1 * gi p.2.2 i)) (it_seq (t := .lst (L.map mpT)) (ev_view (t := .own (L.map mpT)) rfl) rfl) (by omega) (fun p hp => by
          have hp' := hL p hp
          have w1 := hp'.w1
          have w3 := hp'.w3
          have hx := hp'.bd _ (gi_mem p.2.2 i (by rw [hp'.len]; exact hi))
          have t3 : sub (deref S2 (.lst (p.2.2.map T.int))) (.int i) = some (.int (gi p.2.2 i)) := atI_ti p.2.2 i (by rw [hp'.len]; exact hi)
          refine ⟨rfl, rfl, ev_bin (ev_sub (x := mpT p) (t := .int p.1) (ev_slot rfl rfl) ev_cst rfl) (ev_sub (x := .lst (p.2.2.map T.int)) (ev_sub (x := mpT p) (ev_slot rfl rfl) ev_cst rfl) (ev_slot rfl rfl) t3) (bo_mul _ _ (numOk_of (by omega) (by omega)) (numOk_of (by omega) (by omega)))⟩)
        have em : L.map (fun p => T.int (p.1 * gi p.2.2 i)) = (L.map fun p => p.1 * gi p.2.2 i).map T.int := by rw [List.map_map]; rfl
        rw [em] at ec
        refine wp_app (t := rT (mkRat (amtM L i) W.toNat)) (ev_call (ev_cons (t := .int (amtM L i)) (ev_prim1 (p := .sum) ec (pr_sumL _)) (ev_cons (t := .int W) (ev_slot rfl rfl) ev_nil)) lw) rfl rfl (by rw [rTs_len]; omega) (wp_nil ?_)
        refine ⟨rfl, X ++ [mkRat (amtM L i) W.toNat], _, by rw [List.length_append, lX]; rfl, fun r hr => ?_, by unfold rTs; rw [List.map_append]; rfl⟩
        rcases List.mem_append.mp hr with z | z
        · exact zX r z
        · rw [List.mem_singleton.mp z]
          exact mk_Sz (by omega) (by omega) (by omega)
      · rintro ρ S2 ⟨rfl, X, x8, lX, zX, rfl⟩
        rw [rangeT_len] at lX
        obtain ⟨a, S3, e3, j3, a0, a1⟩ := taken_ok (n + 2) ns S2 2 j (by omega) (by omega)
        have rest : ∀ (X : List Rat) (x8 : Option T) (S3 : Store), X.length = m → SzL X 20 → Row ns S3 → Wp (Rt fun t S'' => S''.length = S.length ∧ (∃ (s : Rat) (X : List Rat), MixOk s X m ∧ t = mixT s X) ∧ Row ns S'') (evalSs (FF (n + 3)) [.ifs (.cmp .eq (.call i__law_taken [.slot 0, .cst (.int 3)]) (.cst (.int 0))) [.setP (.name 6) (.call i__law_times [.slot 6, .tup [.cst (.int 1), .bin .add (.cst (.int 1)) (.call i__law_taken [.slot 0, .cst (.int 3)])]])] [], .ret (.tup [.slot 6, .prim .tuple [.view 7]])] [some (.ref 0), some (.tup (rTs B)), some (.own (L.map mpT)), some (.int W), some (.int (1 + v)), x5, some (rT s), some (.own (rTs X)), x8, x9, x10, x11, none] S3) := by
          intro X x8 S3 lX zX j3
          obtain ⟨b, S4, e4, j4, b0, b1⟩ := taken_ok (n + 2) ns S3 3 j3 (by omega) (by omega)
          have cb : evalE (FF (n + 3)) [some (.ref 0), some (.tup (rTs B)), some (.own (L.map mpT)), some (.int W), some (.int (1 + v)), x5, some (rT s), some (.own (rTs X)), x8, x9, x10, x11, none] (.call i__law_taken [.slot 0, .cst (.int 3)]) S3 = .ok (.int b, S4) := ev_call (ev_cons (t := .ref 0) (ev_slot rfl rfl) (ev_cons (t := .int 3) ev_cst ev_nil)) e4
          by_cases z : b = 0
          · obtain ⟨c, S5, e5, j5, c0, c1⟩ := taken_ok (n + 2) ns S4 3 j4 (by omega) (by omega)
            have zo : Sz (mkRat 1 (1 + c).toNat) 2 := mk_Sz (by omega) (by omega) (by omega)
            have tm := law_times_ok (n + 1) s (mkRat 1 (1 + c).toNat) sz zo (by omega) S5
            refine wp_if_t (ev_cmp cb ev_cst (co_eq z)) ?_
            dsimp only [List.cons_append, List.nil_append]
            refine wp_set (t := rT (s * mkRat 1 (1 + c).toNat)) (S1 := S5) (ev_call (ev_cons (t := rT s) (ev_slot rfl rfl) (ev_cons (t := rT (mkRat 1 (1 + c).toNat)) (by
              rw [← rT_overM (a := 1) (d := 1 + c) (by omega) Int.one_gcd]
              exact ev_tup (ev_cons (t := .int 1) ev_cst (ev_cons (t := .int (1 + c)) (ev_bin ev_cst (ev_call (ev_cons (t := .ref 0) (ev_slot rfl rfl) (ev_cons (t := .int 3) ev_cst ev_nil)) e5) rfl) ev_nil))) ev_nil)) tm) rfl ?_
            dsimp only [En.put]
            exact wp_ret (ev_tup (ev_cons (t := rT (s * mkRat 1 (1 + c).toNat)) (ev_slot rfl rfl) (ev_cons (t := .tup (rTs X)) (ev_prim1 (p := .tuple) (t := .lst (rTs X)) (ev_view (t := .own (rTs X)) rfl) rfl) ev_nil))) ⟨_, _, rfl, row_lenM hS j5, ⟨_, X, ⟨lX, Rat.mul_nonneg s0 (mk_nnM (by omega) (by omega)), (Sz.mul sz zo).mono (by omega), zX⟩, rfl⟩, j5⟩
          · refine wp_if_n (ev_cmp cb ev_cst (co_eqf z)) ?_
            exact wp_ret (ev_tup (ev_cons (t := rT s) (ev_slot rfl rfl) (ev_cons (t := .tup (rTs X)) (ev_prim1 (p := .tuple) (t := .lst (rTs X)) (ev_view (t := .own (rTs X)) rfl) rfl) ev_nil))) ⟨_, _, rfl, row_lenM hS j4, ⟨s, X, ⟨lX, s0, sz.mono (by omega), zX⟩, rfl⟩, j4⟩
        have ca : evalE (FF (n + 3)) [some (.ref 0), some (.tup (rTs B)), some (.own (L.map mpT)), some (.int W), some (.int (1 + v)), x5, some (rT s), some (.own (rTs X)), x8, x9, x10, x11, none] (.call i__law_taken [.slot 0, .cst (.int 2)]) S2 = .ok (.int a, S3) := ev_call (ev_cons (t := .ref 0) (ev_slot rfl rfl) (ev_cons (t := .int 2) ev_cst ev_nil)) e3
        by_cases z : a = 0
        · obtain ⟨i, S4, e4, j4, i0, i1⟩ := taken_ok (n + 2) ns S3 m j3 (by omega) (by omega)
          obtain ⟨p, hp⟩ : ∃ p : Nat, (p : Int) = i := ⟨i.toNat, by omega⟩
          obtain ⟨c, S5, e5, j5, c0, c1⟩ := taken_ok (n + 2) ns S4 8 j4 (by omega) (by omega)
          have pm : p < m := by omega
          have zo : Sz (mkRat (-1) (2 + c).toNat) 4 := mk_Sz (by omega) (by omega) (by omega)
          have pl := law_plus_ok (n + 1) (gr X p) (mkRat (-1) (2 + c).toNat) (zX.gr (by omega)) zo (by omega) S5
          refine wp_if_t (ev_cmp ca ev_cst (co_eq z)) ?_
          dsimp only [List.cons_append, List.nil_append]
          refine wp_set (t := .int (p : Nat)) (S1 := S4) (by
            rw [hp]
            exact ev_call (ev_cons (t := .ref 0) (ev_slot rfl rfl) (ev_cons (t := .int m) (lb _ _ rfl) ev_nil)) e4) rfl ?_
          dsimp only [En.put]
          have g1 : Int.gcd (-1) (2 + c) = 1 := by rw [Int.neg_gcd]; exact Int.one_gcd
          have sx : sub (deref S4 (.lst (rTs X))) (.int (p : Nat)) = some (rT (gr X p)) := rTs_at S4 (by omega)
          refine wp_setI (t := rT (gr X p + mkRat (-1) (2 + c).toNat)) (S1 := S5) (S2 := S5) (j := p) (ev_call (ev_cons (t := rT (gr X p)) (ev_sub (x := .lst (rTs X)) (ev_view (t := .own (rTs X)) rfl) (ev_slot rfl rfl) sx) (ev_cons (t := rT (mkRat (-1) (2 + c).toNat)) (by
            rw [← rT_overM (a := -1) (d := 2 + c) (by omega) g1]
            exact ev_tup (ev_cons (t := .int (-1)) (ev_bin ev_cst ev_cst rfl) (ev_cons (t := .int (2 + c)) (ev_bin ev_cst (ev_call (ev_cons (t := .ref 0) (ev_slot rfl rfl) (ev_cons (t := .int 8) ev_cst ev_nil)) e5) rfl) ev_nil))) ev_nil)) pl) (ev_slot rfl rfl) rfl rfl (by rw [rTs_len]; omega) ?_
          dsimp only [En.put]
          have es : (rTs X).set p (rT (gr X p + mkRat (-1) (2 + c).toNat)) = rTs (X.set p (gr X p + mkRat (-1) (2 + c).toNat)) := by unfold rTs; rw [List.map_set]
          rw [es]
          exact rest _ _ S5 (by rw [List.length_set]; exact lX) ((zX.mono (by omega)).set ((Sz.add (zX.gr (by omega)) zo).mono (by omega))) j5
        · refine wp_if_n (ev_cmp ca ev_cst (co_eqf z)) ?_
          exact rest X x8 S3 lX (zX.mono (by omega)) j3)
  exact ⟨s, X, S', hX, j, e⟩

/-! k58: the law -/
theorem gap_nn {m : Nat} {B : List Rat} {s : Rat} {Z : List Int} (s0 : 0 ≤ s) (lB : B.length = m) (lZ : Z.length = m) (hz : ∀ p, p < m → gr B p ≤ s + (gi Z p : Rat)) (q : List Nat × Bool) (hq : RowOk q m) : 0 ≤ gapF B s (Z.map fun z : Int => (z : Rat)) (ordK (kB B) q.1) q.2 := by
  have ex : gr (Z.map fun z : Int => (z : Rat)) = fun p => (gi Z p : Rat) := by
    funext p
    by_cases c : p < Z.length
    · rw [gr_eq (by rw [List.length_map]; exact c), List.getElem_map, gi_eq c]
    · have e1 : gr (Z.map fun z : Int => (z : Rat)) p = 0 := by
        unfold gr
        rw [List.getD_eq_getElem?_getD, List.getElem?_eq_none (by rw [List.length_map]; omega)]
        rfl
      have e2 : gi Z p = 0 := by
        unfold gi
        rw [List.getD_eq_getElem?_getD, List.getElem?_eq_none (by omega)]
        rfl
      rw [e1, e2]
      rfl
  have hx : ∀ p, gr B p ≤ s + ((fun p => gi Z p) p : Rat) := fun p => by
    by_cases c : p < m
    · exact hz p c
    · have e1 : gr B p = 0 := by
        unfold gr
        rw [List.getD_eq_getElem?_getD, List.getElem?_eq_none (by omega)]
        rfl
      have e2 : gi Z p = 0 := by
        unfold gi
        rw [List.getD_eq_getElem?_getD, List.getElem?_eq_none (by omega)]
        rfl
      show gr B p ≤ s + (gi Z p : Rat)
      rw [e1, e2]
      show (0 : Rat) ≤ s + 0
      grind
  have asc := ascK_of (k := kB B) (fun p => Rat.le_of_lt (prt_pos _)) (asc_ord (kB B) q.1)
  have pL := ordK_perm (kB B) q.1
  generalize ordK (kB B) q.1 = L at asc pL
  obtain ⟨h1, h2⟩ := row_holds (b := gr B) (x := fun p => gi Z p) s0 hx (L := L) asc
  have L0 : L ≠ [] := fun z => hq.ne (by rw [z] at pL; exact List.nil_perm.mp pL)
  obtain ⟨p, L', eL⟩ := List.exists_cons_of_ne_nil L0
  have h2 := h2 p L' eL
  unfold gapF
  rw [ex]
  have hd : L.headD 0 = p := by rw [eL]; rfl
  rw [hd]
  have a1 : askL (kB B) (cB B) (fun p => (gi Z p : Rat)) L 0 ≤ s := h1
  have a2 : askL (kB B) (cB B) (fun p => (gi Z p : Rat)) L 0 + (1 - lastK (kB B) L 0) * (cB B p - 1 - (gi Z p : Rat)) ≤ s := h2
  cases q.2 with
  | false =>
    rw [if_neg Bool.false_ne_true]
    grind
  | true =>
    rw [if_pos rfl]
    grind
theorem main_n (n : Nat) (ns : List Int) : callF (Gam tab) (n + 60) i_law [.frz ns] [] = .ok (.bl true, []) := by
  have h0 : Row ns [rowT ns 0 3358 0] := ⟨0, 3358, 0, rfl, by omega, by omega, by omega⟩
  obtain ⟨B, m, S1, hB, m4, j1, e1⟩ := law_bounds_ok (n + 56) ns _ h0
  have m1 := hB.n1
  have lB := hB.len
  obtain ⟨u, S2, e2, j2, u0, u1⟩ := taken_ok (n + 58) ns S1 20 j1 (by omega) (by omega)
  obtain ⟨w, S3, e3, j3, w0, w1⟩ := taken_ok (n + 58) ns S2 7 j2 (by omega) (by omega)
  have lw := lowered_small (n + 58) (p := u) (d := 1 + w) (by omega) (by omega) (by omega) S3
  obtain ⟨s, hs⟩ : ∃ s, s = mkRat u (1 + w).toNat := ⟨_, rfl⟩
  have s0 : 0 ≤ s := by rw [hs]; exact mk_nnM u0 (by omega)
  have s20 : s ≤ ((20 : Int) : Rat) := by rw [hs]; exact mk_leM (by omega) (by omega)
  have sz : Sz s 10 := by rw [hs]; exact mk_Sz (by omega) (by omega) (by omega)
  rw [← hs] at lw
  refine law_Rt (n := n + 59) g_law rfl ?_
  show Wp (Rt _) (evalSs (FF (n + 59)) c_law [some (.frz ns), none, none, none, none, none, none, none, none, none, none] [])
  dsimp only [c_law]
  refine wp_setR (xs := [.frz ns, .int 0, .int 3358, .int 0]) (S1 := []) (ev_lst (ev_cons (t := .frz ns) (ev_slot rfl rfl) (ev_cons (t := .int 0) ev_cst (ev_cons (t := .int 3358) ev_cst (ev_cons (t := .int 0) ev_cst ev_nil))))) rfl ?_
  dsimp only [En.put, List.length_nil, List.nil_append]
  refine wp_set (t := .tup (rTs B)) (S1 := S1) (ev_call (ev_cons (t := .ref 0) (ev_slot rfl rfl) ev_nil) e1) rfl ?_
  dsimp only [En.put]
  refine wp_par (S1 := S3) (xs := [rT s, .own []]) (ep_cons (ev_call (ev_cons (t := .int u) (ev_call (ev_cons (t := .ref 0) (ev_slot rfl rfl) (ev_cons (t := .int 20) ev_cst ev_nil)) e2) (ev_cons (t := .int (1 + w)) (ev_bin ev_cst (ev_call (ev_cons (t := .ref 0) (ev_slot rfl rfl) (ev_cons (t := .int 7) ev_cst ev_nil)) e3) rfl) ev_nil)) lw) (ep_cons (ev_lst ev_nil) ep_nil)) rfl ?_
  refine wp_for (xs := rTs B) (fun i ρ S' => Row ns S' ∧ ∃ (Z : List Int) (x5 x9 : Option T), Z.length = i ∧ (∀ z ∈ Z, -20 ≤ z ∧ z ≤ 1001) ∧ (∀ p, p < i → gr B p ≤ s + (gi Z p : Rat)) ∧ ρ = [some (.frz ns), some (.ref 0), some (.tup (rTs B)), some (rT s), some (.own (rTs (Z.map fun z : Int => (z : Rat)))), x5, none, none, none, x9, none]) (fun _ _ => False) (it_seq (t := .tup (rTs B)) (ev_slot rfl rfl) rfl) ⟨j3, [], none, none, rfl, fun z hz => (by cases hz), fun p hp => absurd hp (by omega), rfl⟩ ?_ (fun _ _ z => z.elim) ?_
  · rintro i ρ S' hi ⟨j, Z, x5, x9, lZ, hZ, gZ, rfl⟩
    rw [rTs_len] at hi
    have ex : (rTs B)[i]'(by rw [rTs_len]; exact hi) = rT B[i] := List.getElem_map _
    rw [ex]
    have hb := hB.bd _ (List.getElem_mem hi)
    have eb : gr B i = B[i] := gr_eq hi
    generalize B[i] = b at hb eb ⊢
    refine ⟨[some (.frz ns), some (.ref 0), some (.tup (rTs B)), some (rT s), some (.own (rTs (Z.map fun z : Int => (z : Rat)))), some (rT b), none, none, none, x9, none], rfl, ?_⟩
    have pl := law_plus_ok (n + 57) b (-s) hb.sz sz.negM (by omega) S'
    have ee : b + -s = b - s := by grind
    rw [ee] at pl
    have zz : Sz (b - s) 21 := (Sz.sub hb.sz sz).mono (by omega)
    refine wp_set (t := rT (b - s)) (S1 := S') (ev_call (ev_cons (t := rT b) (ev_slot rfl rfl) (ev_cons (t := rT (-s)) (ev_negR (ev_slot rfl rfl)) ev_nil)) pl) rfl ?_
    dsimp only [En.put]
    obtain ⟨c1, c2⟩ := ceil_bd hb s0 s20
    have ce := ev_ceil (F := FF (n + 59)) (ρ := [some (.frz ns), some (.ref 0), some (.tup (rTs B)), some (rT s), some (.own (rTs (Z.map fun z : Int => (z : Rat)))), some (rT b), none, none, none, some (rT (b - s)), none]) (S := S') (a := .slot 9) zz (by omega) (ev_slot rfl rfl)
    obtain ⟨a, S4, e4, j4, a0, a1⟩ := taken_ok (n + 58) ns S' 2 j (by omega) (by omega)
    have ca : evalE (FF (n + 59)) [some (.frz ns), some (.ref 0), some (.tup (rTs B)), some (rT s), some (.own (rTs (Z.map fun z : Int => (z : Rat)))), some (rT b), none, none, none, some (rT (b - s)), none] (.call i__law_taken [.slot 1, .cst (.int 2)]) S' = .ok (.int a, S4) := ev_call (ev_cons (t := .ref 0) (ev_slot rfl rfl) (ev_cons (t := .int 2) ev_cst ev_nil)) e4
    obtain ⟨d, S5, d0, d2, j5, ed⟩ : ∃ (d : Int) (S5 : Store), 0 ≤ d ∧ d ≤ 2 ∧ Row ns S5 ∧ evalE (FF (n + 59)) [some (.frz ns), some (.ref 0), some (.tup (rTs B)), some (rT s), some (.own (rTs (Z.map fun z : Int => (z : Rat)))), some (rT b), none, none, none, some (rT (b - s)), none] (.ite (.cmp .eq (.call i__law_taken [.slot 1, .cst (.int 2)]) (.cst (.int 0))) (.call i__law_taken [.slot 1, .cst (.int 3)]) (.cst (.int 0))) S' = .ok (.int d, S5) := by
      by_cases z : a = 0
      · obtain ⟨d, S5, e5, j5, d0, d1⟩ := taken_ok (n + 58) ns S4 3 j4 (by omega) (by omega)
        exact ⟨d, S5, d0, by omega, j5, ev_ite_t (ev_cmp ca ev_cst (co_eq z)) (ev_call (ev_cons (t := .ref 0) (ev_slot rfl rfl) (ev_cons (t := .int 3) ev_cst ev_nil)) e5)⟩
      · exact ⟨0, S4, by omega, by omega, j4, ev_ite_f (ev_cmp ca ev_cst (co_eqf z)) ev_cst⟩
    refine wp_app (t := rT ((ceilR (b - s) + d : Int) : Rat)) (ev_tup (ev_cons (t := .int (ceilR (b - s) + d)) (ev_bin ce ed rfl) (ev_cons (t := .int 1) ev_cst ev_nil))) rfl rfl (by rw [rTs_len, List.length_map]; omega) (wp_nil ?_)
    refine ⟨j5, Z ++ [ceilR (b - s) + d], _, _, by rw [List.length_append, lZ]; rfl, fun x hx => ?_, fun p hp => ?_, by unfold rTs; rw [List.map_append, List.map_append]; rfl⟩
    · rcases List.mem_append.mp hx with z | z
      · exact hZ x z
      · rw [List.mem_singleton.mp z]
        omega
    · by_cases c : p < i
      · have : gi (Z ++ [ceilR (b - s) + d]) p = gi Z p := by
          unfold gi
          rw [List.getD_eq_getElem?_getD, List.getElem?_append_left (by omega), ← List.getD_eq_getElem?_getD]
        rw [this]
        exact gZ p c
      · have ep : p = i := by omega
        subst ep
        have : gi (Z ++ [ceilR (b - s) + d]) p = ceilR (b - s) + d := by
          unfold gi
          rw [List.getD_eq_getElem?_getD, List.getElem?_append_right (by omega), lZ, Nat.sub_self]
          rfl
        rw [this, eb]
        have h1 := ceilR_le (b - s)
        have h2 := int_le d0
        rw [Rat.intCast_add]
        have h2 : (0 : Rat) ≤ (d : Rat) := h2
        grind
  · rintro ρ S' ⟨j, Z, x5, x9, lZ, hZ, gZ, rfl⟩
    rw [rTs_len, lB] at lZ
    rw [rTs_len, lB] at gZ
    obtain ⟨s', X', S6, hX', j6, e6⟩ := law_mix_point_ok (n + 55) m ns B hB S' j
    obtain ⟨X, hX⟩ : ∃ X, X = Z.map fun z : Int => (z : Rat) := ⟨_, rfl⟩
    have mX : MixOk s X m := by
      refine ⟨by rw [hX, List.length_map]; exact lZ, s0, sz.mono (by omega), fun r hr => ?_⟩
      rw [hX] at hr
      obtain ⟨z, hz, rfl⟩ := List.mem_map.mp hr
      have := hZ z hz
      exact Sz.int (by omega) (by omega)
    have gn : ∀ q, RowOk q m → 0 ≤ gapF B s X (ordK (kB B) q.1) q.2 := fun q hq => by
      rw [hX]
      exact gap_nn s0 lB lZ gZ q hq
    rw [← hX]
    refine wp_par (S1 := S6) (xs := [mixT s X, mixT s' X']) (ep_cons (ev_tup (ev_cons (t := rT s) (ev_slot rfl rfl) (ev_cons (t := .tup (rTs X)) (ev_prim1 (p := .tuple) (t := .lst (rTs X)) (ev_view (t := .own (rTs X)) rfl) rfl) ev_nil))) (ep_cons (ev_call (ev_cons (t := .ref 0) (ev_slot rfl rfl) (ev_cons (t := .tup (rTs B)) (ev_slot rfl rfl) ev_nil)) e6) ep_nil)) rfl ?_
    have bm := broken_mix_none (n + 51) m B hB s X mX gn S6
    refine wp_if_n (ev_isN (k := true) (t := .non) (ev_call (ev_cons (t := .tup (rTs B)) (ev_slot rfl rfl) (ev_cons (t := mixT s X) (ev_slot rfl rfl) ev_nil)) bm) rfl) ?_
    obtain ⟨R, hR, lR, e7⟩ := law_mix_rows_ok (n + 57) m (by omega) S6
    have ll : evalE (FF (n + 59)) [some (.frz ns), some (.ref 0), some (.tup (rTs B)), some (rT s), some (.own (rTs X)), x5, some (mixT s X), some (mixT s' X'), none, x9, none] (.prim .len [.slot 2]) S6 = .ok (.int m, S6) := by rw [← lB]; exact len_rTs (a := .slot 2) (ev_slot rfl rfl)
    refine wp_for (xs := R.map rowQ) (fun i ρ S2 => S2 = S6 ∧ ∃ x8 x10, ρ = [some (.frz ns), some (.ref 0), some (.tup (rTs B)), some (rT s), some (.own (rTs X)), x5, some (mixT s X), some (mixT s' X'), x8, x9, x10]) (fun _ _ => False) (it_seq (t := .own (R.map rowQ)) (ev_call (ev_cons (t := .int m) ll ev_nil) e7) rfl) ⟨rfl, none, none, rfl⟩ ?_ (fun _ _ z => z.elim) ?_
    · rintro i ρ S2 hi ⟨rfl, x8, x10, rfl⟩
      rw [List.length_map] at hi
      rw [List.getElem_map]
      have hq := hR _ (List.getElem_mem hi)
      generalize R[i] = q at hq ⊢
      refine ⟨[some (.frz ns), some (.ref 0), some (.tup (rTs B)), some (rT s), some (.own (rTs X)), x5, some (mixT s X), some (mixT s' X'), some (rowQ q), x9, x10], rfl, ?_⟩
      have l1 := law_mix_gap_ok (n + 55) m B hB s X mX q hq S2
      have l2 := mixing_gap_ok (n + 52) m B hB s X mX q hq S2
      have l3 := law_mix_gap_ok (n + 55) m B hB s' X' hX' q hq S2
      have l4 := mixing_gap_ok (n + 52) m B hB s' X' hX' q hq S2
      have nn := Rat.num_nonneg.mpr (gn q hq)
      generalize gapF B s X (ordK (kB B) q.1) q.2 = g1 at l1 l2 nn
      generalize gapF B s' X' (ordK (kB B) q.1) q.2 = g2 at l3 l4
      have a1 := alike_rT (n + 57) g1 S2
      have a2 := alike_rT (n + 57) g2 S2
      have args : ∀ (ρ : En) (j : Nat) (s : Rat) (X : List Rat), ρ.get 2 = some (.tup (rTs B)) → ρ.get j = some (mixT s X) → ρ.get 8 = some (rowQ q) → evalEs (FF (n + 59)) ρ [.slot 2, .slot j, .slot 8] S2 = .ok ([.tup (rTs B), mixT s X, rowQ q], S2) := fun ρ j s X h2 hj h8 => ev_as3 h2 hj h8 rfl rfl rfl
      refine wp_set (t := rT g1) (S1 := S2) (ev_call (args _ 6 s X rfl rfl rfl) l1) rfl ?_
      dsimp only [En.put]
      refine wp_if_n (ev_or_f (ev_cmp (ev_num rfl) ev_cst (co_ltf (by omega))) (ev_not (b := true) (ev_call (ev_cons (t := rT g1) (ev_call (args _ 6 s X rfl rfl rfl) l2) (ev_cons (t := rT g1) (ev_slot rfl rfl) ev_nil)) a1))) ?_
      refine wp_if_n (ev_not (b := true) (ev_call (ev_cons (t := rT g2) (ev_call (args _ 7 s' X' rfl rfl rfl) l4) (ev_cons (t := rT g2) (ev_call (args _ 7 s' X' rfl rfl rfl) l3) ev_nil)) a2)) (wp_nil ?_)
      exact ⟨rfl, _, _, rfl⟩
    · rintro ρ S2 ⟨rfl, x8, x10, rfl⟩
      exact wp_ret ev_cst ⟨_, _, rfl, rfl⟩
theorem main : ∀ ns : List Int, ns.length ≤ 63 → callF (Gam tab) 60 i_law [.frz ns] [] = .ok (.bl true, []) := fun ns _ => by
  have h := main_n 0 ns
  rw [Nat.zero_add] at h
  exact h


end Lw
open PySem PySem.W PyProof.Rows L2 in
set_option maxRecDepth 100000 in
set_option maxHeartbeats 0 in
theorem PySem.Challenge.cw_lotplans_k58_whole_mixing_rows_holds : PySem.Challenge.rw_lotplans_k58_whole_mixing_rows.Holds := by
  w_on; o_law; k_head; (case hw => w_witness2)
  k_fill
  refine Ip.law_end (l := PySem.Challenge.rw_lotplans_k58_whole_mixing_rows) 60 Lw.tab Lw.bs Lw.cs Lw.xs Lw.rs 34 (e := Lw.e_law) rfl rfl ⟨rfl, by decide, by decide⟩ (fun w h Y => PySem.W.kIn_of Y) rfl rfl rfl Lw.main ?F
  case F =>
    intro w
    refine' ⟨?hfl, ?hx, ?hbs, ?hcs⟩
    case hfl =>
      show ∃ fl, Ip.FFs _ _ [Lw.e__law_taken, Lw.e__law_pick, Lw.e__law_lowered, Lw.e__law_bounds, Lw.e__law_sets, Lw.e__law_mix_rows, Lw.e__law_plus, Lw.e__law_sum, Lw.e__law_times, Lw.e__law_part, Lw.e__law_mix_point, Lw.e_below, Lw.e_is_int, Lw.e_common_divisor, Lw.e_is_ratio, Lw.e_need_bounds, Lw.e_need_mix, Lw.e_mixing_rows, Lw.e_ratio, Lw.e_minus, Lw.e_ceiling, Lw.e_part_of, Lw.e_in_order, Lw.e_plus, Lw.e_times, Lw.e_mix_gap, Lw.e_first_broken_mix, Lw.e_broken_mix, Lw.e__law_less, Lw.e__law_mix_gap, Lw.e__law_alike, Lw.e_is_in, Lw.e_need_mixing_row, Lw.e_mixing_gap, Lw.e_law] fl
      refine' Ip.FFs.exc (Ip.FF.mk ?n ?l ?c ?k ?o ?b) ?_
      (case n => k_is)
      (case l => k_is)
      (case c => k_is)
      (case k => k_is)
      (case o => decide +kernel)
      (case b => exact fun us hl => match us, hl with | [_, _], _ => rfl)
      refine' Ip.FFs.exc (Ip.FF.mk ?n ?l ?c ?k ?o ?b) ?_
      (case n => k_is)
      (case l => k_is)
      (case c => k_is)
      (case k => k_is)
      (case o => decide +kernel)
      (case b => exact fun us hl => match us, hl with | [_, _], _ => rfl)
      refine' Ip.FFs.exc (Ip.FF.mk ?n ?l ?c ?k ?o ?b) ?_
      (case n => k_is)
      (case l => k_is)
      (case c => k_is)
      (case k => k_is)
      (case o => decide +kernel)
      (case b => exact fun us hl => match us, hl with | [_, _], _ => rfl)
      refine' Ip.FFs.exc (Ip.FF.mk ?n ?l ?c ?k ?o ?b) ?_
      (case n => k_is)
      (case l => k_is)
      (case c => k_is)
      (case k => k_is)
      (case o => decide +kernel)
      (case b => exact fun us hl => match us, hl with | [_], _ => rfl)
      refine' Ip.FFs.exc (Ip.FF.mk ?n ?l ?c ?k ?o ?b) ?_
      (case n => k_is)
      (case l => k_is)
      (case c => k_is)
      (case k => k_is)
      (case o => decide +kernel)
      (case b => exact fun us hl => match us, hl with | [_], _ => rfl)
      refine' Ip.FFs.exc (Ip.FF.mk ?n ?l ?c ?k ?o ?b) ?_
      (case n => k_is)
      (case l => k_is)
      (case c => k_is)
      (case k => k_is)
      (case o => decide +kernel)
      (case b => exact fun us hl => match us, hl with | [_], _ => rfl)
      refine' Ip.FFs.exc (Ip.FF.mk ?n ?l ?c ?k ?o ?b) ?_
      (case n => k_is)
      (case l => k_is)
      (case c => k_is)
      (case k => k_is)
      (case o => decide +kernel)
      (case b => exact fun us hl => match us, hl with | [_, _], _ => rfl)
      refine' Ip.FFs.exc (Ip.FF.mk ?n ?l ?c ?k ?o ?b) ?_
      (case n => k_is)
      (case l => k_is)
      (case c => k_is)
      (case k => k_is)
      (case o => decide +kernel)
      (case b => exact fun us hl => match us, hl with | [_], _ => rfl)
      refine' Ip.FFs.exc (Ip.FF.mk ?n ?l ?c ?k ?o ?b) ?_
      (case n => k_is)
      (case l => k_is)
      (case c => k_is)
      (case k => k_is)
      (case o => decide +kernel)
      (case b => exact fun us hl => match us, hl with | [_, _], _ => rfl)
      refine' Ip.FFs.exc (Ip.FF.mk ?n ?l ?c ?k ?o ?b) ?_
      (case n => k_is)
      (case l => k_is)
      (case c => k_is)
      (case k => k_is)
      (case o => decide +kernel)
      (case b => exact fun us hl => match us, hl with | [_], _ => rfl)
      refine' Ip.FFs.exc (Ip.FF.mk ?n ?l ?c ?k ?o ?b) ?_
      (case n => k_is)
      (case l => k_is)
      (case c => k_is)
      (case k => k_is)
      (case o => decide +kernel)
      (case b => exact fun us hl => match us, hl with | [_, _], _ => rfl)
      refine' Ip.FFs.exc (Ip.FF.mk ?n ?l ?c ?k ?o ?b) ?_
      (case n => k_is)
      (case l => k_is)
      (case c => k_is)
      (case k => k_is)
      (case o => decide +kernel)
      (case b => exact fun us hl => match us, hl with | [_, _], _ => rfl)
      refine' Ip.FFs.exc (Ip.FF.mk ?n ?l ?c ?k ?o ?b) ?_
      (case n => k_is)
      (case l => k_is)
      (case c => k_is)
      (case k => k_is)
      (case o => decide +kernel)
      (case b => exact fun us hl => match us, hl with | [_], _ => rfl)
      refine' Ip.FFs.exc (Ip.FF.mk ?n ?l ?c ?k ?o ?b) ?_
      (case n => k_is)
      (case l => k_is)
      (case c => k_is)
      (case k => k_is)
      (case o => decide +kernel)
      (case b => exact fun us hl => match us, hl with | [_, _], _ => rfl)
      refine' Ip.FFs.exc (Ip.FF.mk ?n ?l ?c ?k ?o ?b) ?_
      (case n => k_is)
      (case l => k_is)
      (case c => k_is)
      (case k => k_is)
      (case o => decide +kernel)
      (case b => exact fun us hl => match us, hl with | [_], _ => rfl)
      refine' Ip.FFs.exc (Ip.FF.mk ?n ?l ?c ?k ?o ?b) ?_
      (case n => k_is)
      (case l => k_is)
      (case c => k_is)
      (case k => k_is)
      (case o => decide +kernel)
      (case b => exact fun us hl => match us, hl with | [_], _ => rfl)
      refine' Ip.FFs.exc (Ip.FF.mk ?n ?l ?c ?k ?o ?b) ?_
      (case n => k_is)
      (case l => k_is)
      (case c => k_is)
      (case k => k_is)
      (case o => decide +kernel)
      (case b => exact fun us hl => match us, hl with | [_, _], _ => rfl)
      refine' Ip.FFs.exc (Ip.FF.mk ?n ?l ?c ?k ?o ?b) ?_
      (case n => k_is)
      (case l => k_is)
      (case c => k_is)
      (case k => k_is)
      (case o => decide +kernel)
      (case b => exact fun us hl => match us, hl with | [_], _ => rfl)
      refine' Ip.FFs.exc (Ip.FF.mk ?n ?l ?c ?k ?o ?b) ?_
      (case n => k_is)
      (case l => k_is)
      (case c => k_is)
      (case k => k_is)
      (case o => decide +kernel)
      (case b => exact fun us hl => match us, hl with | [_, _], _ => rfl)
      refine' Ip.FFs.exc (Ip.FF.mk ?n ?l ?c ?k ?o ?b) ?_
      (case n => k_is)
      (case l => k_is)
      (case c => k_is)
      (case k => k_is)
      (case o => decide +kernel)
      (case b => exact fun us hl => match us, hl with | [_, _], _ => rfl)
      refine' Ip.FFs.exc (Ip.FF.mk ?n ?l ?c ?k ?o ?b) ?_
      (case n => k_is)
      (case l => k_is)
      (case c => k_is)
      (case k => k_is)
      (case o => decide +kernel)
      (case b => exact fun us hl => match us, hl with | [_], _ => rfl)
      refine' Ip.FFs.exc (Ip.FF.mk ?n ?l ?c ?k ?o ?b) ?_
      (case n => k_is)
      (case l => k_is)
      (case c => k_is)
      (case k => k_is)
      (case o => decide +kernel)
      (case b => exact fun us hl => match us, hl with | [_], _ => rfl)
      refine' Ip.FFs.exc (Ip.FF.mk ?n ?l ?c ?k ?o ?b) ?_
      (case n => k_is)
      (case l => k_is)
      (case c => k_is)
      (case k => k_is)
      (case o => decide +kernel)
      (case b => exact fun us hl => match us, hl with | [_, _], _ => rfl)
      refine' Ip.FFs.exc (Ip.FF.mk ?n ?l ?c ?k ?o ?b) ?_
      (case n => k_is)
      (case l => k_is)
      (case c => k_is)
      (case k => k_is)
      (case o => decide +kernel)
      (case b => exact fun us hl => match us, hl with | [_, _], _ => rfl)
      refine' Ip.FFs.exc (Ip.FF.mk ?n ?l ?c ?k ?o ?b) ?_
      (case n => k_is)
      (case l => k_is)
      (case c => k_is)
      (case k => k_is)
      (case o => decide +kernel)
      (case b => exact fun us hl => match us, hl with | [_, _], _ => rfl)
      refine' Ip.FFs.exc (Ip.FF.mk ?n ?l ?c ?k ?o ?b) ?_
      (case n => k_is)
      (case l => k_is)
      (case c => k_is)
      (case k => k_is)
      (case o => decide +kernel)
      (case b => exact fun us hl => match us, hl with | [_, _, _], _ => rfl)
      refine' Ip.FFs.exc (Ip.FF.mk ?n ?l ?c ?k ?o ?b) ?_
      (case n => k_is)
      (case l => k_is)
      (case c => k_is)
      (case k => k_is)
      (case o => decide +kernel)
      (case b => exact fun us hl => match us, hl with | [_, _], _ => rfl)
      refine' Ip.FFs.exc (Ip.FF.mk ?n ?l ?c ?k ?o ?b) ?_
      (case n => k_is)
      (case l => k_is)
      (case c => k_is)
      (case k => k_is)
      (case o => decide +kernel)
      (case b => exact fun us hl => match us, hl with | [_, _], _ => rfl)
      refine' Ip.FFs.exc (Ip.FF.mk ?n ?l ?c ?k ?o ?b) ?_
      (case n => k_is)
      (case l => k_is)
      (case c => k_is)
      (case k => k_is)
      (case o => decide +kernel)
      (case b => exact fun us hl => match us, hl with | [_, _], _ => rfl)
      refine' Ip.FFs.exc (Ip.FF.mk ?n ?l ?c ?k ?o ?b) ?_
      (case n => k_is)
      (case l => k_is)
      (case c => k_is)
      (case k => k_is)
      (case o => decide +kernel)
      (case b => exact fun us hl => match us, hl with | [_, _, _], _ => rfl)
      refine' Ip.FFs.exc (Ip.FF.mk ?n ?l ?c ?k ?o ?b) ?_
      (case n => k_is)
      (case l => k_is)
      (case c => k_is)
      (case k => k_is)
      (case o => decide +kernel)
      (case b => exact fun us hl => match us, hl with | [_, _], _ => rfl)
      refine' Ip.FFs.exc (Ip.FF.mk ?n ?l ?c ?k ?o ?b) ?_
      (case n => k_is)
      (case l => k_is)
      (case c => k_is)
      (case k => k_is)
      (case o => decide +kernel)
      (case b => exact fun us hl => match us, hl with | [_, _, _], _ => rfl)
      refine' Ip.FFs.exc (Ip.FF.mk ?n ?l ?c ?k ?o ?b) ?_
      (case n => k_is)
      (case l => k_is)
      (case c => k_is)
      (case k => k_is)
      (case o => decide +kernel)
      (case b => exact fun us hl => match us, hl with | [_, _], _ => rfl)
      refine' Ip.FFs.exc (Ip.FF.mk ?n ?l ?c ?k ?o ?b) ?_
      (case n => k_is)
      (case l => k_is)
      (case c => k_is)
      (case k => k_is)
      (case o => decide +kernel)
      (case b => exact fun us hl => match us, hl with | [_, _, _], _ => rfl)
      refine' Ip.FFs.exc (Ip.FF.mk ?n ?l ?c ?k ?o ?b) ?_
      (case n => k_is)
      (case l => k_is)
      (case c => k_is)
      (case k => k_is)
      (case o => decide +kernel)
      (case b => exact fun us hl => match us, hl with | [_], _ => rfl)
      exact Ip.FFs.exn
    case hx =>
      show ∃ l, Ip.XFacts _ [11, 26, 27] [11, 26, 27] l
      refine' ⟨_, ⟨?zzxf, ?zzxt, ?zzxm, ?zzxr, by decide, by decide +kernel⟩⟩
      (case zzxt =>
        refine' Ip.XTs.cons (c := 11) (Ip.XB.of (x := "BadRow") (by decide +kernel) ?zzn ?zzh1 ?zzh2 ?zzh3 ?zzh4 ?zzh5 ?zzh6 ?zzh7 ?zzh8 ?zzh9 ?zzha (Ip.fl0 (by decide +kernel)) ?zzhc ?zzhd) ?zzt
        (case zzn => k_is)
        (case zzh1 => k_is)
        (case zzh2 => k_is)
        (case zzh3 => k_is)
        (case zzh4 => k_is)
        (case zzh5 => k_is)
        (case zzh6 => k_is)
        (case zzh7 => k_is)
        (case zzh8 => k_is)
        (case zzh9 => k_is)
        (case zzha => k_is)
        (case zzhc => k_is)
        (case zzhd => k_is)
        (case zzt =>
        refine' Ip.XTs.cons (c := 26) (Ip.XB.of (x := "BadBounds") (by decide +kernel) ?zzn ?zzh1 ?zzh2 ?zzh3 ?zzh4 ?zzh5 ?zzh6 ?zzh7 ?zzh8 ?zzh9 ?zzha (Ip.fl0 (by decide +kernel)) ?zzhc ?zzhd) ?zzt
        (case zzn => k_is)
        (case zzh1 => k_is)
        (case zzh2 => k_is)
        (case zzh3 => k_is)
        (case zzh4 => k_is)
        (case zzh5 => k_is)
        (case zzh6 => k_is)
        (case zzh7 => k_is)
        (case zzh8 => k_is)
        (case zzh9 => k_is)
        (case zzha => k_is)
        (case zzhc => k_is)
        (case zzhd => k_is)
        (case zzt =>
        refine' Ip.XTs.cons (c := 27) (Ip.XB.of (x := "BadMix") (by decide +kernel) ?zzn ?zzh1 ?zzh2 ?zzh3 ?zzh4 ?zzh5 ?zzh6 ?zzh7 ?zzh8 ?zzh9 ?zzha (Ip.fl0 (by decide +kernel)) ?zzhc ?zzhd) ?zzt
        (case zzn => k_is)
        (case zzh1 => k_is)
        (case zzh2 => k_is)
        (case zzh3 => k_is)
        (case zzh4 => k_is)
        (case zzh5 => k_is)
        (case zzh6 => k_is)
        (case zzh7 => k_is)
        (case zzh8 => k_is)
        (case zzh9 => k_is)
        (case zzha => k_is)
        (case zzhc => k_is)
        (case zzhd => k_is)
        (case zzt => exact Ip.XTs.nil))))
      (case zzxf => rfl)
      (case zzxm =>
        refine' Ip.XMat.cons ?zzr ?_
        (case zzr =>
          refine' Ip.XRow.cons ?zzh ?_; (case zzh => k_is)
          refine' Ip.XRow.cons ?zzh ?_; (case zzh => k_is)
          refine' Ip.XRow.cons ?zzh ?_; (case zzh => k_is)
          exact Ip.XRow.nil)
        refine' Ip.XMat.cons ?zzr ?_
        (case zzr =>
          refine' Ip.XRow.cons ?zzh ?_; (case zzh => k_is)
          refine' Ip.XRow.cons ?zzh ?_; (case zzh => k_is)
          refine' Ip.XRow.cons ?zzh ?_; (case zzh => k_is)
          exact Ip.XRow.nil)
        refine' Ip.XMat.cons ?zzr ?_
        (case zzr =>
          refine' Ip.XRow.cons ?zzh ?_; (case zzh => k_is)
          refine' Ip.XRow.cons ?zzh ?_; (case zzh => k_is)
          refine' Ip.XRow.cons ?zzh ?_; (case zzh => k_is)
          exact Ip.XRow.nil)
        exact Ip.XMat.nil)
      (case zzxr =>
        refine' Ip.XRs.cons (c := 11) (Ip.clsAt_of (x := "BadRow") (by decide +kernel) ?zzn) (.inl ⟨by decide +kernel, _, _, _, _, PySem.F.excBase_ValueError, ?zzq⟩) ?_
        (case zzn => k_is)
        (case zzq => k_exc)
        refine' Ip.XRs.cons (c := 26) (Ip.clsAt_of (x := "BadBounds") (by decide +kernel) ?zzn) (.inl ⟨by decide +kernel, _, _, _, _, PySem.F.excBase_ValueError, ?zzq⟩) ?_
        (case zzn => k_is)
        (case zzq => k_exc)
        refine' Ip.XRs.cons (c := 27) (Ip.clsAt_of (x := "BadMix") (by decide +kernel) ?zzn) (.inl ⟨by decide +kernel, _, _, _, _, PySem.F.excBase_ValueError, ?zzq⟩) ?_
        (case zzn => k_is)
        (case zzq => k_exc)
        exact Ip.XRs.nil)
    case hbs =>
      intro x hx
      simp only [Lw.bs, List.mem_cons, List.not_mem_nil, or_false] at hx
      rcases hx with rfl | rfl | rfl | rfl | rfl | rfl | rfl | rfl | rfl | rfl | rfl | rfl <;> k_is
    case hcs =>
      show Ip.CSs _ [("MOST_BOUNDS", (.int 5)), ("MOST_BOUND", (.int 999))]
      refine' Ip.CSs.int ?nc (by decide +kernel) ?_
      (case nc => k_is)
      refine' Ip.CSs.int ?nc (by decide +kernel) ?_
      (case nc => k_is)
      exact Ip.CSs.nil
