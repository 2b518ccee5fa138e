import PyProof.Rows.All
import HandS.ForMost
import HandS.Deep
import KE.SortData
import KE.DataCmp
import KE.DataAny
import PyProof.ReprReads
import HandS.ForExc
import HandS.Flow
import HandS.Wide
import HandS.TupMul
import HandS.Remove
import HandS.Style
import HandS.TupAny
import HandS.Defaults
import HandS.ExcOwn
import HandS.HeadEnd
import HandS.Head0
import HandS.Head1
import HandS.Head2
import HandS.IsInst
import HandS.WordsDict
import HandS.RaiseMore
import HandS.Conv
import HandS.Text
import HandS.More
import HandS.Iter
import HandS.Zip
import KE.GoesMore
import HandS.TryOnly
import HandS.Comp
import HandS.Small
import HandS.SetFor
import HandS.TryMany
import HandS.Strs
import PyProof.ReprRoads
import HandS.TupSets
import KE.KExcSuper
import HandS.ExcInit
import HandS.ExcField
import HandS.ExcIs
import HandS.Codes
import HandS.HeadHook1
import HandS.HeadHook2
import HandS.HeadHook3
import HandS.HeadHook4
import PyProof.ReprLen
import PySem.Challenge.RW_mailkinds_k00_fractions
set_option Elab.async false
set_option linter.all false
/-! MkI: a small language of terms (T) for the given program's defs, and what they do over plain data (PyData): evE, evB, ex. A cell (a list or dict that may change) is named by its place in a store. -/
namespace Mk
open PySem PySem.W
open L2 (atI ixN)

/-- a cell, by its place in the store; a def, by its place in the table; a list that is locked (the script) -/
abbrev rf (k : Nat) : PyData := .dict [(.int (Int.ofNat k), .none)]
abbrev fv (f : Nat) : PyData := .dict [(.int (Int.ofNat f), .bool true)]
abbrev lk (ds : List PyData) : PyData := .dict [(.list ds, .none)]

inductive Cell where
  | lst (ds : List PyData)
  | dct (t : Bool) (ks : List PyData) (vs : List PyData)
abbrev Store := List Cell
abbrev Env := List (Option PyData)
/-- an exception of the program's own: its class, its field -/
structure Exc where
  cls : Nat
  fld : PyData

inductive R (α : Type) where
  | ok (a : α) (S : Store)
  | exc (c : Exc) (S : Store)
  | stuck
def R.bind {α β : Type} (x : R α) (f : α → Store → R β) : R β := match x with
  | .ok a S => f a S
  | .exc c S => .exc c S
  | .stuck => .stuck
inductive SR where
  | nx (ρ : Env) (S : Store)
  | rt (d : PyData) (S : Store)
  | bk (ρ : Env) (S : Store)
  | ct (ρ : Env) (S : Store)
  | exc (c : Exc) (ρ : Env) (S : Store)
  | stuck

inductive BOp where
  | add | sub | mul | fdiv | mod | pow | shl | shr | band | bor
  deriving DecidableEq
inductive COp where
  | eq | ne | lt | le | gt | ge | in_ | nin | isN | notN | isB | notB
  deriving DecidableEq
/-- types that isinstance asks for -/
inductive Ty where
  | int | bool | str | tuple | list
  deriving DecidableEq
inductive Blt where
  | len | abs | int | str | tuple | list | all | any | sorted | max1 | max2 | min1 | min2 | sum | repr | isi (t : Ty)
  | lenset | sortset | dict | range1 | range2
  | split | join | index | get2 | get1 | part
  deriving DecidableEq
/-- methods that change a cell, as statements -/
inductive Mut where
  | append | extend | remove
  deriving DecidableEq

/-- what a handler hands back: a text, the exception's field, texts joined, tests of its class, a choice, a pair -/
inductive Xe where
  | str (s : Str) | fld | cat (a b : Xe) | isE (cs : List Nat) | isV | not (a : Xe) | and (a b : Xe) | ite (k a b : Xe) | tup (a b : Xe)
/-- a handler: the classes that it takes, the slot of its name, what it hands back -/
structure Hd where
  cs : List Nat
  slot : Option Nat
  x : Xe
/-- classes of exceptions that have a field -/
def hasF (c : Nat) : Bool := c == 1 || c == 2
def isSca : PyData → Bool
  | .int _ => true
  | .str _ => true
  | .bool _ => true
  | .none => true
  | _ => false

/-- a field that an exception of class c may have -/
def fldOk (c : Nat) (d : PyData) : Bool := isSca d && (c != 2 || match d with | .int i => decide (i.natAbs ≤ 1000000) | _ => false)
inductive T where
  | nil | cons (a b : T)
  | cst (d : PyData) | var (i : Nat) | glo (i : Nat) | fnv (f : Nat)
  | bin (op : BOp) (a b : T) | cmp (op : COp) (a b : T) | chn (p q : COp) (a b c : T) | neg (a : T) | inv (a : T)
  | and (a b : T) | or (a b : T) | not (a : T) | ife (c a b : T)
  | tup (es : T) | lst (es : T) | dct (t : Bool) (kvs : T) | thaw (e : T)
  | call (f : Nat) (es : T) | callv (e : T) (es : T)
  | blt (b : Blt) (es : T) | mth (b : Blt) (o es : T) | pop (o es : T) | sub (a i : T) | slc (a lo hi : T) | rev (a : T)
  | comp (own : List Nat) (gens : T) (elt : T) | gen (pat it cond rest : T)
  | enum (e : T) | zip (a b : T) | rng (lo hi : T)
  | pass | brk | cnt | retN | ret (e : T) | expr (e : T) | mutm (m : Mut) (o e : T)
  | if_ (c a b : T) | while_ (c b : T) | for_ (pat it b : T) | asg (pat e : T) | aug (i : Nat) (op : BOp) (e : T)
  | set (o i e : T) | augset (o i : T) (op : BOp) (e : T) | par (ps es : T)
  | raise_ (c : Nat) (es : T) | try_ (b : T) (cs : List Nat) (h : T) | tryx (b : T) (hs : List Hd)
  | sets2 (o i o2 i2 e : T) | sets4 (o i o2 i2 o3 i3 o4 i4 e : T)

/-! ### values -/
def lenOk (n : Nat) : Bool := decide (n ≤ sizeLine)
def bx (b : Bool) : R Unit := if b then .ok () [] else .stuck
def guard' {α : Type} (b : Bool) (x : R α) : R α := if b then x else .stuck

def cellOf (S : Store) (k : Nat) : Option (List PyData) := match S[k]? with
  | some (.lst ds) => some ds
  | _ => none
/-- the items of a list or tuple -/
def itemsOf (S : Store) : PyData → Option (List PyData)
  | .tuple ds => some ds
  | .list ds => some ds
  | (PyData.dict [(PyData.int (Int.ofNat k), PyData.none)]) => cellOf S k
  | _ => none
/-- a cell that is a list, read as data -/
def rd (S : Store) (d : PyData) : PyData := match d with
  | (PyData.dict [(PyData.int (Int.ofNat k), PyData.none)]) => match cellOf S k with
    | some ds => .list ds
    | none => d
  | d => d
def truth (S : Store) : PyData → Option Bool
  | .none => some false
  | .bool b => some b
  | .int i => some (i != 0)
  | .str x => if lenOk x.length then some (x.length != 0) else none
  | .tuple ds => some (!ds.isEmpty)
  | .list ds => some (!ds.isEmpty)
  | (PyData.dict [(PyData.int (Int.ofNat k), PyData.none)]) => match S[k]? with
    | some (.lst ds) => some (!ds.isEmpty)
    | some (.dct false ks _) => some (!ks.isEmpty)
    | _ => none
  | _ => none
def ofO {α : Type} (o : Option α) (S : Store) : R α := match o with
  | some a => .ok a S
  | none => .stuck

/-- keys of a dict: whole numbers and texts; or tuples of these -/
def isKey : PyData → Bool
  | .int _ => true
  | .str _ => true
  | _ => false
def isTKey : PyData → Bool
  | .tuple ds => ds.all isKey
  | _ => false
/-- t: the dict is not changed any more -/
def keyOk (t : Bool) (k : PyData) : Bool := isKey k
def keyEq : PyData → PyData → Bool := PyData.eqv
def lookK (k : PyData) : List PyData → List PyData → Option PyData
  | x :: ks, v :: vs => if keyEq x k then some v else lookK k ks vs
  | _, _ => none
def putV (k v : PyData) : List PyData → List PyData → List PyData
  | x :: ks, y :: vs => (if keyEq x k then v else y) :: putV k v ks vs
  | _, _ => []
def putK (k v : PyData) (ks vs : List PyData) : List PyData × List PyData := if ks.any (keyEq · k) then (ks, putV k v ks vs) else (ks ++ [k], vs ++ [v])

/-! ### operators -/
def fitsI (i : Int) : Bool := decide (-(2 ^ 62) ≤ i) && decide (i < 2 ^ 62)
def binI (op : BOp) (i j : Int) : Option Int := match op with
  | .add => some (i + j)
  | .sub => some (i - j)
  | .mul => if i.natAbs.log2 + j.natAbs.log2 < 1000000 then some (i * j) else none
  | .fdiv => if 0 < j ∧ j.natAbs.log2 < 9000 then some (i / j) else if j ≠ 0 ∧ j.natAbs.log2 < 9000 then some (i.fdiv j) else none
  | .mod => if 0 < j then some (i % j) else if j ≠ 0 then some (i.fmod j) else none
  | .pow => if 0 ≤ j ∧ j ≤ 1000000 ∧ i.natAbs < 2 ^ 64 then some (i ^ j.toNat) else none
  | .shl => if 0 ≤ j ∧ j ≤ 1000000 ∧ i.natAbs < 2 ^ 64 then some (i * 2 ^ j.toNat) else none
  | .shr => if 0 ≤ j then some (i / 2 ^ j.toNat) else none
  | .band => some (Builtin.bitAnd i j)
  | .bor => some (Builtin.bitOr i j)
def isTupD : PyData → Bool
  | .tuple _ => true
  | _ => false
def opB (op : BOp) (S : Store) (a b : PyData) : Option PyData := match a, b with
  | .int i, .int j => (binI op i j).map .int
  | .str x, .str y => match op with
    | .add => if lenOk (x.length + y.length) then some (.str (x ++ y)) else none
    | _ => none
  | .tuple xs, .tuple ys => match op with
    | .add => if lenOk (xs.length + ys.length) then some (.tuple (xs ++ ys)) else none
    | _ => none
  | .tuple xs, .int j => match op with
    | .mul => if xs ≠ [] ∧ -1000 ≤ j ∧ j ≤ 1000 ∧ xs.length ≤ 1000 then some (.tuple (List.replicate j.toNat xs).flatten) else none
    | _ => none
  | a, .int j => match op, itemsOf S a with
    | .mul, some xs => if fitsI j ∧ lenOk (xs.length * j.toNat) then some (.list (List.replicate j.toNat xs).flatten) else none
    | _, _ => none
  | a, b => match op with
    | .add => if isTupD a || isTupD b then none else match itemsOf S a, itemsOf S b with
      | some xs, some ys => if lenOk (xs.length + ys.length) then some (.list (xs ++ ys)) else none
      | _, _ => none
    | _ => none
def ordI (op : COp) (i j : Int) : Bool := match op with
  | .lt => decide (i < j)
  | .le => decide (i ≤ j)
  | .gt => decide (j < i)
  | _ => decide (j ≤ i)
def ordD (op : COp) (a b : PyData) : Bool := match op with
  | .lt => dataLt a b
  | .le => !dataLt b a
  | .gt => dataLt b a
  | _ => !dataLt a b
def notN : PyData → Bool
  | .none => false
  | _ => true
/-- data without cells -/
def shp (d : PyData) : Bool := SeqAt.shaped d
def dctOf (S : Store) : PyData → Option (Bool × List PyData × List PyData)
  | (PyData.dict [(PyData.int (Int.ofNat k), PyData.none)]) => match S[k]? with
    | some (.dct t ks vs) => some (t, ks, vs)
    | _ => none
  | _ => none
def inD (S : Store) (a b : PyData) : Option Bool := match a, b with
  | .str x, .str y => some (!(Builtin.Str.occurrences y x 0 y.length 1).isEmpty)
  | a, b => match dctOf S b with
    | some (t, ks, vs) => if keyOk t a then some (lookK a ks vs).isSome else none
    | none => match itemsOf S b with
      | some ds => if shp a && shp (.list ds) then some (ds.any fun z => PyData.eqv z a) else none
      | none => none
/-- two texts -/
def strEq : PyData → PyData → Option Bool
  | .str x, .str y => some (decide (x = y))
  | _, _ => none
def cmpD (op : COp) (S : Store) (a b : PyData) : Option Bool := match op with
  | .isN => (match b with | .none => some (match a with | .none => true | _ => false) | _ => none)
  | .notN => (match b with | .none => some (match a with | .none => false | _ => true) | _ => none)
  | .isB => (match a, b with | .bool x, .bool y => some (decide (x = y)) | _, _ => none)
  | .notB => (match a, b with | .bool x, .bool y => some (!decide (x = y)) | _, _ => none)
  | .eq => match strEq a b with
    | some t => some t
    | none => let x := rd S a; let y := rd S b; if shp x && shp y then some (PyData.eqv x y) else none
  | .ne => match strEq a b with
    | some t => some (!t)
    | none => let x := rd S a; let y := rd S b; if shp x && shp y then some (!PyData.eqv x y) else none
  | .in_ => inD S a b
  | .nin => (inD S a b).map (!·)
  | op => match a, b with
    | .int i, .int j => some (ordI op i j)
    | a, b => if alike a b && shp a && shp b && notN a then some (ordD op a b) else none

/-! ### parts -/
def subD (S : Store) (a i : PyData) : Option PyData := match a, i with
  | .str z, .int k => if lenOk z.length then (L2.atI z.cps.toList k).map fun c => .str ⟨#[c]⟩ else none
  | (PyData.dict [(PyData.int (Int.ofNat c), PyData.none)]), i => match S[c]?, i with
    | some (.lst ds), .int k => L2.atI ds k
    | some (.dct t ks vs), i => if keyOk t i then lookK i ks vs else none
    | _, _ => none
  | .tuple ds, .int k => L2.atI ds k
  | .list ds, .int k => L2.atI ds k
  | _, _ => none
def cutD (xs : List PyData) (lo hi : Option Int) : List PyData := (xs.drop (HT.sIx xs.length 0 lo)).take (HT.sIx xs.length xs.length hi - HT.sIx xs.length 0 lo)
def slcD (S : Store) (a : PyData) (lo hi : Option Int) : Option PyData := match a with
  | .tuple ds => some (.tuple (cutD ds lo hi))
  | .str z => if lenOk z.length then some (.str (L2.cutS z lo hi)) else none
  | a => (itemsOf S a).map fun ds => .list (cutD ds lo hi)

/-! ### built-ins -/
def intsOf : List PyData → Option (List Int)
  | [] => some []
  | .int i :: r => (intsOf r).map (i :: ·)
  | _ => none
def strsOf : List PyData → Option (List Str)
  | [] => some []
  | .str i :: r => (strsOf r).map (i :: ·)
  | _ => none
/-- truth of each, data without cells -/
def fitsD : PyData → Bool
  | .str x => lenOk x.length
  | .list xs => lenOk xs.length
  | .tuple xs => lenOk xs.length
  | _ => true
def boolsOf (ds : List PyData) : Option (List Bool) := if shp (.list ds) && ds.all fitsD then some (ds.map PyData.truthy) else none
/-- the items of a list (no tuple) -/
def lstOf (S : Store) : PyData → Option (List PyData)
  | .list ds => some ds
  | (PyData.dict [(PyData.int (Int.ofNat k), PyData.none)]) => cellOf S k
  | _ => none
def isT (S : Store) (t : Ty) (d : PyData) : Option Bool := match d with
  | .none => some false
  | .bool _ => some (t == .bool || t == .int)
  | .int _ => some (t == .int)
  | .str _ => some (t == .str)
  | .tuple _ => some (t == .tuple)
  | .list _ => some (t == .list)
  | (PyData.dict [(PyData.int (Int.ofNat k), PyData.none)]) => match S[k]? with
    | some (.lst _) => some (t == .list)
    | some (.dct false _ _) => some false
    | _ => none
  | _ => none
def insD (x : PyData) : List PyData → List PyData
  | [] => [x]
  | y :: r => if dataLe false id x y then x :: y :: r else y :: insD x r
/-- by insertion (the kernel can run it); it is mergeSort's list: sortD_eq -/
def sortD (l : List PyData) : List PyData := l.foldr insD []
theorem le_total : TotalLe (dataLe false (id : PyData → PyData)) := sortLe_total _ false _
theorem insD_mem {x z : PyData} : ∀ {l : List PyData}, z ∈ insD x l → z = x ∨ z ∈ l
  | [], h => .inl (by simpa [insD] using h)
  | y :: r, h => by
    unfold insD at h
    split at h
    · rcases List.mem_cons.mp h with h | h
      · exact .inl h
      · exact .inr h
    · rcases List.mem_cons.mp h with h | h
      · exact .inr (by rw [h]; exact List.mem_cons_self)
      · rcases insD_mem h with h | h
        · exact .inl h
        · exact .inr (List.mem_cons_of_mem _ h)
theorem insD_pw {x : PyData} : ∀ {l : List PyData}, l.Pairwise (fun a b => dataLe false id a b = true) → (insD x l).Pairwise (fun a b => dataLe false id a b = true)
  | [], _ => List.pairwise_singleton _ _
  | y :: r, h => by
    obtain ⟨h1, h2⟩ := List.pairwise_cons.mp h
    unfold insD
    split
    · rename_i hxy
      refine List.pairwise_cons.mpr ⟨fun z hz => ?_, h⟩
      rcases List.mem_cons.mp hz with e | hz
      · rw [e]; exact hxy
      · exact le_total.trans _ _ _ hxy (h1 z hz)
    · rename_i hxy
      refine List.pairwise_cons.mpr ⟨fun z hz => ?_, insD_pw h2⟩
      rcases insD_mem hz with e | hz
      · rw [e]
        exact (le_total.total x y).resolve_left hxy
      · exact h1 z hz
theorem insD_fl {x c : PyData} : ∀ {l : List PyData}, (insD x l).filter (sameRank (dataLe false id) c) = (x :: l).filter (sameRank (dataLe false id) c)
  | [] => rfl
  | y :: r => by
    unfold insD
    split
    · rfl
    · rename_i hxy
      rw [List.filter_cons, insD_fl, List.filter_cons, List.filter_cons, List.filter_cons]
      by_cases hx : sameRank (dataLe false id) c x = true
      · have hy : ¬ sameRank (dataLe false id) c y = true := fun hy => by
          unfold sameRank at hx hy
          rw [Bool.and_eq_true] at hx hy
          exact hxy (le_total.trans _ _ _ hx.2 hy.1)
        rw [if_pos hx, if_neg hy, if_pos hx, if_neg hy]
      · rw [if_neg hx, if_neg hx]
theorem sortD_eq (l : List PyData) : sortD l = l.mergeSort (dataLe false id) := by
  refine sort_unique le_total ?_ fun c => ?_
  · induction l with
    | nil => exact List.Pairwise.nil
    | cons a r ih => exact insD_pw ih
  · induction l with
    | nil => rfl
    | cons a r ih =>
      show (insD a (sortD r)).filter _ = _
      rw [insD_fl, List.filter_cons, List.filter_cons, ih]
def isTup1 : PyData → Bool
  | .tuple (_ :: _) => true
  | _ => false
def isTupN : PyData → Bool
  | .tuple _ => true
  | .none => true
  | _ => false
def allAlike (ds : List PyData) : Bool := (ds.all fun a => shp a && ds.all fun b => alike a b) && (ds.all isTup1 || ds.all fun d => !isTupN d)
def nubD (ds : List PyData) : List PyData := ds.foldl (fun acc d => if acc.any (fun z => PyData.eqv z d) then acc else acc ++ [d]) []
def one (f : PyData → Option PyData) : List PyData → Option PyData
  | [d] => f d
  | _ => none
def two (f : PyData → PyData → Option PyData) : List PyData → Option PyData
  | [d, e] => f d e
  | _ => none
def lenD (S : Store) (d : PyData) : Option PyData := match d with
  | .str z => if lenOk z.length then some (.int z.length) else none
  | (PyData.dict [(PyData.int (Int.ofNat k), PyData.none)]) => match S[k]? with
    | some (.lst ds) => some (.int ds.length)
    | some (.dct false ks _) => some (.int ks.length)
    | _ => none
  | .tuple ds => some (.int ds.length)
  | .list ds => some (.int ds.length)
  | _ => none
def absD : PyData → Option PyData
  | .int i => some (.int (if i < 0 then -i else i))
  | _ => none
def int1D : PyData → Option PyData
  | .int i => some (.int i)
  | .bool b => some (.int (if b then 1 else 0))
  | .str z => if z.length ≤ 640 then (PySem.intText? z).map .int else none
  | _ => none
def strD : PyData → Option PyData
  | .int i => if i.natAbs.log2 < 1920 then some (.str (toString i)) else none
  | .str a => some (.str a)
  | _ => none
def listD (S : Store) (d : PyData) : Option PyData := match d with
  | (PyData.dict [(PyData.int (Int.ofNat k), PyData.none)]) => match S[k]? with
    | some (.lst ds) => some (.list ds)
    | some (.dct false ks _) => some (.list ks)
    | _ => none
  | .tuple ds => some (.list ds)
  | .list ds => some (.list ds)
  | _ => none
def max2D : PyData → PyData → Option PyData
  | .int i, .int j => some (.int (if j > i then j else i))
  | _, _ => none
def min2D : PyData → PyData → Option PyData
  | .int i, .int j => some (.int (if j < i then j else i))
  | _, _ => none
def range1D : PyData → Option PyData
  | .int j => if fitsI j && lenOk j.toNat then some (.list ((List.range j.toNat).map fun (i : Nat) => .int (0 + (i : Int)))) else none
  | _ => none
def range2D : PyData → PyData → Option PyData
  | .int i, .int j => if fitsI i && fitsI j && lenOk (j - i).toNat then some (.list ((List.range (j - i).toNat).map fun (k : Nat) => .int (i + (k : Int)))) else none
  | _, _ => none
def splitD : PyData → PyData → Option PyData
  | .str a, .str b => if !(b.length == 0) && lenOk (a.length + 2) then some (.list ((Txt.split a b).map .str)) else none
  | _, _ => none
def partD : PyData → PyData → Option PyData
  | .str a, .str b => if !(b.length == 0) && lenOk a.length then some (.tuple [.str (Txt.partition a b).1, .str (Txt.partition a b).2.1, .str (Txt.partition a b).2.2]) else none
  | _, _ => none
def joinD (S : Store) : PyData → PyData → Option PyData
  | .str a, d => ((itemsOf S d).bind strsOf).bind fun ys => if (ys.map (·.length)).sum + ys.length * a.length ≤ 16777216 then some (.str (Txt.join a ys)) else none
  | _, _ => none
def sortedOf (ds : List PyData) : Option PyData := if allAlike ds && lenOk ds.length then some (.list (sortD ds)) else none
/-- sorted(d): of a dict its keys, ints -/
def sortedB (S : Store) (d : PyData) : Option PyData := match dctOf S d with
  | some (t, ks, _) => if t then none else (intsOf ks).bind fun ns => if decide (ns.length < 64) then some (.list (sortD ks)) else none
  | none => (itemsOf S d).bind sortedOf
/-- tuples of ints -/
def tupsOf : List PyData → Option (List (List Int))
  | [] => some []
  | .tuple ds :: r => match intsOf ds, tupsOf r with
    | some k, some ks => some (k :: ks)
    | _, _ => none
  | _ => none
def lensetOf (ds : List PyData) : Option PyData := match intsOf ds with
  | some ns => if decide (ns.length ≤ 4000) then some (.int (nubD ds).length) else none
  | none => match tupsOf ds with
    | some ks => if decide (ks.length < 64) then some (.int (nubD ds).length) else none
    | none => none
def sortsetOf (ds : List PyData) : Option PyData := match intsOf ds with
  | some ns => if decide (ns.length ≤ 4000) && decide ((nubD ds).length < 64) then some (.list (sortD (nubD ds))) else none
  | none => match tupsOf ds with
    | some ks => if decide (ks.length < 64) && ks.all (fun k => !k.isEmpty) then some (.list (sortD (nubD ds))) else none
    | none => none
/-- the written form -/
def reprD (S : Store) (d : PyData) : Option PyData := if shp (rd S d) && (rd S d).showable && lenOk (rd S d).shown.length then some (.str (rd S d).shown) else none
def indexOf (ds : List PyData) (x : PyData) : Option PyData := if shp x && shp (.list ds) then (ds.findIdx? fun z => PyData.eqv z x).map fun (j : Nat) => .int j else none
def getD (S : Store) (d x y : PyData) : Option PyData := match d with
  | (PyData.dict [(PyData.int (Int.ofNat k), PyData.none)]) => match S[k]? with
    | some (.dct false ks vs) => if keyOk false x then some ((lookK x ks vs).getD y) else none
    | _ => none
  | _ => none
def bltD (b : Blt) (S : Store) (xs : List PyData) : Option PyData := match b with
  | .len => one (lenD S) xs
  | .abs => one absD xs
  | .int => one int1D xs
  | .str => one strD xs
  | .tuple => one (fun d => (itemsOf S d).map .tuple) xs
  | .list => one (listD S) xs
  | .all => one (fun d => ((itemsOf S d).bind boolsOf).map fun bs => .bool (bs.all id)) xs
  | .any => one (fun d => ((itemsOf S d).bind boolsOf).map fun bs => .bool (bs.any id)) xs
  | .sorted => one (sortedB S) xs
  | .lenset => one (fun d => (lstOf S d).bind lensetOf) xs
  | .sortset => one (fun d => (lstOf S d).bind sortsetOf) xs
  | .repr => one (reprD S) xs
  | .max1 => one (fun d => ((lstOf S d).bind intsOf).bind fun ns => (ns.max?).map .int) xs
  | .min1 => one (fun d => ((lstOf S d).bind intsOf).bind fun ns => (ns.min?).map .int) xs
  | .max2 => two max2D xs
  | .min2 => two min2D xs
  | .sum => one (fun d => ((lstOf S d).bind intsOf).map fun ns => .int ns.sum) xs
  | .isi t => one (fun d => (isT S t d).map .bool) xs
  | .range1 => one range1D xs
  | .range2 => two range2D xs
  | .split => two splitD xs
  | .part => two partD xs
  | .join => two (joinD S) xs
  | .index => two (fun d x => (lstOf S d).bind fun ds => indexOf ds x) xs
  | .get1 => two (fun d x => getD S d x .none) xs
  | .get2 => match xs with
    | [d, x, y] => getD S d x y
    | _ => none
  | _ => none
/-- pops -/
def popD (S : Store) (k : Nat) (i : Int) : R PyData := match cellOf S k with
  | some ds => if fitsI i then match L2.ixN ds.length i with
    | some j => match ds[j]? with
      | some y => .ok y (S.set k (.lst (ds.eraseIdx j)))
      | none => .stuck
    | none => .stuck
    else .stuck
  | none => .stuck

/-! ### what is walked -/
inductive It where
  | seq (ds : List PyData) | cell (k : Nat) | rng (lo : Int) (n : Nat) | enum (i : It) | zip (i j : It)
def It.at (S : Store) (n : Nat) : It → Option PyData
  | .seq ds => ds[n]?
  | .cell k => (cellOf S k).bind (·[n]?)
  | .rng lo m => if n < m then some (.int (lo + (n : Int))) else none
  | .enum i => (i.at S n).map fun x => .tuple [.int (n : Int), x]
  | .zip i j => (i.at S n).bind fun x => (j.at S n).map fun y => .tuple [x, y]
def It.len (S : Store) : It → Nat
  | .seq ds => ds.length
  | .cell k => ((cellOf S k).getD []).length
  | .rng _ m => m
  | .enum i => i.len S
  | .zip i j => min (i.len S) (j.len S)
def itOf (S : Store) : PyData → Option It
  | .tuple ds => some (.seq ds)
  | .list ds => some (.seq ds)
  | (PyData.dict [(PyData.list ds, PyData.none)]) => some (.seq ds)
  | .str z => some (.seq (z.cps.toList.map fun c => .str ⟨#[c]⟩))
  | (PyData.dict [(PyData.int (Int.ofNat k), PyData.none)]) => match S[k]? with
    | some (.lst _) => some (.cell k)
    | _ => none
  | _ => none
/-- a list (tuple: false) -/
def isSq (t : Bool) (S : Store) : PyData → Bool
  | .tuple _ => t
  | .list _ => !t
  | (PyData.dict [(PyData.int (Int.ofNat k), PyData.none)]) => !t && (cellOf S k).isSome
  | _ => false

/-! ### targets -/
def setV (ρ : Env) (i : Nat) (d : PyData) : Option Env := if i < ρ.length then some (ρ.set i (some d)) else none
def wipeE (ρ : Env) : List Nat → Env
  | [] => ρ
  | v :: vs => (wipeE ρ vs).set v none

/-! ### loops -/
def loopW (c : Env → Store → R Bool) (b : Env → Store → SR) : Nat → Env → Store → SR
  | 0, _, _ => .stuck
  | f + 1, ρ, S => match c ρ S with
    | .ok true S1 => (match b ρ S1 with
      | .nx ρ2 S2 => loopW c b f ρ2 S2
      | .ct ρ2 S2 => loopW c b f ρ2 S2
      | .bk ρ2 S2 => .nx ρ2 S2
      | r => r)
    | .ok false S1 => .nx ρ S1
    | .exc e S1 => .exc e ρ S1
    | .stuck => .stuck
def loopF (it : It) (p : Store → PyData → Env → Option Env) (b : Env → Store → SR) : Nat → Nat → Env → Store → SR
  | 0, n, ρ, S => match it.at S n with
    | none => .nx ρ S
    | some _ => .stuck
  | f + 1, n, ρ, S => match it.at S n with
    | none => .nx ρ S
    | some d => match p S d ρ with
      | none => .stuck
      | some ρ1 => (match b ρ1 S with
        | .nx ρ2 S2 => loopF it p b f (n + 1) ρ2 S2
        | .ct ρ2 S2 => loopF it p b f (n + 1) ρ2 S2
        | .bk ρ2 S2 => .nx ρ2 S2
        | r => r)
/-- a comprehension's clause: acc is what is made so far -/
def loopC {α : Type} (it : It) (p : Store → PyData → Env → Option Env) (c : Env → Store → R Bool) (b : Env → Store → List α → R (List α)) (ρ : Env) : Nat → Nat → Store → List α → R (List α)
  | 0, n, S, acc => match it.at S n with
    | none => .ok acc S
    | some _ => .stuck
  | f + 1, n, S, acc => match it.at S n with
    | none => .ok acc S
    | some d => match p S d ρ with
      | none => .stuck
      | some ρ1 => (c ρ1 S).bind fun t S1 => if t then (b ρ1 S1 acc).bind fun acc' S2 => loopC it p c b ρ f (n + 1) S2 acc' else loopC it p c b ρ f (n + 1) S1 acc

/-! ### what the terms do -/
abbrev EvE := Env → Store → R PyData
abbrev EvB := Env → Store → R Bool
abbrev EvEs := Env → Store → R (List PyData)
abbrev EvI := Env → Store → R It
abbrev EvP := Env → Store → R (Option Int)
abbrev EvS := Env → Store → SR
abbrev EvG := EvE → Env → Store → List PyData → R (List PyData)
abbrev Bnd := Store → PyData → Env → Option Env
abbrev Bnds := Store → List PyData → Env → Option Env
abbrev CF := Nat → List PyData → Store → R PyData

def eVar (i : Nat) : EvE := fun ρ S => match ρ[i]? with
  | some (some d) => .ok d S
  | _ => .stuck
def eCst (d : PyData) : EvE := fun _ S => .ok d S
def eBin (op : BOp) (a b : EvE) : EvE := fun ρ S => (a ρ S).bind fun x S1 => (b ρ S1).bind fun y S2 => ofO (opB op S2 x y) S2
def eCmp (op : COp) (a b : EvE) : EvE := fun ρ S => (a ρ S).bind fun x S1 => (b ρ S1).bind fun y S2 => ofO ((cmpD op S2 x y).map .bool) S2
def eChn (p q : COp) (a b c : EvE) : EvE := fun ρ S => (a ρ S).bind fun x S1 => (b ρ S1).bind fun y S2 => (ofO (cmpD p S2 x y) S2).bind fun t S3 =>
  if t then (c ρ S3).bind fun z S4 => ofO ((cmpD q S4 y z).map .bool) S4 else .ok (.bool false) S3
def negD : PyData → Option PyData
  | .int i => some (.int (-i))
  | _ => none
def invD : PyData → Option PyData
  | .int i => some (.int (Builtin.bitNot i))
  | _ => none
def eUn (f : PyData → Option PyData) (a : EvE) : EvE := fun ρ S => (a ρ S).bind fun x S1 => ofO (f x) S1
def eAnd (a b : EvE) : EvE := fun ρ S => (a ρ S).bind fun x S1 => (ofO (truth S1 x) S1).bind fun t S2 => if t then b ρ S2 else .ok x S2
def eOr (a b : EvE) : EvE := fun ρ S => (a ρ S).bind fun x S1 => (ofO (truth S1 x) S1).bind fun t S2 => if t then .ok x S2 else b ρ S2
def eNot (a : EvE) : EvE := fun ρ S => (a ρ S).bind fun x S1 => (ofO (truth S1 x) S1).bind fun t S2 => .ok (.bool (!t)) S2
def eIfe (c : EvB) (a b : EvE) : EvE := fun ρ S => (c ρ S).bind fun t S1 => if t then a ρ S1 else b ρ S1
def eTup (es : EvEs) : EvE := fun ρ S => (es ρ S).bind fun xs S1 => guard' (lenOk xs.length) (.ok (.tuple xs) S1)
def eLst (es : EvEs) : EvE := fun ρ S => (es ρ S).bind fun xs S1 => guard' (lenOk xs.length) (.ok (.list xs) S1)
/-- a new list, as a cell -/
def thawD (x : PyData) (S : Store) : R PyData := match x with
  | .list ds => .ok (rf S.length) (S ++ [.lst ds])
  | _ => .stuck
def eThaw (e : EvE) : EvE := fun ρ S => (e ρ S).bind thawD
/-- a dict is gone through: from then on nobody changes it -/
def itDct (x : PyData) (S : Store) : R It := match x with
  | (PyData.dict [(PyData.int (Int.ofNat k), PyData.none)]) => match S[k]? with
    | some (.dct _ ks vs) => .ok (.seq ks) (S.set k (.dct true ks vs))
    | _ => .stuck
  | _ => .stuck
def eItD (e : EvE) : EvI := fun ρ S => (e ρ S).bind itDct
mutual
/-- no cell within -/
def clD : PyData → Bool
  | .none => true
  | .bool _ => true
  | .int _ => true
  | .str _ => true
  | .list ds => clDs ds
  | .tuple ds => clDs ds
  | .dict _ => false
def clDs : List PyData → Bool
  | [] => true
  | d :: ds => clD d && clDs ds
end
/-- all cells within stand below n -/
def blwD (n : Nat) : PyData → Bool
  | (PyData.dict [(PyData.int (Int.ofNat k), PyData.none)]) => decide (k < n)
  | (PyData.dict [(PyData.int (Int.ofNat _), PyData.bool true)]) => true
  | d => clD d
def blwC (n : Nat) : Cell → Bool
  | .lst ds => ds.all (blwD n)
  | .dct _ ks vs => clDs ks && vs.all (blwD n)
/-- a call: one whose arguments hold no cells runs by itself -/
def callD (cf : CF) (f : Nat) (xs : List PyData) (S : Store) : R PyData :=
  if clDs xs then match cf f xs [] with
    | .ok d [] => if clD d then .ok d S else .stuck
    | .ok ((PyData.dict [(PyData.int (Int.ofNat 0), PyData.none)])) [c] => if blwC 0 c then .ok (rf S.length) (S ++ [c]) else .stuck
    | .ok _ _ => .stuck
    | .exc c _ => .exc c S
    | .stuck => .stuck
  else cf f xs S
def eCall (cf : CF) (f : Nat) (es : EvEs) : EvE := fun ρ S => (es ρ S).bind fun xs S1 => callD cf f xs S1
def fnOf : PyData → Option Nat
  | (PyData.dict [(PyData.int (Int.ofNat f), PyData.bool true)]) => some f
  | _ => none
def eCallV (cf : CF) (e : EvE) (es : EvEs) : EvE := fun ρ S => (e ρ S).bind fun x S1 => (ofO (fnOf x) S1).bind fun f S2 => (es ρ S2).bind fun xs S3 => callD cf f xs S3
def eBlt (b : Blt) (es : EvEs) : EvE := fun ρ S => (es ρ S).bind fun xs S1 => ofO (bltD b S1 xs) S1
/-- what a method may be asked of -/
def isStrD : PyData → Bool
  | .str _ => true
  | _ => false
def recv (b : Blt) (S : Store) (x : PyData) : Bool := match b with
  | .split => isStrD x
  | .join => isStrD x
  | .part => isStrD x
  | .index => (lstOf S x).isSome
  | .get1 => (dctOf S x).any (!·.1)
  | .get2 => (dctOf S x).any (!·.1)
  | _ => false
def eMth (b : Blt) (o : EvE) (es : EvEs) : EvE := fun ρ S => (o ρ S).bind fun x S1 => guard' (recv b S1 x) ((es ρ S1).bind fun xs S2 => ofO (bltD b S2 (x :: xs)) S2)
def popW (x : PyData) (xs : List PyData) (S : Store) : R PyData := match x, xs with
  | (PyData.dict [(PyData.int (Int.ofNat k), PyData.none)]), [] => popD S k (-1)
  | (PyData.dict [(PyData.int (Int.ofNat k), PyData.none)]), [.int i] => popD S k i
  | _, _ => .stuck
def isCell (S : Store) : PyData → Bool
  | (PyData.dict [(PyData.int (Int.ofNat k), PyData.none)]) => (cellOf S k).isSome
  | _ => false
def ePop (o : EvE) (es : EvEs) : EvE := fun ρ S => (o ρ S).bind fun x S1 => guard' (isCell S1 x) ((es ρ S1).bind fun xs S2 => popW x xs S2)
def eSub (a i : EvE) : EvE := fun ρ S => (a ρ S).bind fun x S1 => (i ρ S1).bind fun y S2 => ofO (subD S2 x y) S2
def eSlc (a : EvE) (lo hi : EvP) : EvE := fun ρ S => (a ρ S).bind fun x S1 => (lo ρ S1).bind fun l S2 => (hi ρ S2).bind fun h S3 => ofO (slcD S3 x l h) S3
def revD (S : Store) (x : PyData) : Option PyData := match x with
  | .tuple ds => some (.tuple ds.reverse)
  | x => (lstOf S x).map fun ds => .list ds.reverse
def eRev (a : EvE) : EvE := fun ρ S => (a ρ S).bind fun x S1 => ofO (revD S1 x) S1
/-- {}, or a display with keys that are whole numbers or texts -/
def putAll : List PyData → List PyData → List PyData × List PyData → List PyData × List PyData
  | x :: xs, y :: ys, r => putAll xs ys (putK x y r.1 r.2)
  | _, _, r => r
def mkDct (t : Bool) (k : Nat) (xs ys : List PyData) (S : Store) : R PyData := match S[k]? with
  | some (.dct t' [] []) => guard' (decide (t' = t) && xs.all (keyOk t) && decide (xs.length = ys.length) && !t && decide (xs.length ≤ 15)) (.ok (rf k) (S.set k (.dct t (putAll xs ys ([], [])).1 (putAll xs ys ([], [])).2)))
  | _ => .stuck
/-- every second item -/
def evens {α : Type} : List α → List α
  | x :: _ :: r => x :: evens r
  | _ => []
def odds {α : Type} : List α → List α
  | _ :: y :: r => y :: odds r
  | _ => []
def eDct0 (t : Bool) : EvE := fun _ S => .ok (rf S.length) (S ++ [.dct t [] []])
def eDct (t : Bool) (kvs : EvEs) : EvE := fun ρ S => (kvs ρ (S ++ [.dct t [] []])).bind fun zs S1 => mkDct t S.length (evens zs) (odds zs) S1
/-- no exception goes out of a comprehension -/
def noX {α : Type} : R α → R α
  | .exc _ _ => .stuck
  | r => r
def eComp (own : List Nat) (g : EvG) (elt : EvE) : EvE := fun ρ S => (g elt (wipeE ρ own) S []).bind fun xs S1 => .ok (.list xs) S1
def gNil : EvG := fun elt ρ S acc => (elt ρ S).bind fun x S1 => guard' (lenOk (acc.length + 1)) (.ok (acc ++ [x]) S1)
def gCons (vs : List Nat) (p : Bnd) (it : EvI) (c : EvB) (g : EvG) : EvG := fun elt ρ S acc => (it ρ S).bind fun i S1 => noX (loopC i p c (g elt) (wipeE ρ vs) (i.len S1) 0 S1 acc)
def iOf (e : EvE) : EvI := fun ρ S => (e ρ S).bind fun x S1 => ofO (itOf S1 x) S1
def iEnum (e : EvE) : EvI := fun ρ S => (e ρ S).bind fun x S1 => ofO (if isSq false S1 x || isSq true S1 x then (itOf S1 x).map .enum else none) S1
def iZip (a b : EvE) : EvI := fun ρ S => (a ρ S).bind fun x S1 => (b ρ S1).bind fun y S2 => ofO (if isSq false S2 x && isSq false S2 y || isSq true S2 x && isSq true S2 y then (itOf S2 x).bind fun i => (itOf S2 y).map fun j => .zip i j else none) S2
def rngD : PyData → PyData → Option It
  | .int i, .int j => if fitsI i && fitsI j && lenOk (j - i).toNat then some (.rng i (j - i).toNat) else none
  | _, _ => none
def iRng (a b : EvE) : EvI := fun ρ S => (a ρ S).bind fun x S1 => (b ρ S1).bind fun y S2 => ofO (rngD x y) S2
def intD : PyData → Option (Option Int)
  | .int i => some (some i)
  | _ => none
def pOf (e : EvE) : EvP := fun ρ S => (e ρ S).bind fun x S1 => ofO (intD x) S1
def pNil : EvP := fun _ S => .ok none S
def esNil : EvEs := fun _ S => .ok [] S
def esCons (a : EvE) (b : EvEs) : EvEs := fun ρ S => (a ρ S).bind fun x S1 => (b ρ S1).bind fun xs S2 => .ok (x :: xs) S2
def bOf (e : EvE) : EvB := fun ρ S => (e ρ S).bind fun x S1 => ofO (truth S1 x) S1
def bYes : EvB := fun _ S => .ok true S
def bAnd (a b : EvB) : EvB := fun ρ S => (a ρ S).bind fun t S1 => if t then b ρ S1 else .ok false S1
def bOr (a b : EvB) : EvB := fun ρ S => (a ρ S).bind fun t S1 => if t then .ok true S1 else b ρ S1
def bNot (a : EvB) : EvB := fun ρ S => (a ρ S).bind fun t S1 => .ok (!t) S1
def bIfe (c a b : EvB) : EvB := fun ρ S => (c ρ S).bind fun t S1 => if t then a ρ S1 else b ρ S1

def pVar (i : Nat) : Bnd := fun _ d ρ => setV ρ i d
def pTup (ps : Bnds) : Bnd := fun S d ρ => match itemsOf S d with
  | some ds => ps S ds ρ
  | none => none
def psNil : Bnds := fun _ ds ρ => match ds with
  | [] => some ρ
  | _ => none
def psCons (p : Bnd) (ps : Bnds) : Bnds := fun S ds ρ => match ds with
  | d :: ds => (p S d ρ).bind fun ρ' => ps S ds ρ'
  | [] => none

/-! ### statements -/
/-- an expression's end as a statement's -/
def R.toS {α : Type} (x : R α) (ρ : Env) (k : α → Store → SR) : SR := match x with
  | .ok a S => k a S
  | .exc c S => .exc c ρ S
  | .stuck => .stuck
def SR.seq (x : SR) (k : Env → Store → SR) : SR := match x with
  | .nx ρ S => k ρ S
  | r => r
def sPass : EvS := fun ρ S => .nx ρ S
def sBrk : EvS := fun ρ S => .bk ρ S
def sCnt : EvS := fun ρ S => .ct ρ S
def sRetN : EvS := fun _ S => .rt .none S
def sRet (e : EvE) : EvS := fun ρ S => (e ρ S).toS ρ fun d S1 => .rt d S1
def sExpr (e : EvE) : EvS := fun ρ S => (e ρ S).toS ρ fun _ S1 => .nx ρ S1
def ofS (o : Option Store) (ρ : Env) : SR := match o with
  | some S => .nx ρ S
  | none => .stuck
def mutD (m : Mut) (S : Store) (o x : PyData) : Option Store := match m, o with
  | .append, (PyData.dict [(PyData.int (Int.ofNat k), PyData.none)]) => (cellOf S k).bind fun ds => if ds.length < sizeLine then some (S.set k (.lst (ds ++ [x]))) else none
  | .extend, (PyData.dict [(PyData.int (Int.ofNat k), PyData.none)]) => (cellOf S k).bind fun ds => (lstOf S x).bind fun xs => if lenOk (ds.length + xs.length) then some (S.set k (.lst (ds ++ xs))) else none
  | .remove, (PyData.dict [(PyData.int (Int.ofNat k), PyData.none)]) => (cellOf S k).bind fun ds => (intsOf ds).bind fun ns => match x with
    | .int i => if i ∈ ns then some (S.set k (.lst ((ns.erase i).map .int))) else none
    | _ => none
  | _, _ => none
def sMut (m : Mut) (o e : EvE) : EvS := fun ρ S => (o ρ S).toS ρ fun x S1 => if isCell S1 x then (e ρ S1).toS ρ fun y S2 => ofS (mutD m S2 x y) ρ else .stuck
def sIf (c : EvB) (a b : EvS) : EvS := fun ρ S => (c ρ S).toS ρ fun t S1 => if t then a ρ S1 else b ρ S1
def sSeq (a b : EvS) : EvS := fun ρ S => (a ρ S).seq b
def sWhile (wf : Nat) (c : EvB) (b : EvS) : EvS := loopW c b wf
def sFor (p : Bnd) (it : EvI) (b : EvS) : EvS := fun ρ S => (it ρ S).toS ρ fun i S1 => loopF i p b (i.len S1) 0 ρ S1
def ofE (o : Option Env) (S : Store) : SR := match o with
  | some ρ => .nx ρ S
  | none => .stuck
def sAsg (p : Bnd) (e : EvE) : EvS := fun ρ S => (e ρ S).toS ρ fun x S1 => ofE (p S1 x ρ) S1
/-- a, b = e, f -/
def sPar (p : Bnds) (es : EvEs) : EvS := fun ρ S => (es ρ S).toS ρ fun xs S1 => ofE (p S1 xs ρ) S1
def sAug (i : Nat) (op : BOp) (e : EvE) : EvS := fun ρ S => (eVar i ρ S).toS ρ fun x S1 => (e ρ S1).toS ρ fun y S2 => match op, x, y with
  | .add, .int a, .int b => ofE (setV ρ i (.int (a + b))) S2
  | .bor, .int a, .int b => ofE (setV ρ i (.int (Builtin.bitOr a b))) S2
  | _, _, _ => .stuck
def setD (S : Store) (o i x : PyData) : Option Store := match o, i with
  | (PyData.dict [(PyData.int (Int.ofNat c), PyData.none)]), i => match S[c]?, i with
    | some (.lst ds), .int k => (ixN ds.length k).map fun j => S.set c (.lst (ds.set j x))
    | some (.dct t ks vs), i => if !t && keyOk t i && decide (ks.length < sizeLine) then some (S.set c (.dct t (putK i x ks vs).1 (putK i x ks vs).2)) else none
    | _, _ => none
  | _, _ => none
def sSet (o i e : EvE) : EvS := fun ρ S => (e ρ S).toS ρ fun x S1 => (o ρ S1).toS ρ fun y S2 => (i ρ S2).toS ρ fun z S3 => ofS (setD S3 y z x) ρ
/-- o[i], p[j], .. = e -/
def sGo : List (EvE × EvE) → List PyData → EvS
  | [], [], ρ, S => .nx ρ S
  | p :: l, x :: xs, ρ, S => (p.1 ρ S).toS ρ fun y S2 => (p.2 ρ S2).toS ρ fun z S3 => (match setD S3 y z x with
    | some S4 => sGo l xs ρ S4
    | none => .stuck)
  | _, _, _, _ => .stuck
def sSets (l : List (EvE × EvE)) (e : EvE) : EvS := fun ρ S => (e ρ S).toS ρ fun v S1 => match v with
  | .tuple xs => if xs.length = l.length then sGo l xs ρ S1 else .stuck
  | _ => .stuck
/-- o[i] op= e, of ints -/
def addD : BOp → PyData → PyData → Option PyData
  | .add, .int a, .int b => some (.int (a + b))
  | _, _, _ => none
def sAugSet (o i : EvE) (op : BOp) (e : EvE) : EvS := fun ρ S => (o ρ S).toS ρ fun y S1 => (i ρ S1).toS ρ fun z S2 => (ofO (subD S2 y z) S2).toS ρ fun old S3 => if isCell S2 y || (dctOf S2 y).isSome then (e ρ S3).toS ρ fun x S4 => ofS ((addD op old x).bind fun n => setD S4 y z n) ρ else .stuck
def sRaise (c : Nat) (es : EvEs) : EvS := fun ρ S => (es ρ S).toS ρ fun xs S1 => if lenOk xs.length && (!hasF c || decide (xs.length = 1) && xs.all (fldOk c)) then .exc ⟨c, xs.headD .none⟩ ρ S1 else .stuck
/-- no exception goes out of a handler -/
def noXS : SR → SR
  | .exc _ _ _ => .stuck
  | r => r
def sTry (b : EvS) (cs : List Nat) (h : EvS) : EvS := fun ρ S => match b ρ S with
  | .exc c ρ1 S1 => if cs.contains c.cls then noXS (h ρ1 S1) else .exc c ρ1 S1
  | r => r
def xev (c : Exc) : Xe → Option PyData
  | .str s => some (.str s)
  | .fld => if isSca c.fld then some c.fld else none
  | .cat a b => match xev c a, xev c b with
    | some (.str x), some (.str y) => if lenOk (x.length + y.length) then some (.str (x ++ y)) else none
    | _, _ => none
  | .isE cs => some (.bool (cs.contains c.cls))
  | .isV => some (.bool true)
  | .not a => match xev c a with
    | some (.bool b) => some (.bool (!b))
    | _ => none
  | .and a b => match xev c a with
    | some (.bool true) => xev c b
    | some (.bool false) => some (.bool false)
    | _ => none
  | .ite k a b => match xev c k with
    | some (.bool true) => xev c a
    | some (.bool false) => xev c b
    | _ => none
  | .tup a b => match xev c a, xev c b with
    | some x, some y => if isSca x && isSca y then some (.tuple [x, y]) else none
    | _, _ => none
def isRes : PyData → Bool
  | .tuple [x, y] => isSca x && isSca y
  | d => isSca d
/-- the handlers, one after the other -/
def hdR : List Hd → Exc → Env → Store → SR
  | [], c, ρ, S => .exc c ρ S
  | h :: r, c, ρ, S => if h.cs.contains c.cls then (match xev c h.x with
    | some d => if isRes d && h.slot.all (fun i => decide (i < ρ.length)) then .rt d S else .stuck
    | none => .stuck) else hdR r c ρ S
def sTryX (b : EvS) (hs : List Hd) : EvS := fun ρ S => match b ρ S with
  | .exc c ρ1 S1 => hdR hs c ρ1 S1
  | r => r

/-- the slots of a target -/
def slotsT : T → List Nat
  | .var i => [i]
  | .tup es => slotsT es
  | .cons a b => slotsT a ++ slotsT b
  | _ => []
/-- all that a term may be -/
structure Den where
  e : EvE
  b : EvB
  es : EvEs
  it : EvI
  p : EvP
  g : EvG
  pt : Bnd
  pts : Bnds
  s : EvS
def noE : EvE := fun _ _ => .stuck
def noDen : Den := ⟨noE, fun _ _ => .stuck, fun _ _ => .stuck, fun _ _ => .stuck, fun _ _ => .stuck, fun _ _ _ _ => .stuck, fun _ _ _ => none, fun _ _ _ => none, fun _ _ => .stuck⟩
def deE (e : EvE) : Den := { noDen with e := e, b := bOf e, it := iOf e, p := pOf e }
section
variable (cf : CF) (wf : Nat) (G : List PyData)
def den : T → Den
  | .nil => { noDen with es := esNil, pts := psNil, g := gNil, b := bYes, p := pNil, s := sPass }
  | .cons a b => { noDen with es := esCons (den a).e (den b).es, pts := psCons (den a).pt (den b).pts, s := sSeq (den a).s (den b).s }
  | .cst d => deE (eCst d)
  | .glo i => deE (eCst (G.getD i .none))
  | .fnv f => deE (eCst (fv f))
  | .var i => { deE (eVar i) with pt := pVar i }
  | .bin op a b => deE (eBin op (den a).e (den b).e)
  | .cmp op a b => deE (eCmp op (den a).e (den b).e)
  | .chn p q a b c => deE (eChn p q (den a).e (den b).e (den c).e)
  | .neg a => deE (eUn negD (den a).e)
  | .inv a => deE (eUn invD (den a).e)
  | .and a b => { deE (eAnd (den a).e (den b).e) with b := bAnd (den a).b (den b).b }
  | .or a b => { deE (eOr (den a).e (den b).e) with b := bOr (den a).b (den b).b }
  | .not a => { deE (eNot (den a).e) with b := bNot (den a).b }
  | .ife c a b => { deE (eIfe (den c).b (den a).e (den b).e) with b := bIfe (den c).b (den a).b (den b).b }
  | .tup es => { deE (eTup (den es).es) with pt := pTup (den es).pts }
  | .lst es => deE (eLst (den es).es)
  | .thaw e => { deE (eThaw (den e).e) with it := eItD (den e).e }
  | .dct t .nil => deE (eDct0 t)
  | .dct t kvs => deE (eDct t (den kvs).es)
  | .call f es => deE (eCall cf f (den es).es)
  | .callv e es => deE (eCallV cf (den e).e (den es).es)
  | .mth b o es => deE (eMth b (den o).e (den es).es)
  | .pop o es => deE (ePop (den o).e (den es).es)
  | .blt b es => deE (eBlt b (den es).es)
  | .sub a i => deE (eSub (den a).e (den i).e)
  | .slc a lo hi => deE (eSlc (den a).e (den lo).p (den hi).p)
  | .rev a => deE (eRev (den a).e)
  | .comp own gens elt => deE (eComp own (den gens).g (den elt).e)
  | .gen p it c rest => { noDen with g := gCons (slotsT p) (den p).pt (den it).it (den c).b (den rest).g }
  | .enum e => { noDen with it := iEnum (den e).e }
  | .zip a b => { noDen with it := iZip (den a).e (den b).e }
  | .rng a b => { noDen with it := iRng (den a).e (den b).e }
  | .pass => { noDen with s := sPass }
  | .brk => { noDen with s := sBrk }
  | .cnt => { noDen with s := sCnt }
  | .retN => { noDen with s := sRetN }
  | .ret e => { noDen with s := sRet (den e).e }
  | .expr e => { noDen with s := sExpr (den e).e }
  | .mutm m o e => { noDen with s := sMut m (den o).e (den e).e }
  | .if_ c a b => { noDen with s := sIf (den c).b (den a).s (den b).s }
  | .while_ c b => { noDen with s := sWhile wf (den c).b (den b).s }
  | .for_ p it b => { noDen with s := sFor (den p).pt (den it).it (den b).s }
  | .asg p e => { noDen with s := sAsg (den p).pt (den e).e }
  | .par p es => { noDen with s := sPar (den p).pts (den es).es }
  | .aug i op e => { noDen with s := sAug i op (den e).e }
  | .set o i e => { noDen with s := sSet (den o).e (den i).e (den e).e }
  | .augset o i op e => { noDen with s := sAugSet (den o).e (den i).e op (den e).e }
  | .raise_ c es => { noDen with s := sRaise c (den es).es }
  | .try_ b cs h => { noDen with s := sTry (den b).s cs (den h).s }
  | .tryx b hs => { noDen with s := sTryX (den b).s hs }
  | .sets2 o i o2 i2 e => { noDen with s := sSets [((den o).e, (den i).e), ((den o2).e, (den i2).e)] (den e).e }
  | .sets4 o i o2 i2 o3 i3 o4 i4 e => { noDen with s := sSets [((den o).e, (den i).e), ((den o2).e, (den i2).e), ((den o3).e, (den i3).e), ((den o4).e, (den i4).e)] (den e).e }
end

/-! ### defs -/
structure Fn where
  np : Nat
  ns : Nat
  body : T
  /-- hands back a new cell as a cell -/
  keep : Bool
/-- what is handed back: the def's own cells frozen -/
def out1 (S : Store) (n : Nat) (d : PyData) : Option PyData := match d with
  | (PyData.dict [(PyData.int (Int.ofNat k), PyData.none)]) => if k < n then some (rf k) else match S[k]? with
    | some (.lst ds) => if clDs ds then some (.list ds) else none
    | _ => none
  | (PyData.dict [(PyData.int (Int.ofNat f), PyData.bool true)]) => some (fv f)
  | d => if clD d then some d else none
def outs (S : Store) (n : Nat) : List PyData → Option (List PyData)
  | [] => some []
  | d :: ds => (out1 S n d).bind fun x => (outs S n ds).map (x :: ·)
def outD (S : Store) (n : Nat) (d : PyData) : Option PyData := match d with
  | .tuple ds => if clDs ds then some (.tuple ds) else (outs S n ds).map .tuple
  | d => out1 S n d
def isRf : PyData → Bool
  | (PyData.dict [(PyData.int (Int.ofNat _), PyData.none)]) => true
  | _ => false
def leave (keep : Bool) (n : Nat) (d : PyData) (S : Store) : R PyData :=
  if decide (n ≤ S.length) && (S.take n).all (blwC n) then
    if keep && isRf d then (match d with
      | (PyData.dict [(PyData.int (Int.ofNat k), PyData.none)]) => (match S[k]? with
        | some c => if blwC n c && decide (n ≤ k) then .ok (rf n) (S.take n ++ [c]) else .stuck
        | none => .stuck)
      | _ => .stuck)
    else ofO (outD S n d) (S.take n)
  else .stuck
def startE (np ns : Nat) (xs : List PyData) : Env := xs.map some ++ List.replicate (ns - xs.length) none
def runF (cf : CF) (wf : Nat) (G : List PyData) (f : Fn) (xs : List PyData) (S : Store) : R PyData :=
  if xs.length = f.np then
    match (den cf wf G f.body).s (startE f.np f.ns xs) S with
    | .rt d S' => leave f.keep S.length d S'
    | .nx _ S' => leave f.keep S.length .none S'
    | .exc c _ S' => if decide (S.length ≤ S'.length) && (S'.take S.length).all (blwC S.length) && clD c.fld then .exc c (S'.take S.length) else .stuck
    | _ => .stuck
  else .stuck
/-- a call, n calls deep at most -/
def callN (Φ : Nat → Option Fn) (wf : Nat) (G : List PyData) : Nat → CF
  | 0 => fun _ _ _ => .stuck
  | n + 1 => fun f xs S => match Φ f with
    | some fn => runF (callN Φ wf G n) wf G fn xs S
    | none => .stuck
end Mk

set_option Elab.async false
set_option linter.all false
set_option maxRecDepth 100000
/-! MkR: how data stand in the abstract heap, and readings by what a term does. -/
namespace Mk
open PySem PySem.Spec PyProof.Rows L2
abbrev St := L2.St
/-- the defs' addresses; lists that are being made by a comprehension -/
structure Fa where
  adr : Nat → Option Addr
  hid : Addr → Prop
def isL : HO → Bool
  | .lst _ => true
  | _ => false
/-- a dict that nobody changes any more -/
def isZ : HO → Bool
  | .frz _ (.dK _) => true
  | _ => false
/-- what an object stays -/
def Sm (o o' : HO) : Prop := isL o' = isL o ∧ (isZ o = true → o' = o)
theorem Sm.rf {o : HO} : Sm o o := ⟨rfl, fun _ => rfl⟩
theorem Sm.trans {o o1 o2 : HO} (k2 : Sm o1 o2) (k : Sm o o1) : Sm o o2 := ⟨k2.1.trans k.1, fun h => by have := k.2 h; subst this; exact k2.2 h⟩

/-- a list that nobody changes -/
def LkAt (K : PySem.W.Frag) (fa : Fa) (μ : List Addr) (H : Hp) (a : Addr) (xs : List V) : Prop := (Rd H a (.lst xs) ∧ a ∉ μ ∧ ¬ fa.hid a) ∨ ∀ H', SqL K H' a xs
theorem LkAt.seq {K : PySem.W.Frag} {fa : Fa} {μ : List Addr} {H : Hp} {a : Addr} {xs : List V} (h : LkAt K fa μ H a xs) : SqL K H a xs := by
  rcases h with h | h
  · exact .inl h.1
  · exact h H
mutual
/-- data, as a value over the heap: μ the addresses of the cells -/
inductive RelD (K : PySem.W.Frag) (fa : Fa) (μ : List Addr) (H : Hp) : PyData → V → Prop
  | non : RelD K fa μ H .none .non
  | bl (b : Bool) : RelD K fa μ H (.bool b) (.bl b)
  | int (i : Int) : RelD K fa μ H (.int i) (.int i)
  | str (x : Str) : RelD K fa μ H (.str x) (.str x)
  | tup {a : Addr} {ds : List PyData} {xs : List V} : SqT K H a xs → RelDs K fa μ H ds xs → RelD K fa μ H (.tuple ds) (.ref a)
  | lst {a : Addr} {ds : List PyData} {xs : List V} : H a = some (.lst xs) → a ∉ μ → ¬ fa.hid a → RelDs K fa μ H ds xs → RelD K fa μ H (.list ds) (.ref a)
  | cell {k : Nat} {a : Addr} : μ[k]? = some a → RelD K fa μ H (rf k) (.ref a)
  | fn {f : Nat} {a : Addr} : fa.adr f = some a → RelD K fa μ H (fv f) (.ref a)
  | lk {a : Addr} {ds : List PyData} {xs : List V} : LkAt K fa μ H a xs → RelDs K fa μ H ds xs → RelD K fa μ H (lk ds) (.ref a)
inductive RelDs (K : PySem.W.Frag) (fa : Fa) (μ : List Addr) (H : Hp) : List PyData → List V → Prop
  | nil : RelDs K fa μ H [] []
  | cons {d : PyData} {v : V} {ds : List PyData} {vs : List V} : RelD K fa μ H d v → RelDs K fa μ H ds vs → RelDs K fa μ H (d :: ds) (v :: vs)
end

/-- a key of a dict as data -/
def keyD : Key → PyData
  | .inl i => .int i
  | .inr x => .str x
/-- what stands at a cell's address -/
def COk (K : PySem.W.Frag) (fa : Fa) (μ : List Addr) (H : Hp) (a : Addr) : Cell → Prop
  | .lst ds => ∃ xs, H a = some (.lst xs) ∧ RelDs K fa μ H ds xs
  | .dct false ks vs => ∃ kvs : List (Key × V), H a = some (.dK kvs) ∧ ks = kvs.map (fun p => keyD p.1) ∧ RelDs K fa μ H vs (kvs.map (·.2))
  | .dct true ks vs => ∃ (o : Obj) (kvs : List (Key × V)), H a = some (.frz o (.dK kvs)) ∧ ks = kvs.map (fun p => keyD p.1) ∧ RelDs K fa μ H vs (kvs.map (·.2))
structure Wf (K : PySem.W.Frag) (fa : Fa) (μ : List Addr) (S : Store) (H : Hp) : Prop where
  len : μ.length = S.length
  nd : μ.Nodup
  cells : ∀ (k : Nat) (a : Addr) (c : Cell), μ[k]? = some a → S[k]? = some c → COk K fa μ H a c
  hd : ∀ b, fa.hid b → b ∉ μ ∧ ∃ o, H b = some o
/-- the heap has grown; what is no cell stands -/
structure Ext (fa : Fa) (μ : List Addr) (H : Hp) (μ' : List Addr) (H' : Hp) : Prop where
  pre : ∃ ν, μ' = μ ++ ν ∧ ∀ b ∈ ν, H b = none
  keep : ∀ b o, H b = some o → b ∉ μ → H' b = some o
  there : ∀ b o, H b = some o → ∃ o', H' b = some o' ∧ Sm o o'
structure SW (K : PySem.W.Frag) (fa : Fa) (μ : List Addr) (ρ : Env) (S : Store) (σ : St) (H : Hp) : Prop where
  wf : Wf K fa μ S H
  len : σ.length = ρ.length
  env : ∀ (i : Nat) (d : PyData), ρ[i]? = some (some d) → ∃ v, σ[i]? = some (some v) ∧ RelD K fa μ H d v

section
variable {K : PySem.W.Frag} {fa : Fa} {μ μ' μ1 μ2 : List Addr} {H H' H1 H2 : Hp} {S S' S1 : Store} {ρ : Env} {σ : St} {d : PyData} {v : V} {ds es : List PyData} {vs ws : List V}

theorem Ext.refl : Ext fa μ H μ H := ⟨⟨[], by simp, fun _ h => nomatch h⟩, fun _ _ h _ => h, fun _ o h => ⟨o, h, .rf⟩⟩
theorem Ext.fresh (e : Ext fa μ H μ1 H1) {b : Addr} (h : H1 b = none) : H b = none := by
  cases q : H b with
  | none => rfl
  | some o =>
    obtain ⟨o', z, _⟩ := e.there b o q
    rw [h] at z; cases z
theorem Ext.trans (a : Ext fa μ H μ1 H1) (b : Ext fa μ1 H1 μ2 H2) : Ext fa μ H μ2 H2 := by
  obtain ⟨ν, e1, f1⟩ := a.pre
  obtain ⟨ν', e2, f2⟩ := b.pre
  refine ⟨⟨ν ++ ν', by rw [e2, e1, List.append_assoc], fun x hx => ?_⟩, fun x o q hn => ?_, fun x o q => ?_⟩
  · rcases List.mem_append.mp hx with h | h
    · exact f1 x h
    · exact a.fresh (f2 x h)
  · refine b.keep x o (a.keep x o q hn) fun hm => ?_
    rw [e1] at hm
    rcases List.mem_append.mp hm with h | h
    · exact hn h
    · have z := f1 x h
      rw [q] at z; cases z
  · obtain ⟨o', z, k⟩ := a.there x o q
    obtain ⟨o2, z2, k2⟩ := b.there x o' z
    exact ⟨o2, z2, k2.trans k⟩
/-- a new tracked object that is no cell -/
theorem Ext.new {p : Addr} {o : HO} (hp : H p = none) : Ext fa μ H μ (upd H p o) :=
  ⟨⟨[], by simp, fun _ h => nomatch h⟩, fun b u q _ => by rw [upd_ne (ne_of_none q hp)]; exact q, fun b u q => ⟨u, by rw [upd_ne (ne_of_none q hp)]; exact q, .rf⟩⟩
/-- a new cell -/
theorem Ext.newC {p : Addr} {o : HO} (hp : H p = none) : Ext fa μ H (μ ++ [p]) (upd H p o) :=
  ⟨⟨[p], rfl, fun b hb => by rw [List.mem_singleton] at hb; rw [hb]; exact hp⟩, fun b u q _ => by rw [upd_ne (ne_of_none q hp)]; exact q, fun b u q => ⟨u, by rw [upd_ne (ne_of_none q hp)]; exact q, .rf⟩⟩
/-- a cell is written -/
theorem Ext.set {p : Addr} {o : HO} (hp : p ∈ μ) (ho : ∀ u, H p = some u → Sm u o) : Ext fa μ H μ (upd H p o) :=
  ⟨⟨[], by simp, fun _ h => nomatch h⟩, fun b u q hn => by rw [upd_ne (fun z : b = p => hn (by rw [z]; exact hp))]; exact q, fun b u q => by
    by_cases hb : b = p
    · subst hb; exact ⟨o, upd_same, ho u q⟩
    · exact ⟨u, by rw [upd_ne hb]; exact q, .rf⟩⟩

theorem Wf.at (w : Wf K fa μ S H) {a : Addr} (h : a ∈ μ) : ∃ (k : Nat) (c : Cell), μ[k]? = some a ∧ S[k]? = some c ∧ COk K fa μ H a c := by
  obtain ⟨k, hk, e⟩ := List.mem_iff_getElem.mp h
  have h2 : k < S.length := by rw [← w.len]; exact hk
  exact ⟨k, S[k], by rw [List.getElem?_eq_getElem hk, e], List.getElem?_eq_getElem h2, w.cells k a _ (by rw [List.getElem?_eq_getElem hk, e]) (List.getElem?_eq_getElem h2)⟩
/-- what a cell's address may hold -/
def isC : HO → Bool
  | .lst _ => true
  | .dK _ => true
  | .dT _ => true
  | .frz _ (.dK _) => true
  | _ => false
theorem COk.some {c : Cell} {a : Addr} (h : COk K fa μ H a c) : ∃ o, H a = some o ∧ isC o = true := by
  cases c with
  | lst ds => obtain ⟨xs, e, _⟩ := h; exact ⟨_, e, rfl⟩
  | dct t ks vs =>
    cases t with
    | false => obtain ⟨kvs, e, _⟩ := h; exact ⟨_, e, rfl⟩
    | true => obtain ⟨o, kvs, e, _⟩ := h; exact ⟨_, e, rfl⟩
theorem Wf.notIn (w : Wf K fa μ S H) {a : Addr} {o : HO} (h : H a = Option.some o) (n : isC o = false) : a ∉ μ := fun hm => by
  obtain ⟨k, c, _, _, ok⟩ := w.at hm
  obtain ⟨u, e, z⟩ := ok.some
  rw [h] at e; cases e
  rw [n] at z; cases z
theorem Wf.notNone (w : Wf K fa μ S H) {a : Addr} (h : H a = Option.none) : a ∉ μ := fun hm => by
  obtain ⟨k, c, _, _, ok⟩ := w.at hm
  obtain ⟨u, e, z⟩ := ok.some
  rw [h] at e; cases e

theorem Wf.notHid (w : Wf K fa μ S H) {a : Addr} (h : H a = Option.none) : ¬ fa.hid a := fun hm => by
  obtain ⟨_, o, e⟩ := w.hd a hm
  rw [h] at e; cases e

theorem SqT.ext0 {a : Addr} {xs : List V} (w : ∀ {a : Addr} {o : HO}, H a = some o → isC o = false → a ∉ μ) (e : Ext fa μ H μ' H') (h : SqT K H a xs) : SqT K H' a xs := by
  rcases h with (h | ⟨o, h⟩) | h
  · exact .inl (.inl (e.keep _ _ h (w h rfl)))
  · exact .inl (.inr ⟨o, e.keep _ _ h (w h rfl)⟩)
  · exact .inr h
theorem Ext.get (e : Ext fa μ H μ' H') {k : Nat} {a : Addr} (h : μ[k]? = some a) : μ'[k]? = some a := by
  obtain ⟨ν, r, _⟩ := e.pre
  rw [r, List.getElem?_append_left (List.getElem?_eq_some_iff.mp h).1]; exact h
theorem Ext.out (e : Ext fa μ H μ' H') {a : Addr} {o : HO} (h : H a = some o) (n : a ∉ μ) : a ∉ μ' := fun hm => by
  obtain ⟨ν, r, f⟩ := e.pre
  rw [r] at hm
  rcases List.mem_append.mp hm with z | z
  · exact n z
  · have q := f a z
    rw [h] at q; cases q
theorem Rd.ext0 {a : Addr} {u : HO} (n : a ∉ μ) (e : Ext fa μ H μ' H') (h : Rd H a u) : Rd H' a u ∧ a ∉ μ' := by
  rcases h with h | ⟨o, h⟩
  · exact ⟨.inl (e.keep _ _ h n), e.out h n⟩
  · exact ⟨.inr ⟨o, e.keep _ _ h n⟩, e.out h n⟩
theorem LkAt.ext0 {a : Addr} {xs : List V} (e : Ext fa μ H μ' H') (h : LkAt K fa μ H a xs) : LkAt K fa μ' H' a xs := by
  rcases h with ⟨h, n, hh⟩ | h
  · exact .inl ⟨(Rd.ext0 n e h).1, (Rd.ext0 n e h).2, hh⟩
  · exact .inr h
mutual
theorem RelD.ext0 (w : ∀ {a : Addr} {o : HO}, H a = some o → isC o = false → a ∉ μ) (e : Ext fa μ H μ' H') : ∀ {d : PyData} {v : V}, RelD K fa μ H d v → RelD K fa μ' H' d v
  | _, _, .non => .non
  | _, _, .bl b => .bl b
  | _, _, .int i => .int i
  | _, _, .str x => .str x
  | _, _, .tup h r => .tup (SqT.ext0 w e h) (RelDs.ext0 w e r)
  | _, _, .lst h n hh r => .lst (e.keep _ _ h n) (e.out h n) hh (RelDs.ext0 w e r)
  | _, _, .cell h => .cell (e.get h)
  | _, _, .fn h => .fn h
  | _, _, .lk h r => .lk (LkAt.ext0 e h) (RelDs.ext0 w e r)
theorem RelDs.ext0 (w : ∀ {a : Addr} {o : HO}, H a = some o → isC o = false → a ∉ μ) (e : Ext fa μ H μ' H') : ∀ {ds : List PyData} {vs : List V}, RelDs K fa μ H ds vs → RelDs K fa μ' H' ds vs
  | _, _, .nil => .nil
  | _, _, .cons h t => .cons (RelD.ext0 w e h) (RelDs.ext0 w e t)
end
theorem RelD.ext (w : Wf K fa μ S H) (e : Ext fa μ H μ' H') {d : PyData} {v : V} (h : RelD K fa μ H d v) : RelD K fa μ' H' d v := RelD.ext0 (fun h n => w.notIn h n) e h
theorem RelDs.ext (w : Wf K fa μ S H) (e : Ext fa μ H μ' H') {ds : List PyData} {vs : List V} (h : RelDs K fa μ H ds vs) : RelDs K fa μ' H' ds vs := RelDs.ext0 (fun h n => w.notIn h n) e h
theorem SqT.ext {a : Addr} {xs : List V} (w : Wf K fa μ S H) (e : Ext fa μ H μ' H') (h : SqT K H a xs) : SqT K H' a xs := SqT.ext0 (fun h n => w.notIn h n) e h
theorem RelDs.length : ∀ {ds : List PyData} {vs : List V}, RelDs K fa μ H ds vs → vs.length = ds.length
  | _, _, .nil => rfl
  | _, _, .cons _ t => by rw [List.length_cons, List.length_cons, RelDs.length t]
theorem RelDs.append : ∀ {ds es : List PyData} {vs ws : List V}, RelDs K fa μ H ds vs → RelDs K fa μ H es ws → RelDs K fa μ H (ds ++ es) (vs ++ ws)
  | _, _, _, _, .nil, s => s
  | _, _, _, _, .cons h t, s => .cons h (RelDs.append t s)
theorem RelDs.get : ∀ {ds : List PyData} {vs : List V} {i : Nat} {d : PyData}, RelDs K fa μ H ds vs → ds[i]? = some d → ∃ v, vs[i]? = some v ∧ RelD K fa μ H d v
  | _, _, _, _, .nil, e => by simp at e
  | _, _, 0, _, .cons h _, e => by simp at e; subst e; exact ⟨_, rfl, h⟩
  | _, _, i + 1, d, .cons _ t, e => by
    obtain ⟨v, h1, h2⟩ := RelDs.get (i := i) (d := d) t (by simpa using e)
    exact ⟨v, by simpa using h1, h2⟩
theorem RelDs.getV : ∀ {ds : List PyData} {vs : List V} {i : Nat} {v : V}, RelDs K fa μ H ds vs → vs[i]? = some v → ∃ d, ds[i]? = some d ∧ RelD K fa μ H d v
  | _, _, _, _, .nil, e => by simp at e
  | _, _, 0, _, .cons h _, e => by simp at e; subst e; exact ⟨_, rfl, h⟩
  | _, _, i + 1, d, .cons _ t, e => by
    obtain ⟨v, h1, h2⟩ := RelDs.getV (i := i) (v := d) t (by simpa using e)
    exact ⟨v, by simpa using h1, h2⟩
theorem RelDs.take : ∀ {ds : List PyData} {vs : List V} (n : Nat), RelDs K fa μ H ds vs → RelDs K fa μ H (ds.take n) (vs.take n)
  | _, _, 0, _ => .nil
  | _, _, _ + 1, .nil => .nil
  | _, _, n + 1, .cons h t => .cons h (RelDs.take n t)
theorem RelDs.drop : ∀ {ds : List PyData} {vs : List V} (n : Nat), RelDs K fa μ H ds vs → RelDs K fa μ H (ds.drop n) (vs.drop n)
  | _, _, 0, r => r
  | _, _, _ + 1, .nil => .nil
  | _, _, n + 1, .cons _ t => RelDs.drop n t
theorem RelDs.set {d : PyData} {v : V} (r : RelD K fa μ H d v) : ∀ {ds : List PyData} {vs : List V} (i : Nat), RelDs K fa μ H ds vs → RelDs K fa μ H (ds.set i d) (vs.set i v)
  | _, _, _, .nil => .nil
  | _, _, 0, .cons _ t => .cons r t
  | _, _, i + 1, .cons q t => .cons q (RelDs.set r i t)
theorem RelDs.eraseIdx : ∀ {ds : List PyData} {vs : List V} (i : Nat), RelDs K fa μ H ds vs → RelDs K fa μ H (ds.eraseIdx i) (vs.eraseIdx i)
  | _, _, _, .nil => .nil
  | _, _, 0, .cons _ t => t
  | _, _, i + 1, .cons q t => .cons q (RelDs.eraseIdx i t)
theorem RelDs.rev {ds : List PyData} {vs : List V} (h : RelDs K fa μ H ds vs) : RelDs K fa μ H ds.reverse vs.reverse := by
  induction h using RelDs.rec (motive_1 := fun _ _ _ => True) with
  | nil => exact .nil
  | cons h t _ ih => rw [List.reverse_cons, List.reverse_cons]; exact ih.append (.cons h .nil)
  | _ => trivial
theorem RelDs.rep {ds : List PyData} {vs : List V} (h : RelDs K fa μ H ds vs) : ∀ k : Nat, RelDs K fa μ H (List.replicate k ds).flatten (List.replicate k vs).flatten
  | 0 => .nil
  | k + 1 => by rw [List.replicate_succ, List.replicate_succ, List.flatten_cons, List.flatten_cons]; exact h.append (RelDs.rep h k)
theorem RelDs.ints : ∀ {ds : List PyData} {vs : List V} {ns : List Int}, RelDs K fa μ H ds vs → intsOf ds = some ns → vs = ns.map V.int
  | _, _, _, .nil, e => by cases e; rfl
  | _, _, ns, .cons h t, e => by
    cases h with
    | int i =>
      simp only [intsOf, Option.map_eq_some_iff] at e
      obtain ⟨r, e1, rfl⟩ := e
      rw [RelDs.ints t e1]; rfl
    | _ => simp [intsOf] at e
theorem COk.ext (w : Wf K fa μ S H) (e : Ext fa μ H μ' H') {a : Addr} {c : Cell} (h : H' a = H a) (o : COk K fa μ H a c) : COk K fa μ' H' a c := by
  cases c with
  | lst ds => obtain ⟨xs, z, r⟩ := o; exact ⟨xs, h.trans z, r.ext w e⟩
  | dct t ks vs =>
    cases t with
    | false => obtain ⟨kvs, z, k, r⟩ := o; exact ⟨kvs, h.trans z, k, r.ext w e⟩
    | true => obtain ⟨ob, kvs, z, k, r⟩ := o; exact ⟨ob, kvs, h.trans z, k, r.ext w e⟩
/-- a new object that is no cell -/
theorem Wf.new (w : Wf K fa μ S H) {p : Addr} {o : HO} (hp : H p = none) : Wf K fa μ S (upd H p o) :=
  ⟨w.len, w.nd, fun k a c h1 h2 => (w.cells k a c h1 h2).ext w (Ext.new hp) (upd_ne fun z => w.notNone hp (z ▸ List.mem_of_getElem? h1)), fun b hb => ⟨(w.hd b hb).1, ((Ext.new (fa := fa) (μ := μ) hp).there b _ (w.hd b hb).2.choose_spec).imp fun _ z => z.1⟩⟩
/-- a new cell -/
theorem Wf.newC (w : Wf K fa μ S H) {p : Addr} {o : HO} {c : Cell} (hp : H p = none) (hc : COk K fa (μ ++ [p]) (upd H p o) p c) : Wf K fa (μ ++ [p]) (S ++ [c]) (upd H p o) := by
  refine ⟨by rw [List.length_append, List.length_append, w.len]; rfl, ?_, fun k a c' h1 h2 => ?_, fun b hb => ⟨fun hm => ?_, ((Ext.newC (fa := fa) (μ := μ) hp).there b _ (w.hd b hb).2.choose_spec).imp fun _ z => z.1⟩⟩
  · rw [List.nodup_append]
    refine ⟨w.nd, by simp, fun x hx y hy z => ?_⟩
    rw [List.mem_singleton] at hy
    subst hy; subst z
    exact w.notNone hp hx
  · by_cases hk : k < μ.length
    · rw [List.getElem?_append_left hk] at h1
      rw [List.getElem?_append_left (by rw [← w.len]; exact hk)] at h2
      exact (w.cells k a c' h1 h2).ext w (Ext.newC hp) (upd_ne fun z => w.notNone hp (z ▸ List.mem_of_getElem? h1))
    · have e : k = μ.length := by
        have := (List.getElem?_eq_some_iff.mp h1).1
        rw [List.length_append] at this
        simp at this
        omega
      subst e
      rw [List.getElem?_append_right (Nat.le_refl _), Nat.sub_self] at h1
      rw [List.getElem?_append_right (by rw [w.len]; exact Nat.le_refl _), w.len, Nat.sub_self] at h2
      simp at h1 h2
      subst h1; subst h2
      exact hc
  · rcases List.mem_append.mp hm with z | z
    · exact (w.hd b hb).1 z
    · rw [List.mem_singleton] at z
      subst z
      obtain ⟨_, o, e⟩ := w.hd b hb
      rw [hp] at e; cases e
theorem nodup_ixA {N : List Addr} (hN : N.Nodup) {i j : Nat} {x : Addr} (a : N[i]? = some x) (b : N[j]? = some x) : i = j := by
  obtain ⟨h1, e1⟩ := List.getElem?_eq_some_iff.mp a
  obtain ⟨h2, e2⟩ := List.getElem?_eq_some_iff.mp b
  exact (List.getElem_inj hN).mp (e1.trans e2.symm)
/-- a cell is written -/
theorem Wf.setC (w : Wf K fa μ S H) {k : Nat} {p : Addr} {o : HO} {c : Cell} (hp : μ[k]? = some p) (ho : ∀ u, H p = some u → Sm u o) (hc : COk K fa μ (upd H p o) p c) : Wf K fa μ (S.set k c) (upd H p o) := by
  refine ⟨by rw [List.length_set]; exact w.len, w.nd, fun j a c' h1 h2 => ?_, fun b hb => ⟨(w.hd b hb).1, ((Ext.set (fa := fa) (List.mem_of_getElem? hp) ho).there b _ (w.hd b hb).2.choose_spec).imp fun _ z => z.1⟩⟩
  by_cases hj : j = k
  · subst hj
    rw [hp] at h1; cases h1
    have hlt : j < S.length := by rw [← w.len]; exact (List.getElem?_eq_some_iff.mp hp).1
    rw [List.getElem?_set_self hlt] at h2
    cases h2
    exact hc
  · rw [List.getElem?_set_ne (Ne.symm hj)] at h2
    refine (w.cells j a c' h1 h2).ext w (Ext.set (List.mem_of_getElem? hp) ho) (upd_ne fun z => hj ?_)
    rw [z] at h1
    exact nodup_ixA w.nd h1 hp
theorem SW.ext (s : SW K fa μ ρ S σ H) (e : Ext fa μ H μ' H') (w : Wf K fa μ' S' H') : SW K fa μ' ρ S' σ H' :=
  ⟨w, s.len, fun i d h => let ⟨v, h1, h2⟩ := s.env i d h; ⟨v, h1, h2.ext s.wf e⟩⟩
theorem SW.setV {i : Nat} {ρ' : Env} (s : SW K fa μ ρ S σ H) (r : RelD K fa μ H d v) (h : setV ρ i d = some ρ') : SW K fa μ ρ' S (σ.set i (some v)) H := by
  unfold Mk.setV at h
  split at h
  · rename_i hi
    cases h
    refine ⟨s.wf, by rw [List.length_set, List.length_set, s.len], fun j e q => ?_⟩
    by_cases hj : j = i
    · subst hj
      rw [List.getElem?_set_self hi] at q
      cases q
      exact ⟨v, by rw [List.getElem?_set_self (by rw [s.len]; exact hi)], r⟩
    · rw [List.getElem?_set_ne (Ne.symm hj)] at q
      obtain ⟨v', q1, q2⟩ := s.env j e q
      exact ⟨v', by rw [List.getElem?_set_ne (Ne.symm hj)]; exact q1, q2⟩
  · cases h
/-- what a list or tuple is made of -/
theorem items_ok (w : Wf K fa μ S H) (r : RelD K fa μ H d v) (h : itemsOf S d = some ds) : ∃ a xs, v = .ref a ∧ RelDs K fa μ H ds xs ∧ ((H a = some (.lst xs) ∧ ∀ es, d ≠ .tuple es) ∨ (SqT K H a xs ∧ d = .tuple ds)) := by
  cases r with
  | tup h1 r1 => cases h; exact ⟨_, _, rfl, r1, .inr ⟨h1, rfl⟩⟩
  | lst h1 n hh r1 => cases h; exact ⟨_, _, rfl, r1, .inl ⟨h1, fun _ z => nomatch z⟩⟩
  | cell h1 =>
    rename_i k a
    have h' : cellOf S k = some ds := h
    unfold cellOf at h'
    split at h'
    · rename_i ds' hs
      cases h'
      obtain ⟨xs, e, r1⟩ := w.cells k a _ h1 hs
      exact ⟨a, xs, rfl, r1, .inl ⟨e, fun _ z => nomatch z⟩⟩
    · cases h'
  | _ => cases h
end

/-! ### what is wanted behind a term -/
/-- the classes of the program's exceptions: ca; fields by name -/
def fieldN : Nat → Option Str
  | 1 => some "reason"
  | 2 => some "at"
  | _ => none
theorem hasF_no {c : Nat} (h : fieldN c = none) : hasF c = false := by
  match c with
  | 0 => rfl
  | 1 => cases h
  | 2 => cases h
  | n + 3 => simp [hasF]
theorem hasF_yes {c : Nat} {f : Str} (h : fieldN c = some f) : hasF c = true := by
  match c with
  | 0 => cases h
  | 1 => rfl
  | 2 => rfl
  | n + 3 => cases h
def scaV : PyData → V
  | .int i => .int i
  | .str x => .str x
  | .bool b => .bl b
  | _ => .non
def ExR (ca : Nat → Option Addr) (c : Exc) (cls : Value) (dx : Option Addr) (H : Hp) : Prop :=
  (∃ a, ca c.cls = some a ∧ cls = .ref a) ∧ match fieldN c.cls with
    | none => dx = none
    | some n => ∃ d, dx = some d ∧ H d = some (.xd [(n, scaV c.fld)])
/-- the constants of a proof -/
structure Cf where
  K : PySem.W.Frag
  fa : Fa
  ca : Nat → Option Addr
def PostG {α β : Type} (C : Cf) (Rl : List Addr → Hp → α → β → Prop) (W : WX) (σ : St) (μ : List Addr) (H : Hp) (Q : β → Hp → Prop) : R α → Prop
  | .ok a S' => ∀ v H' μ', Ext C.fa μ H μ' H' → Wf C.K C.fa μ' S' H' → Rl μ' H' a v → Q v H'
  | .exc c S' => ∀ cls dx H' μ', Ext C.fa μ H μ' H' → Wf C.K C.fa μ' S' H' → ExR C.ca c cls dx H' → W cls dx σ H'
  | .stuck => False
abbrev PostE (C : Cf) := PostG C (RelD C.K C.fa)
abbrev PostEs (C : Cf) := PostG C (RelDs C.K C.fa)
abbrev PostB (C : Cf) := PostG (α := Bool) (β := Bool) C (fun _ _ a b => b = a)
abbrev PostP (C : Cf) := PostG (α := Option Int) (β := Option Int) C (fun _ _ a b => b = a)
section
variable {α β γ δ : Type} {C : Cf} {Ra : List Addr → Hp → α → γ → Prop} {Rb : List Addr → Hp → β → δ → Prop} {W : WX} {σ : St} {μ μ1 : List Addr} {H H1 : Hp} {Q : δ → Hp → Prop} {Q1 : γ → Hp → Prop} {S : Store}
theorem PostG.ext {r : R β} (e : Ext C.fa μ H μ1 H1) (h : PostG C Rb W σ μ H Q r) : PostG C Rb W σ μ1 H1 Q r := by
  cases r with
  | ok a S' => exact fun v H' μ' e' w r => h v H' μ' (e.trans e') w r
  | exc c S' => exact fun cls dx H' μ' e' w x => h cls dx H' μ' (e.trans e') w x
  | stuck => exact h
theorem PostG.bind {x : R α} {f : α → Store → R β} (h : PostG C Rb W σ μ H Q (x.bind f))
    (k : ∀ a S1 v H1 μ1, Ext C.fa μ H μ1 H1 → Wf C.K C.fa μ1 S1 H1 → Ra μ1 H1 a v → PostG C Rb W σ μ1 H1 Q (f a S1) → Q1 v H1) : PostG C Ra W σ μ H Q1 x := by
  cases x with
  | ok a S1 => exact fun v H1 μ1 e w r => k a S1 v H1 μ1 e w r (PostG.ext e h)
  | exc c S1 => exact h
  | stuck => exact h
/-- a pure step -/
theorem PostG.ofO {o : Option β} (h : PostG C Rb W σ μ H Q (Mk.ofO o S)) : ∃ b, o = some b ∧ PostG C Rb W σ μ H Q (.ok b S) := by
  cases o with
  | some b => exact ⟨b, rfl, h⟩
  | none => exact h.elim
theorem PostG.bindO {o : Option α} {f : α → Store → R β} (h : PostG C Rb W σ μ H Q ((Mk.ofO o S).bind f)) : ∃ a, o = some a ∧ PostG C Rb W σ μ H Q (f a S) := by
  cases o with
  | some a => exact ⟨a, rfl, h⟩
  | none => exact h.elim
theorem PostG.guard {b : Bool} {r : R β} (h : PostG C Rb W σ μ H Q (guard' b r)) : b = true ∧ PostG C Rb W σ μ H Q r := by
  cases b with
  | true => exact ⟨rfl, h⟩
  | false => exact h.elim
/-- nothing has changed -/
theorem PostG.here {b : β} {v : δ} (h : PostG C Rb W σ μ H Q (.ok b S)) (w : Wf C.K C.fa μ S H) (r : Rb μ H b v) : Q v H := h v H μ .refl w r
end
/-- readings -/
def rdE (C : Cf) (W : WX) (ev : EvE) : TE := fun σ H Q => ∃ μ ρ S, SW C.K C.fa μ ρ S σ H ∧ PostE C W σ μ H Q (ev ρ S)
def rdEs (C : Cf) (W : WX) (ev : EvEs) : TA := fun σ H Q => ∃ μ ρ S, SW C.K C.fa μ ρ S σ H ∧ PostEs C W σ μ H Q (ev ρ S)
def rdB (C : Cf) (W : WX) (ev : EvB) : TT := fun σ H Q => ∃ μ ρ S, SW C.K C.fa μ ρ S σ H ∧ PostB C W σ μ H Q (ev ρ S)
def rdP (C : Cf) (W : WX) (ev : EvP) : TO := fun σ H Q => ∃ μ ρ S, SW C.K C.fa μ ρ S σ H ∧ PostP C W σ μ H Q (ev ρ S)
/-- .. where a list that comes is new -/
def PostF (C : Cf) (W : WX) (σ : St) (μ : List Addr) (H : Hp) (Q : VK) : R PyData → Prop
  | .ok (.list ds) S' => ∀ vs p H2 μ2, Ext C.fa μ H μ2 H2 → Wf C.K C.fa μ2 S' H2 → RelDs C.K C.fa μ2 H2 ds vs → H2 p = none → Q (.ref p) (upd H2 p (.lst vs))
  | r => PostE C W σ μ H Q r
def rdF (C : Cf) (W : WX) (ev : EvE) : TE := fun σ H Q => ∃ μ ρ S, SW C.K C.fa μ ρ S σ H ∧ PostF C W σ μ H Q (ev ρ S)
theorem PE.mono {X : Cx} {e : Expr} {t t' : TE} (h : PE X e t) (i : ∀ σ H Q, t' σ H Q → t σ H Q) : PE X e t' := ⟨fun pins s σ H Q I hw => h.run pins s σ H Q I (i _ _ _ hw)⟩
theorem PT.mono {X : Cx} {e : Expr} {t t' : TT} (h : PT X e t) (i : ∀ σ H Q, t' σ H Q → t σ H Q) : PT X e t' := ⟨fun pins s σ H Q I hw => h.run pins s σ H Q I (i _ _ _ hw)⟩
theorem PA.mono {X : Cx} {e : List Expr} {t t' : TA} (h : PA X e t) (i : ∀ σ H Q, t' σ H Q → t σ H Q) : PA X e t' := ⟨fun pos pins s σ H Q I hw => h.run pos pins s σ H Q I (i _ _ _ hw)⟩
theorem PS.mono {X : Cx} {e : Stmt} {t t' : TS} (h : PS X e t) (i : ∀ D σ H, t' D σ H → t D σ H) : PS X e t' := ⟨fun pins s σ H D I hw => h.run pins s σ H D I (i _ _ _ hw)⟩
section
variable {C : Cf} {W : WX} {σ : St} {μ : List Addr} {H : Hp} {Q : VK} {r : R PyData}
theorem PostF.of (h : PostE C W σ μ H Q r) : PostF C W σ μ H Q r := by
  cases r with
  | ok d S =>
    cases d with
    | list ds => exact fun vs p H2 μ2 e w r hp => h _ _ μ2 (e.trans (Ext.new hp)) (w.new hp) (.lst upd_same (w.notNone hp) (w.notHid hp) (r.ext w (Ext.new hp)))
    | _ => exact h
  | exc c S => exact h
  | stuck => exact h
theorem PostF.thaw (h : PostE C W σ μ H Q (r.bind thawD)) : PostF C W σ μ H Q r := by
  cases r with
  | ok d S =>
    cases d with
    | list ds =>
      intro vs p H2 μ2 e w r hp
      have h' : PostE C W σ μ H Q (.ok (rf S.length) (S ++ [.lst ds])) := h
      have e2 : Ext C.fa μ2 H2 (μ2 ++ [p]) (upd H2 p (.lst vs)) := Ext.newC hp
      refine h' (.ref p) _ (μ2 ++ [p]) (e.trans e2) (w.newC hp ⟨vs, upd_same, r.ext w e2⟩) (.cell ?_)
      rw [List.getElem?_append_right (by rw [w.len]; exact Nat.le_refl _), w.len, Nat.sub_self]; rfl
    | _ => exact absurd h (fun z => z)
  | exc c S => exact h
  | stuck => exact h
theorem PE.ofF {X : Cx} {e : Expr} {ev : EvE} (h : PE X e (rdF C W ev)) : PE X e (rdE C W ev) := PE.mono h fun _ _ _ ⟨μ, ρ, S, hw, hp⟩ => ⟨μ, ρ, S, hw, .of hp⟩
theorem PE.thaw {X : Cx} {e : Expr} {ev : EvE} (h : PE X e (rdF C W ev)) : PE X e (rdE C W (eThaw ev)) := PE.mono h fun _ _ _ ⟨μ, ρ, S, hw, hp⟩ => ⟨μ, ρ, S, hw, .thaw hp⟩
end
end Mk

set_option Elab.async false
set_option linter.all false
set_option maxRecDepth 100000
set_option maxHeartbeats 4000000
/-! MkT: tuple * int, of one and of none. -/
namespace Mk
open PySem PySem.Spec PyProof.Rows L2
theorem tuple_mul1 (l : Addr) (items : Array Value) (n : Nat) (dd : Option Addr) (sl : Array (Option Value)) (u : Tok) :
    Meets (Builtin.«tuple.__mul__» ⟨[.ref l, .int 1 u], []⟩) (fun _ R s => s.heap.get? l = some { cls := .type "tuple", dict := dd, data := .seq items n, slots := sl } ∧
      R (.ok (.ret (Value.ref l))) s) :=
  .of_wp fun prog w A R s h => by
    obtain ⟨hp, g, d, tk, os⟩ := s
    obtain ⟨hl, h⟩ := h
    have f1 := AutoSeq1.idx_int
    wp_walk using wpAny_loadPart' hl
    exact ⟨_, rfl, h⟩
theorem tuple_mul0 (l : Addr) (items : Array Value) (n : Nat) (dd : Option Addr) (sl : Array (Option Value)) (x : Int) (u : Tok) (c0 : (decide (x < -(2 ^ 63)) || decide (x ≥ 2 ^ 63)) = false) (c1 : (items.isEmpty || x == 1) = false) (c2 : (decide (x ≤ 0) || items.isEmpty) = true) :
    Meets (Builtin.«tuple.__mul__» ⟨[.ref l, .int x u], []⟩) (fun _ R s => s.heap.get? l = some { cls := .type "tuple", dict := dd, data := .seq items n, slots := sl } ∧
      R (.ok (.ret (Value.ref s.heap.objs.size))) { s with heap := s.heap.push { cls := Value.type "tuple", data := Data.seq #[] }, toks := s.toks }) :=
  .of_wp fun prog w A R s h => by
    obtain ⟨hp, g, d, tk, os⟩ := s
    obtain ⟨hl, h⟩ := h
    have f1 := AutoSeq1.idx_int
    wp_walk using wpAny_loadPart' hl
    repeat (first
      | (refine wpAny_ite_false (decide_eq_false (by rw [c0]; exact Bool.false_ne_true)) ?_; wp_walk using wpAny_loadPart' hl)
      | (refine wpAny_ite_false (decide_eq_false (by rw [c1]; exact Bool.false_ne_true)) ?_; wp_walk using wpAny_loadPart' hl)
      | (refine wpAny_ite_true (decide_eq_true c2) ?_; wp_walk using wpAny_loadPart' hl))
    exact ⟨_, rfl, h⟩
def rRepT1 (K : PySem.W.Frag) : R2 := fun x y H Q => ∃ l xs, x = .ref l ∧ y = .int 1 ∧ SqT K H l xs ∧ xs ≠ [] ∧ Q (.ref l) H
def rRepT0 (K : PySem.W.Frag) : R2 := fun x y H Q => ∃ l k xs, x = .ref l ∧ y = .int k ∧ SqT K H l xs ∧ xs ≠ [] ∧ k ≤ 0 ∧ -1000 ≤ k ∧ ∀ p, H p = none → Q (.ref p) (upd H p (.tup []))
section
variable {X : Cx}
theorem op_repT1 : OpR X (binaryOp .Mult) (rRepT1 X.K) := by
  intro pins s σ H x y v u Q I rx ry h
  obtain ⟨l, xs, rfl, rfl, hT, hne, q⟩ := h
  cases rx
  obtain ⟨t, rfl⟩ := ry
  obtain ⟨its, r, ⟨⟨cls, dd, data, sl⟩, ho, hc, n, hd⟩, hs⟩ := I.tuple hT
  simp only at hc hd
  subst hc hd
  refine wpAny_binaryOp_repeat_ref (T := "tuple") (U := "int") (by decide) ⟨_, ho, rfl⟩ (fun s' => typeIs_int s' 1 t) noFill_tuple_mul F.fills_int_mul F.slot_int_rmul repeat_tuple F.slot_int_index.lookup
    (call_meets F.slot_int_rmul (typeIs_int s 1 t) F.entry_int_rmul (F.args_int_rmul_2 _ _) (int_rmul_tuple 1 t l its.toArray n dd sl)
      ⟨ho, rfl, ⟨_, ho, rfl⟩, call_meets F.slot_tuple_mul ⟨_, ho, rfl⟩ F.entry_tuple_mul (F.args_tuple_mul_2 _ _) (tuple_mul1 l its.toArray n dd sl t) ⟨ho, ?_⟩⟩)
  exact ⟨.ref l, _, I, rfl, q⟩
theorem op_repT0 : OpR X (binaryOp .Mult) (rRepT0 X.K) := by
  intro pins s σ H x y v u Q I rx ry h
  obtain ⟨l, k, xs, rfl, rfl, hT, hne, h1, h2, q⟩ := h
  cases rx
  obtain ⟨t, rfl⟩ := ry
  obtain ⟨its, r, ⟨⟨cls, dd, data, sl⟩, ho, hc, n, hd⟩, hs⟩ := I.tuple hT
  simp only at hc hd
  subst hc hd
  have hle : its.length = xs.length := r.length.symm
  have hn : its ≠ [] := fun e => hne (by
    rw [e] at hle
    exact List.eq_nil_of_length_eq_zero hle.symm)
  have hi : its.toArray.isEmpty = false := by
    cases its with
    | nil => exact absurd rfl hn
    | cons a b => rfl
  have c0 : (decide (k < -(2 ^ 63)) || decide (k ≥ 2 ^ 63)) = false := by
    rw [decide_eq_false (by omega), decide_eq_false (by omega)] <;> rfl
  have c1 : (its.toArray.isEmpty || k == 1) = false := by
    rw [hi, Bool.false_or]
    exact beq_eq_false_iff_ne.mpr (by omega)
  have c2 : (decide (k ≤ 0) || its.toArray.isEmpty) = true := by
    rw [decide_eq_true h1]; rfl
  refine wpAny_binaryOp_repeat_ref (T := "tuple") (U := "int") (by decide) ⟨_, ho, rfl⟩ (fun s' => typeIs_int s' k t) noFill_tuple_mul F.fills_int_mul F.slot_int_rmul repeat_tuple F.slot_int_index.lookup
    (call_meets F.slot_int_rmul (typeIs_int s k t) F.entry_int_rmul (F.args_int_rmul_2 _ _) (int_rmul_tuple k t l its.toArray n dd sl)
      ⟨ho, rfl, ⟨_, ho, rfl⟩, call_meets F.slot_tuple_mul ⟨_, ho, rfl⟩ F.entry_tuple_mul (F.args_tuple_mul_2 _ _) (tuple_mul0 l its.toArray n dd sl k t c0 c1 c2) ⟨ho, ?_⟩⟩)
  refine ⟨.ref s.heap.objs.size, _, I.laid (t' := s.toks) (o := .tup []) (fun b ob q => Heap.get?_push_of_some _ q) (Nat.le_refl _) ?_, rfl, q _ (I.hok.fresh (Nat.le_refl _))⟩
  exact ⟨by rw [sizeLine_eq]; decide, [], .nil, IsTup.new _ _⟩
/-- xs.remove(k), of whole numbers, k among them -/
def rRemI : V → List V → Hp → VK → Prop := fun x xs H Q => ∃ (l : Addr) (ns : List Int) (k : Int), x = .ref l ∧ xs = [.int k] ∧ H l = some (.lst (ns.map V.int)) ∧ k ∈ ns ∧ Q .non (upd H l (.lst ((ns.erase k).map V.int)))
theorem mt_remI : MtM X "list.remove" rRemI := by
  intro pins s σ H x xs v us Q I rx rxs h
  obtain ⟨l, ns, k, rfl, rfl, hH, hk, q⟩ := h
  cases rx
  cases rxs with
  | cons ry rt =>
    cases rt
    obtain ⟨t, rfl⟩ := ry
    obtain ⟨z, its, n, r, hl, e0⟩ := I.lstM hH
    have hi : IntsAre its ns := intsAre_of r
    have heq := eq_isInt k t hi
    have hnl : ns.length = its.length := by rw [← hl, List.length_map]
    have hsz : its.toArray.size ≤ sizeLine := by rw [List.size_toArray, ← hl]; exact z
    obtain ⟨j, j1, j2, j3, j4⟩ := first_at hk
    have hj : j < its.length := by omega
    refine call_meets PySem.F.slot_list_remove ⟨_, e0, rfl⟩ PySem.F.entry_list_remove (PySem.F.args_list_remove_2 _ _)
      (MeetsSeq.list_remove l its.toArray n (.int k t) (isInt k) (fun y hy => heq y (by simpa using hy)) j (by rw [List.size_toArray]; exact hj) ?hit (fun i hi2 hlt => ?hno) hsz) ⟨e0, ?_⟩
    case hit =>
      show isInt k its[j] = true
      exact (L2.isInt_at k hi j hj).mpr j2
    case hno =>
      have hi3 : i < its.length := by rw [List.size_toArray] at hi2; exact hi2
      show isInt k its[i] = false
      rw [Bool.eq_false_iff]
      intro w
      exact j3 i hlt ((L2.isInt_at k hi i hi3).mp w)
    have r2 : Vals ((ns.erase k).map V.int) (its.eraseIdx j) := by
      have w := r.eraseIdx j
      rw [map_eraseIdx', j4] at w
      exact w
    refine ⟨.non, _, I.lset (its' := its.eraseIdx j) hH e0 ?_ r2 ?_, rfl, q⟩
    · show its.toArray.eraseIdxIfInBounds j = (its.eraseIdx j).toArray
      rw [List.eraseIdxIfInBounds_toArray]
    · rw [List.length_map]
      have := List.length_erase_le (a := k) (l := ns)
      rw [List.length_map] at z
      omega
end
end Mk

set_option Elab.async false
set_option linter.all false
set_option maxRecDepth 100000
set_option maxHeartbeats 4000000
/-! MkT2: xs[::-1] of a list or a tuple. -/
namespace Mk
open PySem PySem.Spec PyProof.Rows L2 HT
section
variable {prog : Program} {w : World} {A : Around} {E : Value → Shared → Prop} {s : Shared}
theorem adjust_rev (n : Nat) : Builtin.Slice.sliceAdjust none none (-1) (n : Int) = ((n : Int) - 1, -1) := by
  unfold Builtin.Slice.sliceAdjust
  simp
theorem places_rev (n : Nat) : Builtin.Slice.slicePlaces ((n : Int) - 1) (-1) (-1) = n := by
  unfold Builtin.Slice.slicePlaces
  rw [if_neg (by decide)]
  by_cases h : (n : Int) - 1 > -1
  · rw [if_pos h]
    have : (((n : Int) - 1 - -1 - 1) / (- -1) + 1) = n := by
      rw [show (- -1 : Int) = 1 from rfl, Int.ediv_one]; omega
    rw [this]; omega
  · rw [if_neg h]; omega
theorem fm_take {α : Type} (f : Nat → Option α) (ys : List α) : ∀ n, n ≤ ys.length → (∀ m, m < n → f m = ys[m]?) → (List.range n).filterMap f = ys.take n
  | 0, _, _ => by simp
  | n + 1, h, e => by
    rw [List.range_succ, List.filterMap_append, fm_take f ys n (by omega) (fun m hm => e m (by omega)), List.take_succ_eq_append_getElem (show n < ys.length by omega)]
    congr 1
    have : f n = some ys[n] := by rw [e n (by omega), List.getElem?_eq_getElem (by omega)]
    simp [this]
theorem pick_rev (xs : Array Value) : ((List.range xs.size).filterMap fun (m : Nat) => xs[((xs.size : Int) - 1 + (m : Int) * -1).toNat]?).toArray = xs.toList.reverse.toArray := by
  congr 1
  rw [fm_take _ xs.toList.reverse xs.size (by simp) (fun m hm => by
    have : ((xs.size : Int) - 1 + (m : Int) * -1).toNat = xs.size - 1 - m := by omega
    rw [this, List.getElem?_reverse (by simpa using hm)]
    simp)]
  rw [List.take_of_length_le (by simp)]
theorem sliceApplied_rev {sl : Addr} {vl vu vs : Value} {n : Nat} {Q : Int × Int × Nat → Shared → Prop} (hs : s.heap.IsSliceOf sl vl vu vs) (pl : IsPart vl none) (pu : IsPart vu none) (ps : IsPart vs (some (-1)))
    (h : Q ((n : Int) - 1, -1, n) s) : wpAny (model prog w) A (Builtin.Slice.sliceApplied (.ref sl) (pure (n : Int))) Q E s := by
  obtain ⟨os, hos, hcs, hds⟩ := id hs
  unfold Builtin.Slice.sliceApplied Builtin.Slice.sliceFields
  refine wpAny_bind (wpAny_bind (wpAny_field hos hds (x := vl) rfl (wpAny_bind (wpAny_field hos hds (x := vu) rfl (wpAny_bind (wpAny_field hos hds (x := vs) rfl (wpAny_pure ?_)))))))
  refine wpAny_bind (slicePart_ ps ?_)
  show wpAny _ _ (if ((-1 : Int) == 0) = true then _ else _) _ _ s
  rw [if_neg (by decide)]
  refine wpAny_bind (slicePart_ pl (wpAny_bind (slicePart_ pu (wpAny_bind (wpAny_pure ?_)))))
  show wpAny _ _ (match Builtin.Slice.sliceAdjust none none (-1) (n : Int) with | (lo, hi) => pure (lo, (-1 : Int), Builtin.Slice.slicePlaces lo hi (-1))) _ _ s
  rw [adjust_rev n]
  show wpAny _ _ (pure ((n : Int) - 1, (-1 : Int), Builtin.Slice.slicePlaces ((n : Int) - 1) (-1) (-1))) _ _ s
  rw [places_rev]
  exact wpAny_pure h
theorem getItem_tuple_rev {t sl : Addr} {items : Array Value} {vl vu vs : Value} {Q : Value → Shared → Prop} (ht : IsTup s.heap t items) (hs : s.heap.IsSliceOf sl vl vu vs) (pl : IsPart vl none) (pu : IsPart vu none) (ps : IsPart vs (some (-1)))
    (h : Q (.ref s.heap.objs.size) { s with heap := s.heap.push { cls := .type "tuple", data := .seq items.toList.reverse.toArray } })
    (hsz : items.size ≤ sizeLine) : wpAny (model prog w) A (getItem (.ref t) (.ref sl)) Q E s := by
  have htake : sizeOk (.seq items.toList.reverse.toArray) := by
    show items.toList.reverse.toArray.size ≤ sizeLine
    rw [List.size_toArray, List.length_reverse, Array.length_toList]
    omega
  obtain ⟨os, hos, hcs, hds⟩ := id hs
  have hTs : s.TypeIs (.ref sl) "slice" := ⟨os, hos, hcs⟩
  unfold getItem
  try with_reducible refine wpAny_holding ?_
  first | refine wpAny_bind (wpAny_pure ?_) | skip
  refine wpAny_bind (wpAny_sequenceKey ht.typeIs (by decide) ?_)
  refine wpAny_bind (wpAny_callSpecial?_slot (name := Str.ofString "__getitem__") ht.typeIs PyProof.Rows.slot_tuple_getitem
    (wpAny_call_entry PyProof.Rows.slot_tuple_getitem ht.typeIs entry_tuple_getitem ?_ (args_tuple_getitem _ _)))
  show wpAny _ _ (Builtin.Tuple.tupleItemsOf (.ref t) >>= _) _ _ s
  refine wpAny_bind (tupleItemsOf_ ht ?_)
  refine wpAny_bind (wpAny_typeOf hTs ?_)
  rw [if_pos (by decide)]
  refine wpAny_bind (sliceApplied_rev hs pl pu ps ?_)
  have hno : ¬ ((((items.size : Int) - 1) == 0 && (-1 : Int) == 1 && items.size == items.size) = true) := by
    intro q
    rw [Bool.and_eq_true, Bool.and_eq_true] at q
    exact absurd q.1.2 (by decide)
  show wpAny _ _ (if (((items.size : Int) - 1) == 0 && (-1 : Int) == 1 && items.size == items.size) = true then _ else _) _ _ s
  rw [if_neg hno, pick_rev]
  first
    | exact wpAny_bind (m := Builtin.Tuple.tupleExact _) (wpAny_newObj_type (wpAny_pure ⟨_, rfl, wpAny_pure h⟩) htake)
    | exact wpAny_bind (m := Builtin.Tuple.tupleExact _) (wpAny_newObj_type (wpAny_bind (wpAny_pure (wpAny_pure ⟨_, rfl, wpAny_pure h⟩))) htake)
    | exact wpAny_bind (wpAny_bind (m := Builtin.Tuple.tupleExact _) (wpAny_newObj_type (wpAny_pure (wpAny_pure ⟨_, rfl, wpAny_pure h⟩)) htake))
    | exact wpAny_bind (wpAny_bind (m := Builtin.Tuple.tupleExact _) (wpAny_newObj_type (wpAny_pure ⟨_, rfl, wpAny_pure h⟩) htake))
end
def tRevA (K : PySem.W.Frag) (te : TE) : TE := fun σ H Q => te σ H fun x H1 => ∃ a xs, x = .ref a ∧ ((SqL K H1 a xs ∧ ∀ p, H1 p = none → Q (.ref p) (upd H1 p (.lst xs.reverse))) ∨ (SqT K H1 a xs ∧ ∀ p, H1 p = none → Q (.ref p) (upd H1 p (.tup xs.reverse))))
section
variable {X : Cx}
theorem pe_revA {e : Expr} {te : TE} {k : Nat} {p1 p2 p3 pos : Pos} (he : PE X e te) : PE X (.Subscript e (.Slice none none (some (.UnaryOp .USub (.Constant (.int 1) k p1) p2)) p3) pos) (tRevA X.K te) := by
  refine ⟨fun pins s σ H Q I h => ?_⟩
  refine Subscript_ (thn (he.run pins s σ H _ I h) fun v s1 ⟨x, H1, I1, r1, q1⟩ => ?_)
  obtain ⟨a, xs, ex, hxq⟩ := q1
  subst ex
  cases r1
  have hst : PO X (some (.UnaryOp .USub (.Constant (.int 1) k p1) p2)) (tPart (tUn (rU fun i => .int (-i)) (tC (.int 1)))) := po_some (pe_un un_neg pe_int)
  refine wpAny_Slice (thn (po_none.run pins s1 σ H1 (fun o H2 => o = none ∧ H2 = H1) I1 ⟨rfl, rfl⟩) fun vl s2 ⟨l, H2, I2, pl, el, e2⟩ => ?_)
  subst el e2
  refine thn (po_none.run pins s2 σ H2 (fun o H3 => o = none ∧ H3 = H2) I2 ⟨rfl, rfl⟩) fun vu s3 ⟨u, H3, I3, pu, eu, e3⟩ => ?_
  subst eu e3
  refine thn (hst.run pins s3 σ H3 (fun o H4 => o = some (-1) ∧ H4 = H3) I3 ⟨1, rfl, -1, rfl, rfl, rfl⟩) fun vs s4 ⟨o, H4, I4, ps, eo, e4⟩ => ?_
  subst eo e4
  have I5 : Inv X pins σ H4 { s4 with heap := s4.heap.push { cls := .type "slice", data := .fields #[vl, vu, vs] } } := I4.kept (t' := s4.toks) fun b ob q => Heap.get?_push_of_some _ q
  show wpAny (model X.prog X.w) X.A (subscriptTail e (.Slice none none (some (.UnaryOp .USub (.Constant (.int 1) k p1) p2)) p3) (.ref a) (.ref s4.heap.objs.size)) (EP X pins σ Q) X.xe { s4 with heap := s4.heap.push { cls := .type "slice", data := .fields #[vl, vu, vs] } }
  rcases hxq with ⟨hx, q⟩ | ⟨hx, q⟩
  · obtain ⟨its, r, ht, hz⟩ := I5.list hx
    have hlen := r.length
    refine tail_any (ops := [.ref a, .ref s4.heap.objs.size]) ht.isList.typeIs (PySem.slot_list_getitem.lookup) ?_ (by with_unfolding_all rfl)
    refine wpAny_getItem_list_slice ht.isList (Heap.IsSliceOf.new _ vl vu vs) pl pu ps (by decide) ?_ (by rw [List.size_toArray]; omega)
    rw [PySem.W.krv_pick]
    refine ⟨.ref _, _, I5.laid (t' := s4.toks) (o := .lst xs.reverse) (fun b ob q => Heap.get?_push_of_some _ q) (Nat.le_refl _) ?_, rfl, q _ (I5.hok.fresh (Nat.le_refl _))⟩
    exact ⟨by rw [List.length_reverse]; exact hz, _, 0, r.reverse, Heap.get?_push_size _ rfl⟩
  · obtain ⟨its, r, ht, hz⟩ := I5.tuple hx
    have hlen := r.length
    refine tail_any (ops := [.ref a, .ref s4.heap.objs.size]) ht.typeIs (PyProof.Rows.slot_tuple_getitem.lookup) ?_ (by with_unfolding_all rfl)
    refine getItem_tuple_rev ht (Heap.IsSliceOf.new _ vl vu vs) pl pu ps ?_ (by rw [List.size_toArray]; omega)
    refine ⟨.ref _, _, I5.laid (t' := s4.toks) (o := .tup xs.reverse) (fun b ob q => Heap.get?_push_of_some _ q) (Nat.le_refl _) ?_, rfl, q _ (I5.hok.fresh (Nat.le_refl _))⟩
    exact ⟨by rw [List.length_reverse]; exact hz, _, r.reverse, IsTup.new _ _⟩
end
end Mk

set_option Elab.async false
set_option linter.all false
set_option maxRecDepth 100000
/-! MkS: each term's readings are right: expressions. -/
namespace Mk
open PySem PySem.Spec PyProof.Rows L2

/-- the constants, over a context -/
abbrev cfx (X : Cx) (fa : Fa) (ca : Nat → Option Addr) : Cf := ⟨X.K, fa, ca⟩

section
variable {C : Cf} {W : WX} {σ : St} {μ : List Addr} {H : Hp} {S : Store} {Q : VK}
theorem fin_tup {ds : List PyData} {vs : List V} {p : Addr} (h : PostF C W σ μ H Q (.ok (.tuple ds) S)) (w : Wf C.K C.fa μ S H) (r : RelDs C.K C.fa μ H ds vs) (hp : H p = none) : Q (.ref p) (upd H p (.tup vs)) :=
  h _ _ μ (Ext.new hp) (w.new hp) (.tup (SqT.of upd_same) (r.ext w (Ext.new hp)))
theorem fin_lst {ds : List PyData} {vs : List V} {p : Addr} (h : PostF C W σ μ H Q (.ok (.list ds) S)) (w : Wf C.K C.fa μ S H) (r : RelDs C.K C.fa μ H ds vs) (hp : H p = none) : Q (.ref p) (upd H p (.lst vs)) :=
  h vs p H μ .refl w r hp
theorem hereF {d : PyData} {v : V} (h : PostF C W σ μ H Q (.ok d S)) (w : Wf C.K C.fa μ S H) (r : RelD C.K C.fa μ H d v) (n : (match d with | .list _ => false | _ => true) = true := by rfl) : Q v H := by
  cases d with
  | list ds => cases n
  | _ => exact PostG.here (W := W) (σ := σ) h w r
theorem lenOk_le {n : Nat} (h : lenOk n = true) : n ≤ sizeLine := of_decide_eq_true h
theorem fits_of {i : Int} (h : fitsI i = true) : -(2 ^ 62) ≤ i ∧ i < 2 ^ 62 := by
  unfold fitsI at h
  rw [Bool.and_eq_true] at h
  exact ⟨of_decide_eq_true h.1, of_decide_eq_true h.2⟩
end

section
variable {X : Cx} {fa : Fa} {ca : Nat → Option Addr} {W : WX}

/-! ### names and constants -/
theorem ok_var {i : Nat} {x : Str} {pos : Pos} (hN : X.N[i]? = some x) (hv : Vis X.env.scope x) (hd : (x == ("__debug__" : Str)) = false) (hcd : (x == ("__classdict__" : Str)) = false) : PE X (.Name x pos) (rdE (cfx X fa ca) W (eVar i)) :=
  PE.mono (pe_var hN hv hd hcd) fun σ H Q ⟨μ, ρ, S, hw, hp⟩ => by
    unfold eVar at hp
    split at hp
    · rename_i d e
      obtain ⟨v, h1, h2⟩ := hw.env i d e
      exact ⟨v, h1, PostG.here hp hw.wf h2⟩
    · exact hp.elim
theorem ok_int {i : Int} {j pos} : PE X (.Constant (.int i) j pos) (rdE (cfx X fa ca) W (eCst (.int i))) := PE.mono pe_int fun _ _ _ ⟨_, _, _, hw, hp⟩ => PostG.here hp hw.wf (.int i)
theorem ok_bool {b : Bool} {j pos} : PE X (.Constant (.bool b) j pos) (rdE (cfx X fa ca) W (eCst (.bool b))) := PE.mono pe_bl fun _ _ _ ⟨_, _, _, hw, hp⟩ => PostG.here hp hw.wf (.bl b)
theorem ok_none {j pos} : PE X (.Constant .none j pos) (rdE (cfx X fa ca) W (eCst .none)) := PE.mono pe_non fun _ _ _ ⟨_, _, _, hw, hp⟩ => PostG.here hp hw.wf .non
theorem ok_str {x : Str} {j pos} : PE X (.Constant (.str x) j pos) (rdE (cfx X fa ca) W (eCst (.str x))) := PE.mono pe_str fun _ _ _ ⟨_, _, _, hw, hp⟩ => PostG.here hp hw.wf (.str x)
/-- a constant of the module: it reads as d at every heap -/
theorem ok_glo {x : Str} {v : V} {u : Value} {d : PyData} {pos : Pos} (hg : Gl X x) (hm : X.mg x = some u) (r : RelV v u) (rd : ∀ μ H, RelD X.K fa μ H d v) (hd : (x == ("__debug__" : Str)) = false) : PE X (.Name x pos) (rdE (cfx X fa ca) W (eCst d)) :=
  PE.mono (pe_glob hg hm r hd) fun _ _ _ ⟨_, _, _, hw, hp⟩ => PostG.here hp hw.wf (rd _ _)

/-! ### operators -/
def opOf : BOp → Operator
  | .add => .Add | .sub => .Sub | .mul => .Mult | .fdiv => .FloorDiv | .mod => .Mod | .pow => .Pow | .shl => .LShift | .shr => .RShift | .band => .BitAnd | .bor => .BitOr
theorem op_fdivG {X : Cx} : OpR X (binaryOp .FloorDiv) (rI (fun _ j => j ≠ 0 ∧ j.natAbs.log2 < 9000) fun i j => .int (i.fdiv j)) := opI fun _ _ _ _ _ _ _ hc q => floordiv_int hc.1 q (.inl (PyProof.noPylong_of_log2 hc.2))
theorem binI_ok {op : BOp} {i j : Int} {k : Int} (h : binI op i j = some k) {pins : List (Addr × Obj)} {s : Shared} {σ : St} {H : Hp} {v u : Value} {Q : VK} (I : Inv X pins σ H s) (rx : RelV (.int i) v) (ry : RelV (.int j) u) (q : Q (.int k) H) :
    wpAny (model X.prog X.w) X.A (binaryOp (opOf op) v u) (EP X pins σ Q) X.xe s := by
  cases op with
  | add => cases h; exact op_add pins s σ H _ _ v u Q I rx ry ⟨i, j, rfl, rfl, q⟩
  | sub => cases h; exact op_sub pins s σ H _ _ v u Q I rx ry ⟨i, j, rfl, rfl, q⟩
  | mul =>
    simp only [binI] at h
    split at h
    · cases h; exact op_mulW pins s σ H _ _ v u Q I rx ry ⟨i, j, rfl, rfl, by assumption, q⟩
    · cases h
  | fdiv =>
    simp only [binI] at h
    split at h
    · rename_i hc
      cases h; exact op_fdivW pins s σ H _ _ v u Q I rx ry ⟨i, j, rfl, rfl, hc, q⟩
    · split at h
      · rename_i hc
        cases h; exact op_fdivG pins s σ H _ _ v u Q I rx ry ⟨i, j, rfl, rfl, hc, q⟩
      · cases h
  | mod =>
    simp only [binI] at h
    split at h
    · rename_i hc
      cases h; exact op_mod pins s σ H _ _ v u Q I rx ry ⟨i, j, rfl, rfl, hc, q⟩
    · split at h
      · rename_i hc
        cases h; exact op_modN pins s σ H _ _ v u Q I rx ry ⟨i, j, rfl, rfl, hc, q⟩
      · cases h
  | pow =>
    simp only [binI] at h
    split at h
    · rename_i hc
      cases h; exact op_pow pins s σ H _ _ v u Q I rx ry ⟨i, j, rfl, rfl, hc, q⟩
    · cases h
  | shl =>
    simp only [binI] at h
    split at h
    · rename_i hc
      cases h; exact op_shl pins s σ H _ _ v u Q I rx ry ⟨i, j, rfl, rfl, hc, q⟩
    · cases h
  | shr =>
    simp only [binI] at h
    split at h
    · rename_i hc
      cases h; exact op_shr pins s σ H _ _ v u Q I rx ry ⟨i, j, rfl, rfl, hc, q⟩
    · cases h
  | band => cases h; exact op_and pins s σ H _ _ v u Q I rx ry ⟨i, j, rfl, rfl, q⟩
  | bor => cases h; exact op_or pins s σ H _ _ v u Q I rx ry ⟨i, j, rfl, rfl, q⟩
theorem line62 {k : Int} (h : fitsI k = true) : -(2 ^ 63) ≤ k ∧ k < 2 ^ 63 := by
  obtain ⟨a, b⟩ := fits_of h
  exact ⟨by omega, by omega⟩
theorem opB_ok {op : BOp} {a b : PyData} {μ : List Addr} {S : Store} {pins : List (Addr × Obj)} {s : Shared} {σ σ0 : St} {H : Hp} {x y : V} {v u : Value} {Q : VK} (I : Inv X pins σ H s) (rx : RelV x v) (ry : RelV y u)
    (w : Wf X.K fa μ S H) (ra : RelD X.K fa μ H a x) (rb : RelD X.K fa μ H b y) (h : PostF (cfx X fa ca) W σ0 μ H Q (ofO (opB op S a b) S)) :
    wpAny (model X.prog X.w) X.A (binaryOp (opOf op) v u) (EP X pins σ Q) X.xe s := by
  unfold opB at h
  split at h
  · -- ints
    rename_i i j
    cases ra; cases rb
    cases e : binI op i j with
    | none => rw [e] at h; exact h.elim
    | some k => rw [e] at h; exact binI_ok e I rx ry (hereF (d := .int k) h w (.int k))
  · -- texts
    rename_i x1 y1
    cases ra; cases rb
    split at h
    · split at h
      · rename_i hz
        exact op_add_str pins s σ H _ _ v u Q I rx ry ⟨_, _, rfl, rfl, lenOk_le hz, hereF (d := .str _) h w (.str _)⟩
      · exact h.elim
    · exact h.elim
  · -- tuples
    rename_i xs ys
    cases ra with
    | tup ha r1 =>
      cases rb with
      | tup hb r2 =>
        split at h
        · split at h
          · rename_i hz
            refine op_catA pins s σ H _ _ v u Q I rx ry ⟨_, _, _, _, rfl, rfl, ha, hb, by rw [r1.length, r2.length]; exact lenOk_le hz, fun e => ?_, fun e1 e2 => ?_, fun _ _ p hp => fin_tup h w (r1.append r2) hp⟩
            · have e' : xs = [] := by
                have := r1.length; rw [e] at this; exact List.eq_nil_of_length_eq_zero this.symm
              subst e'
              exact hereF (d := .tuple _) h w (.tup hb r2)
            · have e' : ys = [] := by
                have := r2.length; rw [e2] at this; exact List.eq_nil_of_length_eq_zero this.symm
              subst e'
              rw [List.append_nil] at h
              exact hereF (d := .tuple _) h w (.tup ha r1)
          · exact h.elim
        · exact h.elim
  · -- a tuple times
    rename_i xs j
    cases ra with
    | tup ha r1 =>
      cases rb
      split at h
      · split at h
        · rename_i hz
          obtain ⟨h2, h3, h4, h5⟩ := hz
          have hne : ∀ {α : Type} {us : List α}, us.length = xs.length → us ≠ [] := fun e1 e => h2 (by rw [e] at e1; exact List.eq_nil_of_length_eq_zero e1.symm)
          by_cases hj : 2 ≤ j
          · exact op_repT pins s σ H _ _ v u Q I rx ry ⟨_, _, _, rfl, rfl, ha, hne r1.length, hj, h4, by rw [r1.length]; exact h5, fun p hp => fin_tup h w (r1.rep _) hp⟩
          · by_cases hj1 : j = 1
            · subst hj1
              refine op_repT1 pins s σ H _ _ v u Q I rx ry ⟨_, _, rfl, rfl, ha, hne r1.length, ?_⟩
              have e1 : (List.replicate (1 : Int).toNat xs).flatten = xs := by show xs ++ [] = xs; simp
              rw [e1] at h
              exact hereF (d := .tuple _) h w (.tup ha r1)
            · refine op_repT0 pins s σ H _ _ v u Q I rx ry ⟨_, _, _, rfl, rfl, ha, hne r1.length, by omega, h3, fun p hp => ?_⟩
              have e0 : (List.replicate j.toNat xs).flatten = [] := by
                rw [show j.toNat = 0 by omega]; rfl
              rw [e0] at h
              exact fin_tup h w .nil hp
        · exact h.elim
      · exact h.elim
  · -- a list times
    rename_i j h1 h2
    cases rb
    split at h
    · rename_i xs e
      split at h
      · rename_i hz
        obtain ⟨p1, vs, rfl, r1, ⟨ha, _⟩ | ⟨_, e2⟩⟩ := items_ok w ra e
        · exact op_rep pins s σ H _ _ v u Q I rx ry ⟨_, _, _, rfl, rfl, ha, (line62 hz.1).1, (line62 hz.1).2, by rw [r1.length]; exact lenOk_le hz.2, fun p hp => fin_lst h w (r1.rep _) hp⟩
        · exact (h2 _ e2).elim
      · exact h.elim
    · exact h.elim
  · rename_i n1 n2 n3 n4 n5
    split at h
    · split at h
      · exact h.elim
      · rename_i nt
        rw [Bool.or_eq_true, not_or] at nt
        split at h
        · rename_i xs ys e1 e2
          split at h
          · rename_i hz
            obtain ⟨p1, vs, rfl, r1, ⟨ha, _⟩ | ⟨_, q1⟩⟩ := items_ok w ra e1
            · obtain ⟨p2, ws, rfl, r2, ⟨hb, _⟩ | ⟨_, q2⟩⟩ := items_ok w rb e2
              · exact op_cat pins s σ H _ _ v u Q I rx ry ⟨_, _, _, _, rfl, rfl, ha, hb, by rw [r1.length, r2.length]; exact lenOk_le hz, fun p hp => fin_lst h w (r1.append r2) hp⟩
              · exact (nt.2 (by rw [q2]; rfl)).elim
            · exact (nt.1 (by rw [q1]; rfl)).elim
          · exact h.elim
        · exact h.elim
    · exact h.elim
/-- two values of a step -/
def rel2 (X : Cx) (fa : Fa) (ca : Nat → Option Addr) (W : WX) (g : Store → PyData → PyData → Option PyData) : R2 := fun x y H Q => ∃ (σ0 : St) (μ : List Addr) (S : Store) (a b : PyData), Wf X.K fa μ S H ∧ RelD X.K fa μ H a x ∧ RelD X.K fa μ H b y ∧ PostF (cfx X fa ca) W σ0 μ H Q (ofO (g S a b) S)
theorem PostF.eq {C : Cf} {σ : St} {μ : List Addr} {H : Hp} {Q : VK} {r : R PyData} (n : ∀ ds S, r ≠ .ok (.list ds) S) : PostF C W σ μ H Q r = PostE C W σ μ H Q r := by
  unfold PostF
  split
  · rename_i ds S
    exact (n ds S rfl).elim
  · rfl
theorem PostF.ext {C : Cf} {σ : St} {μ μ1 : List Addr} {H H1 : Hp} {Q : VK} {r : R PyData} (e : Ext C.fa μ H μ1 H1) (h : PostF C W σ μ H Q r) : PostF C W σ μ1 H1 Q r := by
  by_cases hl : ∃ ds S, r = .ok (.list ds) S
  · obtain ⟨ds, S, rfl⟩ := hl
    exact fun vs p H2 μ2 e2 w r hp => h vs p H2 μ2 (e.trans e2) w r hp
  · have n : ∀ ds S, r ≠ .ok (.list ds) S := fun ds S z => hl ⟨ds, S, z⟩
    rw [PostF.eq n] at h ⊢
    exact PostG.ext e h
theorem PostF.bind {C : Cf} {α γ : Type} {Ra : List Addr → Hp → α → γ → Prop} {σ : St} {μ : List Addr} {H : Hp} {Q : VK} {Q1 : γ → Hp → Prop} {x : R α} {f : α → Store → R PyData} (h : PostF C W σ μ H Q (x.bind f))
    (k : ∀ a S1 v H1 μ1, Ext C.fa μ H μ1 H1 → Wf C.K C.fa μ1 S1 H1 → Ra μ1 H1 a v → PostF C W σ μ1 H1 Q (f a S1) → Q1 v H1) : PostG C Ra W σ μ H Q1 x := by
  cases x with
  | ok a S1 => exact fun v H1 μ1 e w r => k a S1 v H1 μ1 e w r (PostF.ext e h)
  | exc c S1 => exact h
  | stuck => exact h
/-- two expressions, then a step -/
theorem rd_two {ea eb : EvE} {g : Store → PyData → PyData → Option PyData} (σ : St) (H : Hp) (Q : VK) (h : rdF (cfx X fa ca) W (fun ρ S => (ea ρ S).bind fun x S1 => (eb ρ S1).bind fun y S2 => ofO (g S2 x y) S2) σ H Q) :
    tOp (rel2 X fa ca W g) (rdE (cfx X fa ca) W ea) (rdE (cfx X fa ca) W eb) σ H Q := by
  obtain ⟨μ, ρ, S, hw, hp⟩ := h
  refine ⟨μ, ρ, S, hw, PostF.bind hp fun a S1 x H1 μ1 e1 w1 r1 p1 => ?_⟩
  refine ⟨μ1, ρ, S1, hw.ext e1 w1, PostF.bind p1 fun b S2 y H2 μ2 e2 w2 r2 p2 => ?_⟩
  exact ⟨σ, μ2, S2, a, b, w2, r1.ext w1 e2, r2, p2⟩
theorem ok_bin {op : BOp} {a b : Expr} {ea eb : EvE} {pos : Pos} (ha : PE X a (rdE (cfx X fa ca) W ea)) (hb : PE X b (rdE (cfx X fa ca) W eb)) : PE X (.BinOp a (opOf op) b pos) (rdF (cfx X fa ca) W (eBin op ea eb)) :=
  PE.mono (pe_op (r := rel2 X fa ca W (opB op)) (fun pins s σ H x y v u Q I rx ry ⟨σ0, μ, S, a, b, w, ra, rb, h⟩ => opB_ok (W := W) (ca := ca) I rx ry w ra rb h) ha hb) fun σ H Q h => rd_two σ H Q h
/-- one expression, then a step -/
def rel1 (X : Cx) (fa : Fa) (ca : Nat → Option Addr) (W : WX) (g : Store → PyData → Option PyData) : V → Hp → VK → Prop := fun x H Q => ∃ (σ0 : St) (μ : List Addr) (S : Store) (a : PyData), Wf X.K fa μ S H ∧ RelD X.K fa μ H a x ∧ PostF (cfx X fa ca) W σ0 μ H Q (ofO (g S a) S)
theorem rd_one {ea : EvE} {g : Store → PyData → Option PyData} (σ : St) (H : Hp) (Q : VK) (h : rdF (cfx X fa ca) W (fun ρ S => (ea ρ S).bind fun x S1 => ofO (g S1 x) S1) σ H Q) :
    tUn (rel1 X fa ca W g) (rdE (cfx X fa ca) W ea) σ H Q := by
  obtain ⟨μ, ρ, S, hw, hp⟩ := h
  exact ⟨μ, ρ, S, hw, PostF.bind hp fun a S1 x H1 μ1 e1 w1 r1 p1 => ⟨σ, μ1, S1, a, w1, r1, p1⟩⟩
theorem ok_neg {a : Expr} {ea : EvE} {pos : Pos} (ha : PE X a (rdE (cfx X fa ca) W ea)) : PE X (.UnaryOp .USub a pos) (rdE (cfx X fa ca) W (eUn negD ea)) :=
  PE.ofF (PE.mono (pe_un (r := rel1 X fa ca W (fun _ => negD)) (fun pins s σ H x v Q I rx ⟨σ0, μ, S, a, w, ra, h⟩ => by
    replace h : PostF (cfx X fa ca) W σ0 μ H Q (ofO (negD a) S) := h
    unfold negD at h
    split at h
    · cases ra
      exact un_neg pins s σ H _ v Q I rx ⟨_, rfl, hereF (d := .int _) h w (.int _)⟩
    · exact h.elim) ha) fun σ H Q h => rd_one σ H Q h)
theorem ok_inv {a : Expr} {ea : EvE} {pos : Pos} (ha : PE X a (rdE (cfx X fa ca) W ea)) : PE X (.UnaryOp .Invert a pos) (rdE (cfx X fa ca) W (eUn invD ea)) :=
  PE.ofF (PE.mono (pe_un (r := rel1 X fa ca W (fun _ => invD)) (fun pins s σ H x v Q I rx ⟨σ0, μ, S, a, w, ra, h⟩ => by
    replace h : PostF (cfx X fa ca) W σ0 μ H Q (ofO (invD a) S) := h
    unfold invD at h
    split at h
    · cases ra
      exact un_inv pins s σ H _ v Q I rx ⟨_, rfl, hereF (d := .int _) h w (.int _)⟩
    · exact h.elim) ha) fun σ H Q h => rd_one σ H Q h)

/-! ### data without cells -/
mutual
theorem RelD.dp {K : PySem.W.Frag} {μ : List Addr} {H : Hp} : ∀ {d : PyData} {v : V}, RelD K fa μ H d v → d.canLay0 = true → Dp K H v d
  | _, _, .non, _ => .non
  | _, _, .bl b, _ => .bl b
  | _, _, .int i, _ => .int i
  | _, _, .str x, _ => .str x
  | _, _, .tup h r, c => .tup h (RelDs.dp r (by simpa [PyData.canLay0] using c))
  | _, _, .lst h _ _ r, c => .lst (SqL.of h) (RelDs.dp r (by simpa [PyData.canLay0] using c))
  | _, _, .cell _, c => by simp [PyData.canLay0] at c
  | _, _, .fn _, c => by simp [PyData.canLay0] at c
  | _, _, .lk _ _, c => by simp [PyData.canLay0] at c
theorem RelDs.dp {K : PySem.W.Frag} {μ : List Addr} {H : Hp} : ∀ {ds : List PyData} {vs : List V}, RelDs K fa μ H ds vs → PyData.canLayAll0 ds = true → DpAll K H vs ds
  | _, _, .nil, _ => .nil
  | _, _, .cons h t, c => by
    rw [PyData.canLayAll0, Bool.and_eq_true] at c
    exact .cons (RelD.dp h c.1) (RelDs.dp t c.2)
end
theorem rd_dp {μ : List Addr} {S : Store} {H : Hp} {d : PyData} {v : V} (w : Wf X.K fa μ S H) (r : RelD X.K fa μ H d v) (h : shp (rd S d) = true) : Dp X.K H v (rd S d) := by
  have hc := SeqAt.canLay_of_shaped h
  by_cases hk : ∃ k, d = rf k
  · obtain ⟨k, rfl⟩ := hk
    have e0 : rd S (rf k) = match cellOf S k with | some ds => .list ds | none => rf k := rfl
    rw [e0] at hc ⊢
    cases e : cellOf S k with
    | none => rw [e] at hc; simp [PyData.canLay0] at hc
    | some ds =>
      rw [e] at hc
      obtain ⟨a, xs, ev, r1, ⟨ha, _⟩ | ⟨_, e2⟩⟩ := items_ok w r (show itemsOf S (rf k) = some ds from e)
      · cases ev
        exact .lst (SqL.of ha) (r1.dp (by simpa [PyData.canLay0] using hc))
      · cases e2
  · have e0 : rd S d = d := by
      unfold rd
      split
      · rename_i k
        exact (hk ⟨k, rfl⟩).elim
      · rfl
    rw [e0] at hc ⊢
    exact r.dp hc
/-- the items of a list or tuple, as data -/
theorem items_dp {μ : List Addr} {S : Store} {H : Hp} {d : PyData} {ds : List PyData} {v : V} (w : Wf X.K fa μ S H) (r : RelD X.K fa μ H d v) (e : itemsOf S d = some ds) (h : shp (.list ds) = true) : Dp X.K H v (.list ds) ∨ Dp X.K H v (.tuple ds) := by
  have hc : PyData.canLayAll0 ds = true := by simpa [PyData.canLay0] using SeqAt.canLay_of_shaped h
  obtain ⟨a, xs, rfl, r1, ⟨ha, _⟩ | ⟨ha, _⟩⟩ := items_ok w r e
  · exact .inl (.lst (SqL.of ha) (r1.dp hc))
  · exact .inr (.tup ha (r1.dp hc))

/-! ### comparisons -/
def copOf : COp → CmpOp
  | .eq => .Eq | .ne => .NotEq | .lt => .Lt | .le => .LtE | .gt => .Gt | .ge => .GtE | .in_ => .In | .nin => .NotIn | .isN => .Is | .notN => .IsNot | .isB => .Is | .notB => .IsNot
/-- a dict's keys, as data -/
theorem keyD_eqv (a b : Key) : PyData.eqv (keyD a) (keyD b) = decide (a = b) := by
  cases a with
  | inl i => cases b with
    | inl j => rw [key_ll]; rfl
    | inr y => simp [keyD, PyData.eqv]
  | inr x => cases b with
    | inl j => simp [keyD, PyData.eqv]
    | inr y =>
      rw [key_rr]
      simp only [keyD, PyData.eqv]
      by_cases e : x = y
      · subst e; simp
      · rw [decide_eq_false e]; exact beq_eq_false_iff_ne.mpr e
theorem isKey_some {d : PyData} (h : isKey d = true) : ∃ k : Key, d = keyD k := by
  cases d with
  | int i => exact ⟨.inl i, rfl⟩
  | str x => exact ⟨.inr x, rfl⟩
  | _ => cases h
theorem keyD_rel {K : PySem.W.Frag} {μ : List Addr} {H : Hp} {k : Key} {v : V} (r : RelD K fa μ H (keyD k) v) : v = kV k := by
  cases k with
  | inl i => cases r; rfl
  | inr x => cases r; rfl
theorem lookK_val {K : PySem.W.Frag} {μ : List Addr} {H : Hp} (k : Key) : ∀ {kvs : List (Key × V)} {vs : List PyData}, RelDs K fa μ H vs (kvs.map (·.2)) →
    match lookK (keyD k) (kvs.map fun p => keyD p.1) vs with
    | some d => ∃ v, valV kvs k = some v ∧ RelD K fa μ H d v
    | none => valV kvs k = none
  | [], _, .nil => rfl
  | (x, y) :: kvs, _, .cons (d := d) (ds := vs) h t => by
    have ih := lookK_val k t
    show match (if keyEq (keyD x) (keyD k) = true then some d else lookK (keyD k) (kvs.map fun p => keyD p.1) vs) with
      | some d => ∃ v, valV ((x, y) :: kvs) k = some v ∧ RelD K fa μ H d v
      | none => valV ((x, y) :: kvs) k = none
    by_cases e : x = k
    · rw [if_pos (by unfold keyEq; rw [keyD_eqv]; exact decide_eq_true e)]
      exact ⟨y, valV_pos e, h⟩
    · rw [if_neg (by unfold keyEq; rw [keyD_eqv, decide_eq_false e]; exact Bool.false_ne_true), valV_neg e]
      exact ih
/-- a dict's cell, asked -/
theorem dct_get {μ : List Addr} {S : Store} {H : Hp} {k : Nat} {t : Bool} {ks vs : List PyData} {a : PyData} {x v : V} (w : Wf X.K fa μ S H) (ra : RelD X.K fa μ H a x) (rb : RelD X.K fa μ H (rf k) v) (e : S[k]? = some (.dct t ks vs)) (hk : keyOk t a = true) :
    ∃ p r, v = .ref p ∧ DGet H p x r ∧ match lookK a ks vs with
      | some d => ∃ y, r = some y ∧ RelD X.K fa μ H d y
      | none => r = none := by
  cases rb with
  | cell hc =>
    rename_i p
    have ok := w.cells k p _ hc e
    cases t with
    | true =>
      obtain ⟨ob, kvs, hp, rfl, rv⟩ := ok
      obtain ⟨key, rfl⟩ := isKey_some hk
      obtain rfl := keyD_rel ra
      exact ⟨p, valV kvs key, rfl, .inl ⟨kvs, key, .inr ⟨ob, hp⟩, rfl, rfl⟩, lookK_val key rv⟩
    | false =>
      obtain ⟨kvs, hp, rfl, rv⟩ := ok
      obtain ⟨key, rfl⟩ := isKey_some hk
      obtain rfl := keyD_rel ra
      exact ⟨p, valV kvs key, rfl, DGet.k hp, lookK_val key rv⟩

theorem cmp_eq (hu : X.A.units + 65 < cLine) : OpR X (compareOp .Eq) (rel2 X fa ca W fun S a b => (cmpD .eq S a b).map .bool) := by
  intro pins s σ H x y v u Q I rx ry ⟨σ0, μ, S, a, b, w, ra, rb, h⟩
  cases hst : strEq a b with
  | some t =>
    cases a <;> cases b <;> first | cases hst | skip
    cases ra; cases rb
    refine op_eq pins s σ H _ _ v u Q I rx ry ⟨rfl, ?_⟩
    have e : ∀ x y : Str, decide (V.str x = V.str y) = decide (x = y) := fun x y => by simp
    rw [e]
    exact hereF (d := .bool _) h w (.bl _)
  | none =>
  simp only [cmpD, hst] at h
  split at h
  · rename_i hs
    rw [Bool.and_eq_true] at hs
    exact op_eqD (by omega) pins s σ H x y v u Q I rx ry ⟨_, _, rd_dp w ra hs.1, rd_dp w rb hs.2, hs.1, hs.2, hereF (d := .bool _) h w (.bl _)⟩
  · exact h.elim
theorem cmp_ne (hu : X.A.units + 65 < cLine) : OpR X (compareOp .NotEq) (rel2 X fa ca W fun S a b => (cmpD .ne S a b).map .bool) := by
  intro pins s σ H x y v u Q I rx ry ⟨σ0, μ, S, a, b, w, ra, rb, h⟩
  cases hst : strEq a b with
  | some t =>
    cases a <;> cases b <;> first | cases hst | skip
    cases ra; cases rb
    refine op_ne pins s σ H _ _ v u Q I rx ry ⟨rfl, ?_⟩
    have e : ∀ x y : Str, decide (V.str x = V.str y) = decide (x = y) := fun x y => by simp
    rw [e]
    exact hereF (d := .bool _) h w (.bl _)
  | none =>
  simp only [cmpD, hst] at h
  split at h
  · rename_i hs
    rw [Bool.and_eq_true] at hs
    exact op_neD (by omega) pins s σ H x y v u Q I rx ry ⟨_, _, rd_dp w ra hs.1, rd_dp w rb hs.2, hs.1, hs.2, hereF (d := .bool _) h w (.bl _)⟩
  · exact h.elim
theorem cmp_isN : OpR X (compareOp .Is) (rel2 X fa ca W fun S a b => (cmpD .isN S a b).map .bool) := by
  intro pins s σ H x y v u Q I rx ry ⟨σ0, μ, S, a, b, w, ra, rb, h⟩
  cases b with
  | none =>
    cases rb
    refine op_isN pins s σ H x _ v u Q I rx ry ⟨rfl, ?_⟩
    cases ra with
    | non => exact hereF (d := .bool _) h w (.bl _)
    | _ => exact hereF (d := .bool _) h w (.bl _)
  | _ => exact h.elim
theorem cmp_notN : OpR X (compareOp .IsNot) (rel2 X fa ca W fun S a b => (cmpD .notN S a b).map .bool) := by
  intro pins s σ H x y v u Q I rx ry ⟨σ0, μ, S, a, b, w, ra, rb, h⟩
  cases b with
  | none =>
    cases rb
    refine op_notN pins s σ H x _ v u Q I rx ry ⟨rfl, ?_⟩
    cases ra with
    | non => exact hereF (d := .bool _) h w (.bl _)
    | _ => exact hereF (d := .bool _) h w (.bl _)
  | _ => exact h.elim
theorem cmp_isB : OpR X (compareOp .Is) (rel2 X fa ca W fun S a b => (cmpD .isB S a b).map .bool) := by
  intro pins s σ H x y v u Q I rx ry ⟨σ0, μ, S, a, b, w, ra, rb, h⟩
  cases a with
  | bool i => cases b with
    | bool j =>
      cases ra; cases rb
      exact op_isBl pins s σ H _ _ v u Q I rx ry ⟨_, _, rfl, rfl, hereF (d := .bool _) h w (.bl _)⟩
    | _ => exact h.elim
  | _ => exact h.elim
theorem cmp_notB : OpR X (compareOp .IsNot) (rel2 X fa ca W fun S a b => (cmpD .notB S a b).map .bool) := by
  intro pins s σ H x y v u Q I rx ry ⟨σ0, μ, S, a, b, w, ra, rb, h⟩
  cases a with
  | bool i => cases b with
    | bool j =>
      cases ra; cases rb
      exact op_notBl pins s σ H _ _ v u Q I rx ry ⟨_, _, rfl, rfl, hereF (d := .bool _) h w (.bl _)⟩
    | _ => exact h.elim
  | _ => exact h.elim
theorem room_ord {A : Around} {a b : PyData} (h : SeqAt.shaped a = true) (hu : A.units + 65 < cLine) : A.units + min a.depth b.depth < cLine := by
  have h1 := SeqAt.depth_of_shaped h
  have h2 : min a.depth b.depth ≤ a.depth := Nat.min_le_left _ _
  omega
theorem cmp_ord {op : COp} (ho : op = .lt ∨ op = .le ∨ op = .gt ∨ op = .ge) (hu : X.A.units + 65 < cLine) : OpR X (compareOp (copOf op)) (rel2 X fa ca W fun S a b => (cmpD op S a b).map .bool) := by
  intro pins s σ H x y v u Q I rx ry ⟨σ0, μ, S, a, b, w, ra, rb, h⟩
  by_cases hi : (∃ i j, a = .int i ∧ b = .int j)
  · obtain ⟨i, j, rfl, rfl⟩ := hi
    cases ra; cases rb
    rcases ho with rfl | rfl | rfl | rfl
    · exact op_lt pins s σ H _ _ v u Q I rx ry ⟨i, j, rfl, rfl, hereF (d := .bool _) h w (.bl _)⟩
    · exact op_le pins s σ H _ _ v u Q I rx ry ⟨i, j, rfl, rfl, hereF (d := .bool _) h w (.bl _)⟩
    · exact op_gt pins s σ H _ _ v u Q I rx ry ⟨i, j, rfl, rfl, hereF (d := .bool _) h w (.bl _)⟩
    · exact op_ge pins s σ H _ _ v u Q I rx ry ⟨i, j, rfl, rfl, hereF (d := .bool _) h w (.bl _)⟩
  · have e : cmpD op S a b = if PySem.W.alike a b && shp a && shp b && notN a then some (ordD op a b) else none := by
      rcases ho with rfl | rfl | rfl | rfl <;>
        (simp only [cmpD]; split
         · rename_i i j; exact (hi ⟨_, _, rfl, rfl⟩).elim
         · rfl)
    replace h : PostF (cfx X fa ca) W σ0 μ H Q (ofO ((cmpD op S a b).map .bool) S) := h
    rw [e] at h
    split at h
    · rename_i hs
      simp only [Bool.and_eq_true] at hs
      obtain ⟨⟨⟨hl, ha⟩, hb⟩, hn⟩ := hs
      have hn' : a ≠ .none := by rintro rfl; cases hn
      obtain ⟨as, r1⟩ := Dp.reads I _ x v (ra.dp (SeqAt.canLay_of_shaped ha)) rx
      obtain ⟨bs, r2⟩ := Dp.reads I _ y u (rb.dp (SeqAt.canLay_of_shaped hb)) ry
      have fin : EP X pins σ Q (.bool (ordD op a b)) s := ⟨.bl _, H, I, rfl, hereF (d := .bool _) h w (.bl _)⟩
      rcases ho with rfl | rfl | rfl | rfl
      · exact PySem.W.lt_data r1 r2 hl hn' (room_ord ha hu) fin
      · exact PySem.W.le_data r1 r2 hl hn' (room_ord ha hu) fin
      · exact PySem.W.gt_data r1 r2 hl hn' (room_ord ha hu) fin
      · exact PySem.W.ge_data r1 r2 hl hn' (room_ord ha hu) fin
    · exact h.elim
theorem dctOf_some {S : Store} {b : PyData} {t : Bool} {ks vs : List PyData} (e : dctOf S b = some (t, ks, vs)) : ∃ k, b = rf k ∧ S[k]? = some (.dct t ks vs) := by
  unfold dctOf at e
  split at e
  · rename_i k
    split at e
    · rename_i t' ks' vs' h
      cases e
      exact ⟨k, rfl, h⟩
    · cases e
  · cases e
theorem isSome_of {μ : List Addr} {H : Hp} {o : Option PyData} {r : Option V} (h : match o with | some d => ∃ y, r = some y ∧ RelD X.K fa μ H d y | none => r = none) : r.isSome = o.isSome := by
  cases o with
  | none => rw [show r = none from h]; rfl
  | some d => obtain ⟨y, rfl, _⟩ := h; rfl
theorem cmp_in (hu : X.A.units + 65 < cLine) : OpR X (compareOp .In) (rel2 X fa ca W fun S a b => (cmpD .in_ S a b).map .bool) := by
  intro pins s σ H x y v u Q I rx ry ⟨σ0, μ, S, a, b, w, ra, rb, h⟩
  replace h : PostF (cfx X fa ca) W σ0 μ H Q (ofO ((inD S a b).map .bool) S) := h
  unfold inD at h
  split at h
  · cases ra; cases rb
    exact op_in_str pins s σ H _ _ v u Q I rx ry ⟨_, _, rfl, rfl, hereF (d := .bool _) h w (.bl _)⟩
  · split at h
    · rename_i t ks vs e
      split at h
      · rename_i hk
        obtain ⟨k, rfl, e'⟩ := dctOf_some e
        obtain ⟨p, r, rfl, g, hr⟩ := dct_get w ra rb e' hk
        cases (show u = Value.ref p from ry)
        refine d_in (by omega) I g rx fun s' I' => ⟨.bl _, H, I', rfl, ?_⟩
        rw [isSome_of hr]
        exact hereF (C := cfx X fa ca) (d := .bool _) h w (.bl _)
      · exact h.elim
    · split at h
      · rename_i ds e
        split at h
        · rename_i hs
          rw [Bool.and_eq_true] at hs
          obtain ⟨as, r1⟩ := Dp.reads I _ x v (ra.dp (SeqAt.canLay_of_shaped hs.1)) rx
          have hc : PyData.canLayAll0 ds = true := by simpa [PyData.canLay0] using SeqAt.canLay_of_shaped hs.2
          have fin : EP X pins σ Q (.bool (ds.any fun z => PyData.eqv z a)) s := ⟨.bl _, H, I, rfl, hereF (d := .bool _) h w (.bl _)⟩
          rcases items_dp w rb e hs.2 with q | q
          · obtain ⟨bs, r2⟩ := Dp.reads I _ y u q ry
            exact SeqAt.in_list_reads r2 r1 hc (SeqAt.canLay_of_shaped hs.1) (room_in_shaped hs.1 hu) fin
          · obtain ⟨bs, r2⟩ := Dp.reads I _ y u q ry
            exact SeqAt.in_tuple_reads r2 r1 hc (SeqAt.canLay_of_shaped hs.1) (room_in_shaped hs.1 hu) fin
        · exact h.elim
      · exact h.elim
theorem cmp_nin (hu : X.A.units + 65 < cLine) : OpR X (compareOp .NotIn) (rel2 X fa ca W fun S a b => (cmpD .nin S a b).map .bool) := by
  intro pins s σ H x y v u Q I rx ry ⟨σ0, μ, S, a, b, w, ra, rb, h⟩
  replace h : PostF (cfx X fa ca) W σ0 μ H Q (ofO (((inD S a b).map (!·)).map .bool) S) := h
  unfold inD at h
  split at h
  · cases ra; cases rb
    exact op_notin_str pins s σ H _ _ v u Q I rx ry ⟨_, _, rfl, rfl, hereF (d := .bool _) h w (.bl _)⟩
  · split at h
    · rename_i t ks vs e
      split at h
      · rename_i hk
        obtain ⟨k, rfl, e'⟩ := dctOf_some e
        obtain ⟨p, r, rfl, g, hr⟩ := dct_get w ra rb e' hk
        cases (show u = Value.ref p from ry)
        refine d_notIn (by omega) I g rx fun s' I' => ⟨.bl _, H, I', rfl, ?_⟩
        rw [isSome_of hr]
        exact hereF (C := cfx X fa ca) (d := .bool _) h w (.bl _)
      · exact h.elim
    · split at h
      · rename_i ds e
        split at h
        · rename_i hs
          rw [Bool.and_eq_true] at hs
          obtain ⟨as, r1⟩ := Dp.reads I _ x v (ra.dp (SeqAt.canLay_of_shaped hs.1)) rx
          have hc : PyData.canLayAll0 ds = true := by simpa [PyData.canLay0] using SeqAt.canLay_of_shaped hs.2
          have fin : EP X pins σ Q (.bool (!ds.any fun z => PyData.eqv z a)) s := ⟨.bl _, H, I, rfl, hereF (d := .bool _) h w (.bl _)⟩
          rcases items_dp w rb e hs.2 with q | q
          · obtain ⟨bs, r2⟩ := Dp.reads I _ y u q ry
            exact SeqAt.notIn_list_reads r2 r1 hc (SeqAt.canLay_of_shaped hs.1) (room_in_shaped hs.1 hu) fin
          · obtain ⟨bs, r2⟩ := Dp.reads I _ y u q ry
            exact SeqAt.notIn_tuple_reads r2 r1 hc (SeqAt.canLay_of_shaped hs.1) (room_in_shaped hs.1 hu) fin
        · exact h.elim
      · exact h.elim
theorem cmp_any (op : COp) (hu : X.A.units + 65 < cLine) : OpR X (compareOp (copOf op)) (rel2 X fa ca W fun S a b => (cmpD op S a b).map .bool) := by
  cases op with
  | eq => exact cmp_eq hu
  | ne => exact cmp_ne hu
  | lt => exact cmp_ord (.inl rfl) hu
  | le => exact cmp_ord (.inr (.inl rfl)) hu
  | gt => exact cmp_ord (.inr (.inr (.inl rfl))) hu
  | ge => exact cmp_ord (.inr (.inr (.inr rfl))) hu
  | in_ => exact cmp_in hu
  | nin => exact cmp_nin hu
  | isN => exact cmp_isN
  | notN => exact cmp_notN
  | isB => exact cmp_isB
  | notB => exact cmp_notB
theorem ok_cmp {op : COp} {a b : Expr} {ea eb : EvE} {pos : Pos} (hu : X.A.units + 65 < cLine) (hm : behindInMarks (copOf op) b = false) (ha : PE X a (rdE (cfx X fa ca) W ea)) (hb : PE X b (rdE (cfx X fa ca) W eb)) : PE X (.Compare a [copOf op] [b] pos) (rdE (cfx X fa ca) W (eCmp op ea eb)) :=
  PE.ofF (PE.mono (pe_cmpR (cmp_any op hu) ha hb hm) fun σ H Q h => rd_two (g := fun S a b => (cmpD op S a b).map .bool) σ H Q h)
/-- .. as a test -/
theorem PostB.of {C : Cf} {σ : St} {μ : List Addr} {H : Hp} {Q : Bool → Hp → Prop} {α : Type} {x : R α} {k : α → Store → R PyData} (h : PostB C W σ μ H Q ((x.bind k).bind fun d S1 => ofO (truth S1 d) S1)) : PostB C W σ μ H Q (x.bind fun a S1 => (k a S1).bind fun d S2 => ofO (truth S2 d) S2) := by
  cases x <;> exact h
end
end Mk

set_option Elab.async false
set_option linter.all false
set_option maxRecDepth 100000
/-! MkS2: chains, truth, and, or, not, if-else, displays, parts. -/
namespace Mk
open PySem PySem.Spec PyProof.Rows L2
section
variable {X : Cx} {fa : Fa} {ca : Nat → Option Addr} {W : WX}

theorem rd_chain {p q : COp} {ea eb ec : EvE} (σ : St) (H : Hp) (Q : VK) (h : rdE (cfx X fa ca) W (eChn p q ea eb ec) σ H Q) :
    tChain (rel2 X fa ca W fun S a b => (cmpD p S a b).map .bool) (rel2 X fa ca W fun S a b => (cmpD q S a b).map .bool) (rdE (cfx X fa ca) W ea) (rdE (cfx X fa ca) W eb) (rdE (cfx X fa ca) W ec) σ H Q := by
  obtain ⟨μ, ρ, S, hw, hp⟩ := h
  refine ⟨μ, ρ, S, hw, PostG.bind hp fun a S1 x H1 μ1 e1 w1 r1 p1 => ?_⟩
  refine ⟨μ1, ρ, S1, hw.ext e1 w1, PostG.bind p1 fun b S2 y H2 μ2 e2 w2 r2 p2 => ?_⟩
  refine ⟨σ, μ2, S2, a, b, w2, r1.ext w1 e2, r2, ?_⟩
  obtain ⟨t, et, p3⟩ := PostG.bindO p2
  show PostF (cfx X fa ca) W σ μ2 H2 _ (ofO ((cmpD p S2 a b).map .bool) S2)
  rw [et]
  intro v H3 μ3 e3 w3 r3
  cases r3
  refine ⟨t, rfl, ?_⟩
  have p4 := PostG.ext e3 p3
  cases t with
  | false => exact PostG.here (PostG.ext e3 p3) (S := S2) w3 (.bl false)
  | true =>
    refine ⟨μ3, ρ, S2, (hw.ext e1 w1).ext (e2.trans e3) w3, PostG.bind p4 fun c S4 z H4 μ4 e4 w4 r4 p5 => ?_⟩
    exact ⟨σ, μ4, S4, b, c, w4, (r2.ext w2 e3).ext w3 e4, r4, .of p5⟩
theorem ok_chn {p q : COp} {a b c : Expr} {ea eb ec : EvE} {pos : Pos} (hu : X.A.units + 65 < cLine) (hm : lastMarks [copOf p, copOf q] [b, c] = false) (ha : PE X a (rdE (cfx X fa ca) W ea)) (hb : PE X b (rdE (cfx X fa ca) W eb)) (hc : PE X c (rdE (cfx X fa ca) W ec)) :
    PE X (.Compare a [copOf p, copOf q] [b, c] pos) (rdE (cfx X fa ca) W (eChn p q ea eb ec)) :=
  PE.mono (pe_chain (cmp_any p hu) (cmp_any q hu) ha hb hc hm) fun σ H Q h => rd_chain σ H Q h
/-- a value that is always a bool -/
def isBl (ev : EvE) : Prop := ∀ ρ S d S', ev ρ S = .ok d S' → ∃ b, d = .bool b
/-- a test of an expression whose value is a bool, by its value's reading -/
theorem rdB_of {ev : EvE} (hb : isBl ev) (σ : St) (H : Hp) (Q : Bool → Hp → Prop) (h : rdB (cfx X fa ca) W (bOf ev) σ H Q) : rdE (cfx X fa ca) W ev σ H fun x H1 => ∃ k, x = .bl k ∧ Q k H1 := by
  obtain ⟨μ, ρ, S, hw, hp⟩ := h
  refine ⟨μ, ρ, S, hw, ?_⟩
  have hp : PostB (cfx X fa ca) W σ μ H Q ((ev ρ S).bind fun x S1 => ofO (truth S1 x) S1) := hp
  cases e : ev ρ S with
  | ok d S1 =>
    obtain ⟨b, rfl⟩ := hb ρ S d S1 e
    rw [e] at hp
    intro v H1 μ1 e1 w1 r1
    cases r1
    exact ⟨b, rfl, hp b H1 μ1 e1 w1 rfl⟩
  | exc c S1 => rw [e] at hp; exact hp
  | stuck => rw [e] at hp; exact hp
theorem bind_bl {α : Type} {x : R α} {f : α → Store → R PyData} {d : PyData} {S' : Store} (h : x.bind f = .ok d S') : ∃ a S, x = .ok a S ∧ f a S = .ok d S' := by
  cases x with
  | ok a S => exact ⟨a, S, rfl, h⟩
  | exc c S => cases h
  | stuck => cases h
theorem ofO_ok {α : Type} {o : Option α} {S S' : Store} {d : α} (h : ofO o S = .ok d S') : o = some d ∧ S' = S := by
  cases o with
  | some a => cases h; exact ⟨rfl, rfl⟩
  | none => cases h
theorem map_bl {o : Option Bool} {S S' : Store} {d : PyData} (h : ofO (o.map PyData.bool) S = .ok d S') : ∃ b, d = .bool b := by
  cases o with
  | some a => cases h; exact ⟨a, rfl⟩
  | none => cases h
theorem bl_cmp {op : COp} {ea eb : EvE} : isBl (eCmp op ea eb) := fun ρ S d S' h => by
  obtain ⟨a, S1, _, h⟩ := bind_bl h
  obtain ⟨b, S2, _, h⟩ := bind_bl h
  exact map_bl h
theorem bl_chn {p q : COp} {ea eb ec : EvE} : isBl (eChn p q ea eb ec) := fun ρ S d S' h => by
  obtain ⟨a, S1, _, h⟩ := bind_bl h
  obtain ⟨b, S2, _, h⟩ := bind_bl h
  obtain ⟨t, S3, _, h⟩ := bind_bl h
  cases t with
  | true =>
    obtain ⟨c, S4, _, h⟩ := bind_bl h
    exact map_bl h
  | false => cases h; exact ⟨false, rfl⟩
theorem ok_cmpB {op : COp} {a b : Expr} {ea eb : EvE} {pos : Pos} (hu : X.A.units + 65 < cLine) (hm : behindInMarks (copOf op) b = false) (ha : PE X a (rdE (cfx X fa ca) W ea)) (hb : PE X b (rdE (cfx X fa ca) W eb)) : PT X (.Compare a [copOf op] [b] pos) (rdB (cfx X fa ca) W (bOf (eCmp op ea eb))) :=
  PT.mono (pt_cmpR (cmp_any op hu) ha hb hm) fun σ H Q h => by
    obtain ⟨μ, ρ, S, hw, hp⟩ := rdB_of bl_cmp σ H Q h
    exact rd_two (g := fun S a b => (cmpD op S a b).map .bool) σ H _ ⟨μ, ρ, S, hw, .of hp⟩
theorem ok_chnB {p q : COp} {a b c : Expr} {ea eb ec : EvE} {pos : Pos} (hu : X.A.units + 65 < cLine) (hm : lastMarks [copOf p, copOf q] [b, c] = false) (ha : PE X a (rdE (cfx X fa ca) W ea)) (hb : PE X b (rdE (cfx X fa ca) W eb)) (hc : PE X c (rdE (cfx X fa ca) W ec)) :
    PT X (.Compare a [copOf p, copOf q] [b, c] pos) (rdB (cfx X fa ca) W (bOf (eChn p q ea eb ec))) :=
  PT.mono (pt_chain (cmp_any p hu) (cmp_any q hu) ha hb hc hm) fun σ H Q h => rd_chain σ H _ (rdB_of bl_chn σ H Q h)

/-! ### truth -/
theorem isEmpty_rel {K : PySem.W.Frag} {μ : List Addr} {H : Hp} {ds : List PyData} {vs : List V} (r : RelDs K fa μ H ds vs) : vs.isEmpty = ds.isEmpty := by
  cases r <;> rfl
theorem truth_ok {μ : List Addr} {S : Store} {H : Hp} {d : PyData} {v : V} {k : Bool} (w : Wf X.K fa μ S H) (r : RelD X.K fa μ H d v) (h : truth S d = some k) : TruV X.K v H k := by
  cases r with
  | non => cases h; rfl
  | bl b => cases h; rfl
  | int i => cases h; rfl
  | str x =>
    have h' : (if lenOk x.length then some (x.length != 0) else none) = some k := h
    split at h'
    · rename_i hz
      cases h'
      refine ⟨lenOk_le hz, ?_⟩
      by_cases e : x.length = 0
      · simp [e]
      · have e1 : (x.length != 0) = true := by simpa using e
        have e2 : ((x.length : Int) != 0) = true := by simpa using e
        rw [e1, e2]
    · cases h'
  | tup hs r1 => cases h; exact .inr (.inl ⟨_, hs, by rw [isEmpty_rel r1]⟩)
  | lst hs _ _ r1 => cases h; exact .inl ⟨_, SqL.of hs, by rw [isEmpty_rel r1]⟩
  | cell hk =>
    rename_i k' a
    have h' : (match S[k']? with
      | some (.lst ds) => some (!ds.isEmpty)
      | some (.dct false ks _) => some (!ks.isEmpty)
      | _ => none) = some k := h
    split at h'
    · rename_i ds e
      cases h'
      obtain ⟨xs, e2, r1⟩ := w.cells k' a _ hk e
      exact .inl ⟨_, SqL.of e2, by rw [isEmpty_rel r1]⟩
    · rename_i ks vs e
      cases h'
      have ok := w.cells k' a _ hk e
      obtain ⟨kvs, e2, rfl, r1⟩ := ok
      refine .inr (.inr ⟨_, e2, ?_⟩)
      cases kvs <;> rfl
    · cases h'
  | _ => cases h
theorem rd_truth {ev : EvE} (σ : St) (H : Hp) (Q : Bool → Hp → Prop) (h : rdB (cfx X fa ca) W (bOf ev) σ H Q) : rdE (cfx X fa ca) W ev σ H fun x H1 => ∃ k, TruV X.K x H1 k ∧ Q k H1 := by
  obtain ⟨μ, ρ, S, hw, hp⟩ := h
  refine ⟨μ, ρ, S, hw, PostG.bind hp fun d S1 v H1 μ1 e1 w1 r1 p1 => ?_⟩
  obtain ⟨k, ek, p2⟩ := PostG.ofO p1
  exact ⟨k, truth_ok w1 r1 ek, PostG.here p2 w1 rfl⟩
/-- an expression as a test, by its value's truth -/
theorem ok_truth {e : Expr} {ev : EvE} (he : ∀ whole, isTrue e X.env whole = (do let v ← whole; standAt e.pos; holding [v] (truthy v))) (h : PE X e (rdE (cfx X fa ca) W ev)) : PT X e (rdB (cfx X fa ca) W (bOf ev)) :=
  PT.mono (pt_truth h he) fun σ H Q q => rd_truth σ H Q q

/-! ### and, or, not, if-else -/
theorem rd_and {ea eb : EvE} (σ : St) (H : Hp) (Q : VK) (h : rdE (cfx X fa ca) W (eAnd ea eb) σ H Q) : tAndT X.K (rdE (cfx X fa ca) W ea) (rdE (cfx X fa ca) W eb) σ H Q := by
  obtain ⟨μ, ρ, S, hw, hp⟩ := h
  refine ⟨μ, ρ, S, hw, PostG.bind hp fun d S1 v H1 μ1 e1 w1 r1 p1 => ?_⟩
  obtain ⟨k, ek, p2⟩ := PostG.bindO p1
  refine ⟨k, truth_ok w1 r1 ek, ?_⟩
  cases k with
  | true => exact ⟨μ1, ρ, S1, hw.ext e1 w1, p2⟩
  | false => exact PostG.here p2 w1 r1
theorem rd_or {ea eb : EvE} (σ : St) (H : Hp) (Q : VK) (h : rdE (cfx X fa ca) W (eOr ea eb) σ H Q) : tOrT X.K (rdE (cfx X fa ca) W ea) (rdE (cfx X fa ca) W eb) σ H Q := by
  obtain ⟨μ, ρ, S, hw, hp⟩ := h
  refine ⟨μ, ρ, S, hw, PostG.bind hp fun d S1 v H1 μ1 e1 w1 r1 p1 => ?_⟩
  obtain ⟨k, ek, p2⟩ := PostG.bindO p1
  refine ⟨k, truth_ok w1 r1 ek, ?_⟩
  cases k with
  | false => exact ⟨μ1, ρ, S1, hw.ext e1 w1, p2⟩
  | true => exact PostG.here p2 w1 r1
theorem ok_and {a b : Expr} {rest : List Expr} {ea eb : EvE} {pos : Pos} (ha : PE X a (rdE (cfx X fa ca) W ea)) (hb : PE X (.BoolOp .And (b :: rest) pos) (rdE (cfx X fa ca) W eb)) : PE X (.BoolOp .And (a :: b :: rest) pos) (rdE (cfx X fa ca) W (eAnd ea eb)) :=
  PE.mono (pe_andT ha hb) fun σ H Q h => rd_and σ H Q h
theorem ok_or {a b : Expr} {rest : List Expr} {ea eb : EvE} {pos : Pos} (ha : PE X a (rdE (cfx X fa ca) W ea)) (hb : PE X (.BoolOp .Or (b :: rest) pos) (rdE (cfx X fa ca) W eb)) : PE X (.BoolOp .Or (a :: b :: rest) pos) (rdE (cfx X fa ca) W (eOr ea eb)) :=
  PE.mono (pe_orT ha hb) fun σ H Q h => rd_or σ H Q h
theorem ok_not {a : Expr} {ea : EvE} {pos : Pos} (ha : PE X a (rdE (cfx X fa ca) W ea)) : PE X (.UnaryOp .Not a pos) (rdE (cfx X fa ca) W (eNot ea)) :=
  PE.mono (pe_notT ha) fun σ H Q ⟨μ, ρ, S, hw, hp⟩ => ⟨μ, ρ, S, hw, PostG.bind hp fun d S1 v H1 μ1 e1 w1 r1 p1 => by
    obtain ⟨k, ek, p2⟩ := PostG.bindO p1
    exact ⟨k, truth_ok w1 r1 ek, PostG.here p2 w1 (.bl _)⟩⟩
theorem ok_ife {c a b : Expr} {ec : EvB} {ea eb : EvE} {pos : Pos} (hc : PT X c (rdB (cfx X fa ca) W ec)) (ha : PE X a (rdE (cfx X fa ca) W ea)) (hb : PE X b (rdE (cfx X fa ca) W eb)) : PE X (.IfExp c a b pos) (rdE (cfx X fa ca) W (eIfe ec ea eb)) :=
  PE.mono (pe_ifExp hc ha hb) fun σ H Q ⟨μ, ρ, S, hw, hp⟩ => ⟨μ, ρ, S, hw, PostG.bind hp fun t S1 k H1 μ1 e1 w1 r1 p1 => by
    cases r1
    cases t with
    | true => exact ⟨μ1, ρ, S1, hw.ext e1 w1, p1⟩
    | false => exact ⟨μ1, ρ, S1, hw.ext e1 w1, p1⟩⟩
/-- .. as tests -/
structure PWt (X : Cx) (e : Expr) (t : TT) : Prop where
  run : PW X e t
theorem PW.mono {e : Expr} {t t' : TT} (h : PW X e t) (i : ∀ σ H Q, t' σ H Q → t σ H Q) : PW X e t' := ⟨fun wh pins s σ H Q I hw => h.run wh pins s σ H Q I (i _ _ _ hw)⟩
theorem ok_andB {a b : Expr} {rest : List Expr} {ea eb : EvB} {pos : Pos} (ha : PT X a (rdB (cfx X fa ca) W ea)) (hb : PW X (.BoolOp .And (b :: rest) pos) (rdB (cfx X fa ca) W eb)) : PW X (.BoolOp .And (a :: b :: rest) pos) (rdB (cfx X fa ca) W (bAnd ea eb)) :=
  PW.mono (pw_and ha hb) fun σ H Q ⟨μ, ρ, S, hw, hp⟩ => ⟨μ, ρ, S, hw, PostG.bind hp fun t S1 k H1 μ1 e1 w1 r1 p1 => by
    cases r1
    cases t with
    | true => exact ⟨μ1, ρ, S1, hw.ext e1 w1, p1⟩
    | false => exact PostG.here p1 w1 rfl⟩
theorem ok_orB {a b : Expr} {rest : List Expr} {ea eb : EvB} {pos : Pos} (ha : PT X a (rdB (cfx X fa ca) W ea)) (hb : PW X (.BoolOp .Or (b :: rest) pos) (rdB (cfx X fa ca) W eb)) : PW X (.BoolOp .Or (a :: b :: rest) pos) (rdB (cfx X fa ca) W (bOr ea eb)) :=
  PW.mono (pw_or ha hb) fun σ H Q ⟨μ, ρ, S, hw, hp⟩ => ⟨μ, ρ, S, hw, PostG.bind hp fun t S1 k H1 μ1 e1 w1 r1 p1 => by
    cases r1
    cases t with
    | false => exact ⟨μ1, ρ, S1, hw.ext e1 w1, p1⟩
    | true => exact PostG.here p1 w1 rfl⟩
theorem ok_notB {a : Expr} {ea : EvB} {pos : Pos} (ha : PT X a (rdB (cfx X fa ca) W ea)) : PT X (.UnaryOp .Not a pos) (rdB (cfx X fa ca) W (bNot ea)) :=
  PT.mono (pt_not ha) fun σ H Q ⟨μ, ρ, S, hw, hp⟩ => ⟨μ, ρ, S, hw, PostG.bind hp fun t S1 k H1 μ1 e1 w1 r1 p1 => by
    cases r1
    exact PostG.here p1 w1 rfl⟩
theorem pt_ifExp {c a b : Expr} {tc ta tb : TT} {pos : Pos} (hc : PT X c tc) (ha : PT X a ta) (hb : PT X b tb) : PT X (.IfExp c a b pos) (fun σ H Q => tc σ H fun k H1 => if k = true then ta σ H1 Q else tb σ H1 Q) := by
  refine ⟨fun pins s σ H Q I h => ?_⟩
  show wpAny _ _ (do if ← isTrue c X.env (eval c X.env) then isTrue a X.env (eval a X.env) else isTrue b X.env (eval b X.env)) _ _ _
  refine wpAny_bind (thn (hc.run pins s σ H _ I h) fun d s1 ⟨H1, I1, q1⟩ => ?_)
  cases d with
  | true => exact ha.run pins s1 σ H1 Q I1 q1
  | false => exact hb.run pins s1 σ H1 Q I1 q1
theorem ok_ifeB {c a b : Expr} {ec ea eb : EvB} {pos : Pos} (hc : PT X c (rdB (cfx X fa ca) W ec)) (ha : PT X a (rdB (cfx X fa ca) W ea)) (hb : PT X b (rdB (cfx X fa ca) W eb)) : PT X (.IfExp c a b pos) (rdB (cfx X fa ca) W (bIfe ec ea eb)) :=
  PT.mono (pt_ifExp hc ha hb) fun σ H Q ⟨μ, ρ, S, hw, hp⟩ => ⟨μ, ρ, S, hw, PostG.bind hp fun t S1 k H1 μ1 e1 w1 r1 p1 => by
    cases r1
    cases t with
    | true => exact ⟨μ1, ρ, S1, hw.ext e1 w1, p1⟩
    | false => exact ⟨μ1, ρ, S1, hw.ext e1 w1, p1⟩⟩

/-! ### lists of expressions, displays -/
theorem oks_nil : PA X [] (rdEs (cfx X fa ca) W esNil) := PA.mono pa_nil fun σ H Q ⟨μ, ρ, S, hw, hp⟩ => PostG.here hp hw.wf .nil
theorem rd_cons {ea : EvE} {eb : EvEs} (σ : St) (H : Hp) (Q : List V → Hp → Prop) (h : rdEs (cfx X fa ca) W (esCons ea eb) σ H Q) : tCons (rdE (cfx X fa ca) W ea) (rdEs (cfx X fa ca) W eb) σ H Q := by
  obtain ⟨μ, ρ, S, hw, hp⟩ := h
  refine ⟨μ, ρ, S, hw, PostG.bind hp fun a S1 x H1 μ1 e1 w1 r1 p1 => ?_⟩
  refine ⟨μ1, ρ, S1, hw.ext e1 w1, PostG.bind p1 fun as S2 xs H2 μ2 e2 w2 r2 p2 => ?_⟩
  exact PostG.here p2 w2 (.cons (r1.ext w1 e2) r2)
theorem oks_cons {e : Expr} {es : List Expr} {ea : EvE} {eb : EvEs} (hs : starEach (e :: es) X.env = (false, eval e X.env) :: starEach es X.env) (ha : PE X e (rdE (cfx X fa ca) W ea)) (hb : PA X es (rdEs (cfx X fa ca) W eb)) : PA X (e :: es) (rdEs (cfx X fa ca) W (esCons ea eb)) :=
  PA.mono (pa_cons ha hb hs) fun σ H Q h => rd_cons σ H Q h
theorem ok_tup {es : List Expr} {ev : EvEs} {k : Nat} {pos : Pos} (h : PA X es (rdEs (cfx X fa ca) W ev)) : PE X (.Tuple es k pos) (rdE (cfx X fa ca) W (eTup ev)) :=
  PE.mono (pe_tup h) fun σ H Q ⟨μ, ρ, S, hw, hp⟩ => ⟨μ, ρ, S, hw, PostG.bind hp fun as S1 xs H1 μ1 e1 w1 r1 p1 => by
    obtain ⟨g, p2⟩ := PostG.guard p1
    refine ⟨by rw [r1.length]; exact lenOk_le g, fun p hn => ?_⟩
    exact p2 _ _ μ1 (Ext.new hn) (w1.new hn) (.tup (SqT.of upd_same) (r1.ext w1 (Ext.new hn)))⟩
theorem ok_lst {es : List Expr} {ev : EvEs} {pos : Pos} (h : PA X es (rdEs (cfx X fa ca) W ev)) : PE X (.List es pos) (rdF (cfx X fa ca) W (eLst ev)) :=
  PE.mono (pe_lst h) fun σ H Q ⟨μ, ρ, S, hw, hp⟩ => ⟨μ, ρ, S, hw, PostF.bind hp fun as S1 xs H1 μ1 e1 w1 r1 p1 => by
    cases g : lenOk as.length with
    | false => rw [g] at p1; exact p1.elim
    | true =>
      rw [g] at p1
      exact ⟨by rw [r1.length]; exact lenOk_le g, fun p hn => p1 xs p H1 μ1 .refl w1 r1 hn⟩⟩
theorem ok_dct0 {pos : Pos} : PE X (.Dict [] [] pos) (rdE (cfx X fa ca) W (eDct0 false)) :=
  PE.mono pe_dnewK fun σ H Q ⟨μ, ρ, S, hw, hp⟩ p hn => by
    refine hp (.ref p) _ (μ ++ [p]) (Ext.newC hn) (hw.wf.newC hn ⟨[], upd_same, rfl, .nil⟩) (.cell ?_)
    rw [List.getElem?_append_right (by rw [hw.wf.len]; exact Nat.le_refl _), hw.wf.len, Nat.sub_self]; rfl

/-! ### parts -/
theorem atI_rel {K : PySem.W.Frag} {μ : List Addr} {H : Hp} {ds : List PyData} {vs : List V} {i : Int} {d : PyData} (r : RelDs K fa μ H ds vs) (h : atI ds i = some d) : ∃ v, atI vs i = some v ∧ RelD K fa μ H d v := by
  unfold atI at h ⊢
  rw [r.length]
  cases e : ixN ds.length i with
  | none => rw [e] at h; cases h
  | some j =>
    rw [e] at h
    exact r.get h
theorem ix_dict (hu : X.A.units + 1 < cLine) : IxR X (fun x y H Q => ∃ a v, x = .ref a ∧ DGet H a y (some v) ∧ Q v H) := by
  intro value slice pins s σ H x y v u Q I rx ry h hs
  obtain ⟨a, z, rfl, g, q⟩ := h
  cases rx
  exact tail_any (dict_typeIs I g) PySem.F.slot_dict_getitem.lookup (d_getItem hu I g ry fun w' s3 I3 rw' => ⟨z, H, I3, rw', q⟩) hs
/-- a value that is there already may come -/
def rel2E (X : Cx) (fa : Fa) (ca : Nat → Option Addr) (W : WX) (g : Store → PyData → PyData → Option PyData) : R2 := fun x y H Q => ∃ (σ0 : St) (μ : List Addr) (S : Store) (a b : PyData), Wf X.K fa μ S H ∧ RelD X.K fa μ H a x ∧ RelD X.K fa μ H b y ∧ PostE (cfx X fa ca) W σ0 μ H Q (ofO (g S a b) S)
theorem rd_twoE {ea eb : EvE} {g : Store → PyData → PyData → Option PyData} (σ : St) (H : Hp) (Q : VK) (h : rdE (cfx X fa ca) W (fun ρ S => (ea ρ S).bind fun x S1 => (eb ρ S1).bind fun y S2 => ofO (g S2 x y) S2) σ H Q) :
    tOp (rel2E X fa ca W g) (rdE (cfx X fa ca) W ea) (rdE (cfx X fa ca) W eb) σ H Q := by
  obtain ⟨μ, ρ, S, hw, hp⟩ := h
  refine ⟨μ, ρ, S, hw, PostG.bind hp fun a S1 x H1 μ1 e1 w1 r1 p1 => ?_⟩
  refine ⟨μ1, ρ, S1, hw.ext e1 w1, PostG.bind p1 fun b S2 y H2 μ2 e2 w2 r2 p2 => ?_⟩
  exact ⟨σ, μ2, S2, a, b, w2, r1.ext w1 e2, r2, p2⟩
theorem sub_ok (hu : X.A.units + 1 < cLine) : IxR X (rel2E X fa ca W subD) := by
  intro value slice pins s σ H x y v u Q I rx ry ⟨σ0, μ, S, a, b, w, ra, rb, h⟩ hs
  obtain ⟨d, e, h⟩ := PostG.ofO h
  have fin : ∀ {z : V}, RelD X.K fa μ H d z → Q z H := fun r => PostG.here h w r
  unfold subD at e
  split at e
  · -- a text
    rename_i z k
    cases ra; cases rb
    split at e
    · rename_i hz
      obtain ⟨c, e1, rfl⟩ := Option.map_eq_some_iff.mp e
      exact ix_str value slice pins s σ H _ _ v u Q I rx ry ⟨z, k, c, rfl, rfl, lenOk_le hz, e1, fin (.str _)⟩ hs
    · cases e
  · -- a cell
    rename_i c
    split at e
    · rename_i ds k e1
      cases ra with
      | cell hc =>
        obtain ⟨xs, e2, r1⟩ := w.cells _ _ _ hc e1
        cases rb
        obtain ⟨y', h1, h2⟩ := atI_rel r1 e
        exact ix_list value slice pins s σ H _ _ v u Q I rx ry ⟨_, xs, k, y', rfl, rfl, SqL.of e2, h1, fin h2⟩ hs
    · rename_i t ks vs e1
      split at e
      · rename_i hk
        obtain ⟨p, r, rfl, g, hr⟩ := dct_get w rb ra e1 hk
        rw [e] at hr
        obtain ⟨z, rfl, h2⟩ := hr
        exact ix_dict hu value slice pins s σ H _ y v u Q I rx ry ⟨p, z, rfl, g, fin h2⟩ hs
      · cases e
    · cases e
  · cases ra with
    | tup hq r1 =>
      cases rb
      obtain ⟨y', h1, h2⟩ := atI_rel r1 e
      exact ix_tup value slice pins s σ H _ _ v u Q I rx ry ⟨_, _, _, y', rfl, rfl, hq, h1, fin h2⟩ hs
  · cases ra with
    | lst hq _ _ r1 =>
      cases rb
      obtain ⟨y', h1, h2⟩ := atI_rel r1 e
      exact ix_list value slice pins s σ H _ _ v u Q I rx ry ⟨_, _, _, y', rfl, rfl, SqL.of hq, h1, fin h2⟩ hs
  · cases e
theorem ok_sub {a b : Expr} {ea eb : EvE} {pos : Pos} (hu : X.A.units + 1 < cLine) (hs : PlainIx b) (ha : PE X a (rdE (cfx X fa ca) W ea)) (hb : PE X b (rdE (cfx X fa ca) W eb)) : PE X (.Subscript a b pos) (rdE (cfx X fa ca) W (eSub ea eb)) :=
  PE.mono (pe_ix (sub_ok hu) ha hb hs) fun σ H Q h => rd_twoE σ H Q h

/-! ### slices -/
theorem po_ok_none : PO X none (rdP (cfx X fa ca) W pNil) := ⟨fun pins s σ H Q I ⟨μ, ρ, S, hw, hp⟩ => po_none.run pins s σ H Q I (PostG.here hp hw.wf rfl)⟩
theorem po_ok_some {e : Expr} {ev : EvE} (h : PE X e (rdE (cfx X fa ca) W ev)) : PO X (some e) (rdP (cfx X fa ca) W (pOf ev)) := ⟨fun pins s σ H Q I ⟨μ, ρ, S, hw, hp⟩ => (po_some h).run pins s σ H Q I
  ⟨μ, ρ, S, hw, PostG.bind hp fun d S1 v H1 μ1 e1 w1 r1 p1 => by
    obtain ⟨o, eo, p2⟩ := PostG.ofO p1
    unfold intD at eo
    split at eo
    · cases eo
      cases r1
      exact ⟨_, rfl, PostG.here p2 w1 rfl⟩
    · cases eo⟩⟩
theorem cut_rel {K : PySem.W.Frag} {μ : List Addr} {H : Hp} {ds : List PyData} {vs : List V} (r : RelDs K fa μ H ds vs) (lo hi : Option Int) : RelDs K fa μ H (cutD ds lo hi) (cutV vs lo hi) := by
  unfold cutD cutV
  rw [r.length]
  exact (r.drop _).take _
theorem cut_whole {ds : List PyData} {lo hi : Option Int} (h : HT.sIx ds.length 0 lo = 0 ∧ HT.sIx ds.length ds.length hi = ds.length) : cutD ds lo hi = ds := by
  unfold cutD
  rw [h.1, h.2, List.drop_zero, Nat.sub_zero, List.take_length]
def rel3S (X : Cx) (fa : Fa) (ca : Nat → Option Addr) (W : WX) : V → Option Int → Option Int → Hp → VK → Prop := fun x lo hi H Q => ∃ (σ0 : St) (μ : List Addr) (S : Store) (a : PyData), Wf X.K fa μ S H ∧ RelD X.K fa μ H a x ∧ PostF (cfx X fa ca) W σ0 μ H Q (ofO (slcD S a lo hi) S)
theorem slc_ok : SlR X (rel3S X fa ca W) := by
  intro pins s σ H x v vl vu lo hi sl Q I rx hs pl pu ⟨σ0, μ, S, a, w, ra, h⟩
  unfold slcD at h
  split at h
  · -- a tuple
    cases ra with
    | tup hq r1 =>
      rename_i ds p xs
      refine sl_tupA pins s σ H _ v vl vu lo hi sl Q I rx hs pl pu ⟨p, xs, rfl, hq, fun e => ?_, fun _ q hn => fin_tup (C := cfx X fa ca) h w (cut_rel r1 lo hi) hn⟩
      rw [r1.length] at e
      rw [cut_whole e] at h
      exact hereF (C := cfx X fa ca) (d := .tuple ds) h w (.tup hq r1)
  · -- a text
    rename_i z
    cases ra
    split at h
    · rename_i hz
      exact sl_str pins s σ H _ v vl vu lo hi sl Q I rx hs pl pu ⟨z, rfl, lenOk_le hz, hereF (C := cfx X fa ca) (d := .str _) h w (.str _)⟩
    · exact h.elim
  · rename_i n1 n2
    cases e : itemsOf S a with
    | none => rw [e] at h; exact h.elim
    | some ds =>
      rw [e] at h
      obtain ⟨p, xs, rfl, r1, ⟨hl, _⟩ | ⟨_, e2⟩⟩ := items_ok w ra e
      · exact sl_list pins s σ H _ v vl vu lo hi sl Q I rx hs pl pu ⟨p, xs, rfl, SqL.of hl, fun q hn => fin_lst (C := cfx X fa ca) h w (cut_rel r1 lo hi) hn⟩
      · exact (n1 _ e2).elim
theorem ok_slc {a : Expr} {lo hi : Option Expr} {ea : EvE} {el eh : EvP} {p2 pos : Pos} (ha : PE X a (rdE (cfx X fa ca) W ea)) (hl : PO X lo (rdP (cfx X fa ca) W el)) (hh : PO X hi (rdP (cfx X fa ca) W eh)) :
    PE X (.Subscript a (.Slice lo hi none p2) pos) (rdF (cfx X fa ca) W (eSlc ea el eh)) :=
  PE.mono (pe_slice slc_ok ha hl hh) fun σ H Q ⟨μ, ρ, S, hw, hp⟩ => by
    refine ⟨μ, ρ, S, hw, PostF.bind hp fun a S1 x H1 μ1 e1 w1 r1 p1 => ?_⟩
    refine ⟨μ1, ρ, S1, hw.ext e1 w1, PostF.bind p1 fun l S2 l' H2 μ2 e2 w2 r2 p2 => ?_⟩
    cases r2
    refine ⟨μ2, ρ, S2, (hw.ext e1 w1).ext e2 w2, PostF.bind p2 fun h S3 h' H3 μ3 e3 w3 r3 p3 => ?_⟩
    cases r3
    exact ⟨σ, μ3, S3, a, w3, (r1.ext w1 e2).ext w2 e3, p3⟩
end
end Mk

set_option Elab.async false
set_option linter.all false
set_option maxRecDepth 100000
set_option maxHeartbeats 2000000
/-! MkQ: a def's promise where no container is being shown (so that repr may be asked for). -/
namespace Mk
open PySem PySem.Spec PyProof.Rows L2
/-- the promise, asked for only where no guard stands -/
structure FnG (P : Program) (w : World) (K : PySem.W.Frag) (mg : Str → Option Value) (base : Heap)
    (CX : CXT) (k : Nat) (f : Addr) (fd : FuncData) (ps : List Str) (sp : Sp) : Prop where
  len : ∀ vs H Q E, sp vs H Q E → vs.length = ps.length
  run : ∀ (A : Around) (outer : List PySem.Env) (s : Shared) (H : Hp) (args : Args) (us : List Value)
    (vs : List V) (Q : VK) (E : XK), A.guards = some [] → Room k A → Env0 P w K mg base A outer s H →
      BindsTo s fd args (ps.zip us) → Vals vs us → sp vs H Q E →
        codeAny (model P w) A (.call (.ref f) args) (CR CX outer P w H s Q E) s
section
variable {P : Program} {w : World} {K : PySem.W.Frag} {mg : Str → Option Value} {base : Heap}
  {CX : CXT} {k : Nat} {f : Addr} {fd : FuncData} {ps : List Str} {sp sp' : Sp}
theorem FnG.imp (F : FnG P w K mg base CX k f fd ps sp) (h : ∀ vs H Q E, sp' vs H Q E → sp vs H Q E) :
    FnG P w K mg base CX k f fd ps sp' where
  len vs H Q E q := F.len vs H Q E (h _ _ _ _ q)
  run A outer s H args us vs Q E g hr he hb hv hs := F.run A outer s H args us vs Q E g hr he hb hv (h _ _ _ _ hs)
/-- by the body, as fn_of, the guards told -/
theorem fnG_of {name qual : Str} {params : Arguments} {body : List Stmt} {scope : Scope}
    {dV kV doc pm cdv ct oc : Value} {an od : Option Addr} {osl : Array (Option Value)} {N : List Str}
    (hK : K.lookup f = some ⟨oc, od, .func (PySem.W.fnOf name qual params body scope dV kV doc pm an cdv ct), osl⟩)
    (hC : PySem.W.codeIn K cdv qual = true) (Z : FnScope N ps scope)
    (len : ∀ vs H Q E, sp vs H Q E → vs.length = ps.length)
    (bd : ∀ (A : Around) (outer : List PySem.Env) (s : Shared) (H : Hp) (vs : List V) (Q : VK) (E : XK),
      A.guards = some [] → Room k (A.deeper (envOfC qual scope s.heap.objs.size f cdv)) → sp vs H Q E →
      ∃ t, PSs (cxOf CX P w K mg base N qual scope f cdv A outer s H E) body t ∧
        t { nx := fun _ H' => Q .non H', rt := Q } (start N vs) H) :
    FnG P w K mg base CX (k + 1) f (PySem.W.fnOf name qual params body scope dV kV doc pm an cdv ct) ps sp := by
  refine ⟨len, ?_⟩
  intro A outer s H args us vs Q E hg hr e0 hb r hsp
  have hlen := len _ _ _ _ hsp
  have inK : K.In s.heap := e0.mod.kin.keeps fun b o e =>
    (e0.bs b o e).1
  have noL : s.heap.NoLimit := e0.mod.nolimit.keeps fun b o e =>
    (e0.bs b o e).1
  have hpar : ∀ y ∈ ps.zip us, scope.names.lookup y.1 = some .local ∨
      (scope.names.lookup y.1 = some .cell ∧
        ((cellsFrom (s.heap.objs.size + 1) scope.names []).lookup y.1).isSome = true) := by
    intro ⟨n, v⟩ hy
    cases Z.par n (List.of_mem_zip hy).1 with
    | inl q => exact .inl q
    | inr q => exact .inr ⟨q, PySem.W.cellsFrom_some _ _ _ (.inl q)⟩
  refine codeAny_call_function hr.depth (inK _ _ hK) rfl Z.co Z.gen rfl
    (PySem.W.codeRec_of inK hC) (hb _ _ _ _ ?_)
  refine wpAny_newFunctionEnv_cells Z.kind hpar ?_
  intro env he s1 x
  subst he
  refine ⟨noL.keeps x.toInCall.keep, codeAny_func ?_⟩
  obtain ⟨t, ht, hq⟩ := bd A outer s H vs Q E hg (hr.deeper _) hsp
  have J0 := inv_start (CX := CX) (E := E) Z hr.hd e0 hlen r x
  refine wpAny_mono (ht.run [] s1 (start N vs) H _ J0 hq) ?_ (fun e s' hs => hs)
  intro fl s' hs
  cases fl with
  | ret u =>
    obtain ⟨v, σ', H', J, rv, q⟩ := hs
    exact ⟨v, H', J.os, J.bare, J.base, J.hok, rv, q⟩
  | next =>
    obtain ⟨σ', H', J, q⟩ := hs
    exact ⟨V.non, H', J.os, J.bare, J.base, J.hok, rfl, q⟩
  | brk =>
    obtain ⟨_, _, _, q⟩ := hs
    cases q
  | cont =>
    obtain ⟨_, _, _, q⟩ := hs
    cases q
theorem FunD.okG {x qual : Str} {params : Arguments} {body : List Stmt} {scope : Scope} {dvs : List V}
    {kws : List (Str × V)} {N : List Str} (F : FunD K x qual params body scope dvs kws f fd) (Z : FnScope N ps scope)
    (len : ∀ vs H Q E, sp vs H Q E → vs.length = ps.length)
    (bd : ∀ (cdv : Value) (A : Around) (outer : List PySem.Env) (s : Shared) (H : Hp) (vs : List V) (Q : VK) (E : XK),
      A.guards = some [] → Room k (A.deeper (envOfC qual scope s.heap.objs.size f cdv)) → sp vs H Q E →
      ∃ t, PSs (cxOf CX P w K mg base N qual scope f cdv A outer s H E) body t ∧
        t { nx := fun _ H' => Q .non H', rt := Q } (start N vs) H) :
    FnG P w K mg base CX (k + 1) f fd ps sp := by
  obtain ⟨oc, od, dV, kV, doc, pm, an, cdv, ct, osl, rfl, hK, hC, _, _⟩ := F.ex
  exact fnG_of hK hC Z len (bd cdv)
end
section
variable {X : Cx} {CX : CXT} {k : Nat} {f : Addr} {fd : FuncData} {ps : List Str} {sp : Sp} {E : St → XK}
/-- a call of it -/
theorem run_fnG {pins : List (Addr × Obj)} {σ : St} {H : Hp} {s : Shared} {Q : VK} {us : List Value} {vs : List V}
    (F : FnG X.prog X.w X.K X.mg X.base CX k f fd ps sp) (hg : X.A.guards = some []) (hr : Room k X.A)
    (hb : Binds X.K fd ps []) (hx : PassesAt CX X σ (E σ)) (I : Inv X pins σ H s) (r : Vals vs us)
    (h : sp vs H Q (E σ)) : wpAny (model X.prog X.w) X.A (call (.ref f) us) (EP X pins σ Q) X.xe s := by
  have hn : (us ++ []).length = ps.length := by
    rw [List.append_nil, ← r.length]; exact F.len _ _ _ _ h
  have b := hb s us I.kIn hn
  rw [List.append_nil] at b
  have go := F.run X.A X.stack s H ⟨us, []⟩ us vs Q (E σ) hg hr I.env0 b r h
  refine wpAny_call (codeAny_mono go ?_)
  intro r s' hq
  match r, hq with
  | .error e, hq => exact hx pins H s e s' I hq
  | .ok (.ret u), hq => exact I.after hq
  | .ok .next, hq => exact False.elim hq
  | .ok .brk, hq => exact False.elim hq
  | .ok .cont, hq => exact False.elim hq
end
/-- the law's own call, from the caller of all, where the promise wants no guard -/
theorem law_callG {P : Program} {w : World} {K : PySem.W.Frag} {mg mb : Str → Option Value} {CX : CXT} {k : Nat}
    {fa a : Addr} {fd : FuncData} {x : Str} {sp : Sp} {s1 : Shared} {vs : List Value} {ns : List Int}
    (KX : K.In s1.heap) (gN : s1.heap.Ns mainGlobals mg) (bN : s1.heap.Ns builtinsNs mb)
    (bB : ∀ x : Str, x ≠ "__name__" → mb x = bootBuiltins x) (noL : s1.heap.NoLimit) (hg : s1.gens = #[])
    (ha : s1.heap.get? a = some { cls := .type "list", data := .seq vs.toArray }) (hi : IntsAre vs ns)
    (hl : ns.length ≤ sizeLine) (hr : Room k callerA)
    (F : ∀ base : Heap, K.In base → base.Ns mainGlobals mg → FnG P w K mg base CX k fa fd [x] sp)
    (bd : ∀ (s : Shared) (u : Value), BindsTo s fd ⟨[u], []⟩ [(x, u)])
    (hsp : ∀ H : Hp, Only H → SqL K H a (ns.map V.int) → sp [.ref a] H (fun v _ => v = .bl true) fun _ _ _ => False)
    (hCX : ∀ H e s', CX [] H s1 (fun _ _ _ => False) e s' → False) :
    codeAny (model P w) callerA (.call (.ref fa) ⟨[.ref a], []⟩)
      (fun r s' => r = .ok (.ret (.bool true)) ∧ OldK s1.heap s'.heap ∧ s'.os = s1.os ∧ AllBare s'.gens) s1 := by
  have rv := vals_ints hi
  have nV := hi.length
  have main : ∀ H : Hp, Only H → SqL K H a (ns.map V.int) → HOk P w H s1.heap →
      (∀ b, H b ≠ none → b = a) → (H a ≠ none → K.lookup a = none) →
      codeAny (model P w) callerA (.call (.ref fa) ⟨[.ref a], []⟩)
        (fun r s' => r = .ok (.ret (.bool true)) ∧ OldK s1.heap s'.heap ∧ s'.os = s1.os ∧ AllBare s'.gens) s1 := by
    intro H hO hS hok only notK
    -- what is no list of the script's is seen in the base
    have hide : ∀ {b : Addr} {o : Obj}, s1.heap.get? b = some o → H b = none → (hidT s1.heap H).get? b = some o :=
      fun e n => hidT_get e n
    have dictFree : ∀ {b : Addr} {o : Obj} {es : Array DictEntry} {ep : Nat}, s1.heap.get? b = some o →
        o.data = .dict es ep → H b = none := by
      intro b o es ep e d
      by_cases q : H b = none
      · exact q
      · obtain rfl := only b q
        rw [ha] at e
        cases e
        exact absurd d (by intro z; cases z)
    have nsBase : ∀ {b : Addr} {m : Str → Option Value}, s1.heap.Ns b m → (hidT s1.heap H).Ns b m := by
      intro b m ⟨o, es, ep, e, d, r⟩
      exact ⟨o, es, ep, hide e (dictFree e d), d, r⟩
    have inB : K.In (hidT s1.heap H) := by
      intro b o e
      refine hide (KX b o e) ?_
      by_cases q : H b = none
      · exact q
      · obtain rfl := only b q
        rw [notK q] at e
        cases e
    have md : Mod K mg (hidT s1.heap H) := by
      obtain ⟨mc, h1, h2⟩ := noL
      exact ⟨inB, nsBase gN, ⟨mb, nsBase bN, bB⟩, mc, nsBase h1, h2⟩
    have e0 : Env0 P w K mg (hidT s1.heap H) callerA [] s1 H :=
      { frames := rfl, mod := md, bs := fun b o e => of_hidT e, bsz := Nat.le_of_eq (hidT_size _ _), funs := trivial,
        frf := fun b hb => (List.not_mem_nil (show b ∈ ([] : List Addr) from hb)).elim, hok := hok, bare := .of_eq hg }
    have go := (F _ inB (nsBase gN)).run callerA [] s1 H ⟨[.ref a], []⟩ [.ref a] [.ref a] _ _ rfl hr e0
      (bd s1 (.ref a)) (.cons rfl .nil) (hsp H hO hS)
    refine codeAny_mono go ?_
    intro r s' h
    match r, h with
    | .error e, h => exact (hCX H e s' h).elim
    | .ok .next, h => exact False.elim h
    | .ok .brk, h => exact False.elim h
    | .ok .cont, h => exact False.elim h
    | .ok (.ret u), h =>
      obtain ⟨v, H', os, bare, un, hok', r', q⟩ := h
      cases (show v = .bl true from q)
      obtain rfl : u = Value.bool true := r'
      refine ⟨rfl, OldK.of_keep ?_, os, bare⟩
      intro b o e
      cases q : H b with
      | none =>
        refine un.keep b o e q ?_ (by simp)
        intro z
        have z' : b ∈ ([] : List Addr) := z
        cases z'
      | some u =>
        rcases hO b with z | ⟨ob, xs, z⟩
        · rw [q] at z; cases z
        · have z2 := un.frzs b ob _ z
          have o1 := (hok b _ z).1
          have o2 := (hok' b _ z2).1
          rw [e] at o1
          cases o1
          exact o2
  cases hk : K.lookup a with
  | some o =>
    have e := KX a o hk
    rw [ha] at e
    cases e
    refine main (fun _ => none) (fun _ => .inl rfl) (.inr ⟨_, vs.toArray, _, hk, rfl, rfl, rfl, ?_, by simpa using rv⟩) ?_ ?_ ?_
    · rw [List.size_toArray, nV]; exact hl
    · intro b u z; cases (show (none : Option HO) = some u from z)
    · intro b z; exact absurd rfl z
    · intro z; exact absurd rfl z
  | none =>
    have at_ : ∀ b, b = a → (if b = a then some (HO.frz { cls := .type "list", data := .seq vs.toArray } (.lst (ns.map V.int))) else none) = some (HO.frz { cls := .type "list", data := .seq vs.toArray } (.lst (ns.map V.int))) := fun b hb => if_pos hb
    have off : ∀ b, ¬ b = a → (if b = a then some (HO.frz { cls := .type "list", data := .seq vs.toArray } (.lst (ns.map V.int))) else none) = none := fun b hb => if_neg hb
    refine main (fun b => if b = a then some (.frz { cls := .type "list", data := .seq vs.toArray } (.lst (ns.map V.int))) else none) ?_ (.inl (.inr ⟨_, at_ a rfl⟩)) ?_ ?_ (fun _ => hk)
    · intro b
      by_cases hb : b = a
      · exact .inr ⟨_, _, at_ b hb⟩
      · exact .inl (off b hb)
    · intro b u z
      by_cases hb : b = a
      · have z' := (at_ b hb).symm.trans z
        cases z'
        subst hb
        exact ⟨ha, by rw [List.length_map]; exact hl, vs, _, rv, ha⟩
      · cases (off b hb).symm.trans z
    · intro b z
      by_cases hb : b = a
      · exact hb
      · exact absurd (off b hb) z
/-- .. at the law's end -/
theorem walk_ofG {l : PySem.W.OpenLaw} {n k : Nat} {q : Program} {loose : List Str} {XP : (Str → Option Value) → Heap → Prop}
    {YP : World → Heap → Prop} {d : DefRec} {CX : CXT} {x : Str} (hn : l.most = some n) (hn2 : n ≤ sizeLine)
    (hdf : d.params.defaults = []) (hr : Room k callerA)
    (F : ∀ (w : World) (mg : Str → Option Value) (fa : Addr) (h : Heap), YP w h → h.Ns mainGlobals mg → mg d.name = some (.ref fa) →
      ∃ (K : PySem.W.Frag) (fd : FuncData) (sp : Sp), K.In h ∧
        (∀ (s : Shared) (u : Value), BindsTo s fd ⟨[u], []⟩ [(x, u)]) ∧
        (∀ (H : Hp) (a : Addr) (ns : List Int), ns.length ≤ n → Only H → SqL K H a (ns.map V.int) →
          sp [.ref a] H (fun v _ => v = .bl true) fun _ _ _ => False) ∧
        ∀ base : Heap, K.In base → base.Ns mainGlobals mg → FnG l.prog w K mg base CX k fa fd [x] sp)
    (hCX : ∀ (H : Hp) (s : Shared) (e : Value) (s' : Shared), CX [] H s (fun _ _ _ => False) e s' → False) :
    PySem.W.WalkO q loose XP YP l.row.toRowW d [] (fun f vs => PySem.call f vs) := by
  refine Att.attach_call hn hdf ?_
  intro w s0 s1 mg mb fa o pm cd doc a vs ns G Y ho hd hcd hmg hobj hints hlen hg
  obtain ⟨K, fd, sp, KX, hb, hsp, hF⟩ := F w mg fa _ Y G.T.g hmg
  have hns : ns.length ≤ sizeLine := Nat.le_trans hlen hn2
  exact law_callG KX G.T.g G.T.b G.T.builtins G.T.nolimit hg hobj hints hns hr hF hb
    (fun H hO hS => hsp H a ns hlen hO hS) fun H e s' => hCX H s1 e s'
end Mk

set_option Elab.async false
set_option linter.all false
set_option maxRecDepth 100000
/-! MkS3: calls of the text's own defs. -/
namespace Mk
open PySem PySem.Spec PyProof.Rows L2

/-- .. where these lists are being made -/
def Cf.hide (C : Cf) (hid : Addr → Prop) : Cf := ⟨C.K, ⟨C.fa.adr, hid⟩, C.ca⟩
/-- a def's promise: what the table's def f does -/
def spF (C : Cf) (cf : CF) (f : Nat) : Sp := fun vs H Q E => ∃ (hid : Addr → Prop) (μ : List Addr) (S : Store) (ds : List PyData), Wf C.K ⟨C.fa.adr, hid⟩ μ S H ∧ RelDs C.K ⟨C.fa.adr, hid⟩ μ H ds vs ∧ PostE (C.hide hid) (fun cls dx _ H' => E cls dx H') [] μ H Q (cf f ds S)
/-- the defs that may be called here -/
structure Tab (X : Cx) (C : Cf) (cf : CF) (nm : Nat → Option Str) (k : Nat) : Prop where
  fn : ∀ (f : Nat) (a : Addr), C.fa.adr f = some a → ∃ fd ps, FnG X.prog X.w X.K X.mg X.base (L2.CX X.prog X.w) k a fd ps (spF C cf f) ∧ PySem.W.keepIn X.K (.ref a) = true ∧ Binds X.K fd ps []
  mg : ∀ (f : Nat) (x : Str), nm f = some x → ∃ a, C.fa.adr f = some a ∧ X.mg x = some (.ref a)
  room : Room k X.A
  gd : X.A.guards = some []

theorem PostG.wish {α β : Type} {C : Cf} {Rl : List Addr → Hp → α → β → Prop} {W W' : WX} {σ σ' : St} {μ : List Addr} {H : Hp} {Q : β → Hp → Prop} {r : R α} (h : PostG C Rl W σ μ H Q r) (hw : ∀ cls dx H', W cls dx σ H' → W' cls dx σ' H') : PostG C Rl W' σ' μ H Q r := by
  cases r with
  | ok a S' => exact h
  | exc c S' => exact fun cls dx H' μ' e w x => hw _ _ _ (h cls dx H' μ' e w x)
  | stuck => exact h

/-! ### a call by itself -/
section
variable {K : PySem.W.Frag} {fa fb : Fa} {μ μ2 : List Addr} {H H2 : Hp}
mutual
theorem RelD.shut (hl : ∀ a xs, H a = some (.lst xs) → a ∉ μ → ¬ fa.hid a → H2 a = some (.lst xs) ∧ a ∉ μ2 ∧ ¬ fb.hid a) (ht : ∀ a xs, SqT K H a xs → SqT K H2 a xs) : ∀ {d : PyData} {v : V}, clD d = true → RelD K fa μ H d v → RelD K fb μ2 H2 d v
  | _, _, _, .non => .non
  | _, _, _, .bl b => .bl b
  | _, _, _, .int i => .int i
  | _, _, _, .str x => .str x
  | _, _, c, .tup h r => .tup (ht _ _ h) (RelDs.shut hl ht (by simpa [clD] using c) r)
  | _, _, c, .lst h q hh r => .lst (hl _ _ h q hh).1 (hl _ _ h q hh).2.1 (hl _ _ h q hh).2.2 (RelDs.shut hl ht (by simpa [clD] using c) r)
  | _, _, c, .cell _ => by simp [clD] at c
  | _, _, c, .fn _ => by simp [clD] at c
  | _, _, c, .lk _ _ => by simp [clD] at c
theorem RelDs.shut (hl : ∀ a xs, H a = some (.lst xs) → a ∉ μ → ¬ fa.hid a → H2 a = some (.lst xs) ∧ a ∉ μ2 ∧ ¬ fb.hid a) (ht : ∀ a xs, SqT K H a xs → SqT K H2 a xs) : ∀ {ds : List PyData} {vs : List V}, clDs ds = true → RelDs K fa μ H ds vs → RelDs K fb μ2 H2 ds vs
  | _, _, _, .nil => .nil
  | _, _, c, .cons h t => by
    rw [clDs, Bool.and_eq_true] at c
    exact .cons (RelD.shut hl ht c.1 h) (RelDs.shut hl ht c.2 t)
end
theorem RelD.shut0 (hl : ∀ a xs, H a = some (.lst xs) → a ∉ μ → ¬ fa.hid a → H2 a = some (.lst xs) ∧ a ∉ μ2 ∧ ¬ fb.hid a) (ht : ∀ a xs, SqT K H a xs → SqT K H2 a xs) (he : fa.adr = fb.adr) {d : PyData} {v : V} (h : blwD 0 d = true) (r : RelD K fa μ H d v) : RelD K fb μ2 H2 d v := by
  unfold blwD at h
  split at h
  · exact absurd (of_decide_eq_true h) (Nat.not_lt_zero _)
  · cases r with
    | fn hf => exact .fn (he ▸ hf)
  · exact r.shut hl ht h
theorem RelDs.shut0 (hl : ∀ a xs, H a = some (.lst xs) → a ∉ μ → ¬ fa.hid a → H2 a = some (.lst xs) ∧ a ∉ μ2 ∧ ¬ fb.hid a) (ht : ∀ a xs, SqT K H a xs → SqT K H2 a xs) (he : fa.adr = fb.adr) : ∀ {ds : List PyData} {vs : List V}, ds.all (blwD 0) = true → RelDs K fa μ H ds vs → RelDs K fb μ2 H2 ds vs
  | _, _, _, .nil => .nil
  | _, _, c, .cons h t => by
    rw [List.all_cons, Bool.and_eq_true] at c
    exact .cons (h.shut0 hl ht he c.1) (RelDs.shut0 hl ht he c.2 t)
end
/-- the caller's cells are hidden from such a call -/
theorem spF_callD {C : Cf} {cf : CF} {f : Nat} {σ : St} {μ : List Addr} {S : Store} {H : Hp} {ds : List PyData} {vs : List V} {Q : VK} {E : XK} (w : Wf C.K C.fa μ S H) (r : RelDs C.K C.fa μ H ds vs) (h : PostE C (fun cls dx _ H' => E cls dx H') σ μ H Q (callD cf f ds S)) : spF C cf f vs H Q E := by
  unfold callD at h
  split at h
  · rename_i hc
    have tt : ∀ {H' : Hp} {μ' : List Addr}, Ext C.fa [] H μ' H' → ∀ a xs, SqT C.K H a xs → SqT C.K H' a xs := fun {H' μ'} e a xs q => by
      rcases q with (q | ⟨o, q⟩) | q
      · exact .inl (.inl (e.keep _ _ q (by simp)))
      · exact .inl (.inr ⟨o, e.keep _ _ q (by simp)⟩)
      · exact .inr q
    refine ⟨fun b => C.fa.hid b ∨ b ∈ μ, [], [], ds, ⟨rfl, List.nodup_nil, fun k a c h1 => by simp at h1, fun b hb => ⟨by simp, ?_⟩⟩, RelDs.shut (fb := ⟨C.fa.adr, fun b => C.fa.hid b ∨ b ∈ μ⟩) (fun a xs q n hh => ⟨q, by simp, fun z => Or.elim z hh n⟩) (fun _ _ q => q) hc r, ?_⟩
    · rcases hb with hb | hb
      · exact (w.hd b hb).2
      · obtain ⟨k, c, _, _, ok⟩ := w.at hb
        obtain ⟨o, e, _⟩ := ok.some
        exact ⟨o, e⟩
    · -- what stands behind the call
      have back : ∀ {H' : Hp} {μ' : List Addr}, Ext C.fa [] H μ' H' → Ext C.fa μ H μ H' ∧ Wf C.K C.fa μ S H' := fun {H' μ'} e => by
        have e2 : Ext C.fa μ H μ H' := ⟨⟨[], by simp, fun _ z => nomatch z⟩, fun b o q _ => e.keep b o q (by simp), e.there⟩
        refine ⟨e2, w.len, w.nd, fun k a c h1 h2 => ?_, fun b hb => ⟨(w.hd b hb).1, ?_⟩⟩
        · have ok := w.cells k a c h1 h2
          obtain ⟨o, q, _⟩ := ok.some
          exact ok.ext w e2 ((e.keep _ _ q (by simp)).trans q.symm)
        · obtain ⟨_, o, q⟩ := w.hd b hb
          exact ⟨o, e.keep _ _ q (by simp)⟩
      cases hx : cf f ds [] with
      | ok d S' =>
        rw [hx] at h
        intro v H' μ' e w' r'
        have e' : Ext C.fa [] H μ' H' := ⟨e.pre, e.keep, e.there⟩
        obtain ⟨b1, b2⟩ := back e'
        split at h
        · rename_i d1 heq
          cases heq
          split at h
          · rename_i hd
            exact h v H' μ b1 b2 (RelD.shut (fa := ⟨C.fa.adr, fun b => C.fa.hid b ∨ b ∈ μ⟩) (fb := C.fa) (fun a xs q n hh => ⟨q, fun z => hh (Or.inr z), fun z => hh (Or.inl z)⟩) (fun _ _ q => q) hd r')
          · exact h.elim
        · rename_i c heq
          split at h
          · rename_i hb
            cases heq
            cases r' with
            | cell hk =>
              rename_i a
              have hm := List.mem_of_getElem? hk
              have hfresh : H a = none := by
                obtain ⟨ν, e1, f⟩ := e.pre
                rw [e1, List.nil_append] at hm
                exact f a hm
              have hn : a ∉ μ := fun z => (w'.hd a (.inr z)).1 hm
              have e2 : Ext C.fa μ H (μ ++ [a]) H' := ⟨⟨[a], rfl, fun b hb => by rw [List.mem_singleton] at hb; rw [hb]; exact hfresh⟩, fun b o q _ => e.keep b o q (by simp), e.there⟩
              have ok := w'.cells 0 a c hk rfl
              have hl : ∀ (b : Addr) (xs : List V), H' b = some (.lst xs) → b ∉ μ' → ¬ (C.fa.hid b ∨ b ∈ μ) → H' b = some (.lst xs) ∧ b ∉ μ ++ [a] ∧ ¬ C.fa.hid b := fun b xs q n hh => ⟨q, fun z => by
                rcases List.mem_append.mp z with z | z
                · exact hh (.inr z)
                · rw [List.mem_singleton] at z; exact n (z ▸ hm), fun z => hh (.inl z)⟩
              have okc : COk C.K C.fa (μ ++ [a]) H' a c := by
                cases c with
                | lst ds =>
                  obtain ⟨xs, q, r⟩ := ok
                  exact ⟨xs, q, RelDs.shut0 (fa := ⟨C.fa.adr, fun b => C.fa.hid b ∨ b ∈ μ⟩) (fb := C.fa) hl (fun _ _ q => q) rfl hb r⟩
                | dct t ks vs =>
                  cases t with
                  | true =>
                    obtain ⟨ob, kvs, q, q2, r⟩ := ok
                    have hb' : (clDs ks && vs.all (blwD 0)) = true := hb
                    rw [Bool.and_eq_true] at hb'
                    exact ⟨ob, kvs, q, q2, RelDs.shut0 (fa := ⟨C.fa.adr, fun b => C.fa.hid b ∨ b ∈ μ⟩) (fb := C.fa) hl (fun _ _ q => q) rfl hb'.2 r⟩
                  | false =>
                    obtain ⟨kvs, q, q2, r⟩ := ok
                    have hb' : (clDs ks && vs.all (blwD 0)) = true := hb
                    rw [Bool.and_eq_true] at hb'
                    exact ⟨kvs, q, q2, RelDs.shut0 (fa := ⟨C.fa.adr, fun b => C.fa.hid b ∨ b ∈ μ⟩) (fb := C.fa) hl (fun _ _ q => q) rfl hb'.2 r⟩
              have wf2 : Wf C.K C.fa (μ ++ [a]) (S ++ [c]) H' := by
                refine ⟨by rw [List.length_append, List.length_append, w.len]; rfl, ?_, fun j b c' h1 h2 => ?_, fun b hb => ⟨fun z => ?_, (b2.hd b hb).2⟩⟩
                · rw [List.nodup_append]
                  refine ⟨w.nd, by simp, fun x hx y hy z => ?_⟩
                  rw [List.mem_singleton] at hy
                  subst hy; subst z
                  exact hn hx
                · by_cases hj : j < μ.length
                  · rw [List.getElem?_append_left hj] at h1
                    rw [List.getElem?_append_left (by rw [← w.len]; exact hj)] at h2
                    have ok := w.cells j b c' h1 h2
                    obtain ⟨o, q, _⟩ := ok.some
                    exact ok.ext w e2 ((e.keep _ _ q (by simp)).trans q.symm)
                  · have hjl : j = μ.length := by
                      have := (List.getElem?_eq_some_iff.mp h1).1
                      rw [List.length_append] at this
                      simp at this
                      omega
                    subst hjl
                    rw [List.getElem?_append_right (Nat.le_refl _), Nat.sub_self] at h1
                    rw [List.getElem?_append_right (by rw [w.len]; exact Nat.le_refl _), w.len, Nat.sub_self] at h2
                    simp at h1 h2
                    subst h1; subst h2
                    exact okc
                · rcases List.mem_append.mp z with z | z
                  · exact (w.hd b hb).1 z
                  · rw [List.mem_singleton] at z
                    exact (w'.hd b (.inl hb)).1 (z ▸ hm)
              exact h (.ref a) H' _ e2 wf2 (.cell (by rw [List.getElem?_append_right (by rw [w.len]; exact Nat.le_refl _), w.len, Nat.sub_self]; rfl))
          · exact h.elim
        · exact h.elim
        · rename_i heq; cases heq
        · rename_i heq; cases heq
      | exc c S' =>
        rw [hx] at h
        intro cls dx H' μ' e w' ex
        have e' : Ext C.fa [] H μ' H' := ⟨e.pre, e.keep, e.there⟩
        obtain ⟨b1, b2⟩ := back e'
        exact h cls dx H' μ b1 b2 ex
      | stuck => rw [hx] at h; exact h.elim
  · exact ⟨C.fa.hid, μ, S, ds, w, r, PostG.wish h fun _ _ _ z => z⟩

section
variable {X : Cx} {fa : Fa} {ca : Nat → Option Addr} {W : WX} {cf : CF} {nm : Nat → Option Str} {k : Nat}

theorem callF_run {f : Nat} {a : Addr} (T : Tab X (cfx X fa ca) cf nm k) (tk : Takes X W) (hf : fa.adr f = some a) {pins : List (Addr × Obj)} {σ : St} {H : Hp} {s : Shared} {Q : VK} {us : List Value} {vs : List V} (I : Inv X pins σ H s) (r : Vals vs us) (h : spF (cfx X fa ca) cf f vs H Q (WE W σ)) :
    wpAny (model X.prog X.w) X.A (call (.ref a) us) (EP X pins σ Q) X.xe s := by
  obtain ⟨fd, ps, F, kp, bd⟩ := T.fn f a hf
  exact run_fnG (E := WE W) F T.gd T.room bd (passAt tk σ) I r h
theorem rd_call {f : Nat} {ev : EvEs} (σ : St) (H : Hp) (Q : VK) (h : rdE (cfx X fa ca) W (eCall cf f ev) σ H Q) : rdEs (cfx X fa ca) W ev σ H fun vs H1 => spF (cfx X fa ca) cf f vs H1 Q (WE W σ) := by
  obtain ⟨μ, ρ, S, hw, hp⟩ := h
  exact ⟨μ, ρ, S, hw, PostG.bind hp fun ds S1 vs H1 μ1 e1 w1 r1 p1 => spF_callD (C := cfx X fa ca) w1 r1 (PostG.wish (σ' := σ) p1 fun _ _ _ z => z)⟩
/-- f(e, ..) -/
theorem ok_call {f : Nat} {x : Str} {p pos : Pos} {e : Expr} {es : List Expr} {ev : EvEs} (T : Tab X (cfx X fa ca) cf nm k) (tk : Takes X W) (hf : nm f = some x) (hg : Gl X x) (hd : (x == ("__debug__" : Str)) = false)
    (he : starEach (e :: es) X.env = (false, eval e X.env) :: starEach es X.env) (hpl : (backTo pos (starEach es X.env)).any (·.1) = false) (ha : PA X (e :: es) (rdEs (cfx X fa ca) W ev)) :
    PE X (.Call (.Name x p) (e :: es) [] pos) (rdE (cfx X fa ca) W (eCall cf f ev)) := by
  refine ⟨fun pins s σ H Q I h => ?_⟩
  obtain ⟨a, hf, hm⟩ := T.mg f x hf
  obtain ⟨fd, ps, F, kp, bd⟩ := T.fn f a hf
  refine wpAny_Call_Name_kw (ld_glob I hg hm ?_ hd)
  exact PySem.W.callWith_K (h₀ := X.base) I.ok.mod.kin kp (thn (ha.run pos pins s σ H _ I (rd_call σ H Q h)) fun us s1 ⟨vs, H1, I1, r, q⟩ => ⟨I1.kIn, callF_run T tk hf I1 r q⟩) he hpl
theorem ok_call0 {f : Nat} {x : Str} {p pos : Pos} (T : Tab X (cfx X fa ca) cf nm k) (tk : Takes X W) (hf : nm f = some x) (hg : Gl X x) (hd : (x == ("__debug__" : Str)) = false) :
    PE X (.Call (.Name x p) [] [] pos) (rdE (cfx X fa ca) W (eCall cf f esNil)) := by
  refine ⟨fun pins s σ H Q I h => ?_⟩
  obtain ⟨a, hf, hm⟩ := T.mg f x hf
  obtain ⟨fd, ps, F, kp, bd⟩ := T.fn f a hf
  refine wpAny_Call_Name_kw (ld_glob I hg hm ?_ hd)
  have q := rd_call σ H Q h
  obtain ⟨μ, ρ, S, hw, hp⟩ := q
  exact PySem.W.callWith_K0 I.kIn kp (callF_run (us := []) T tk hf I .nil (PostG.here (Q := fun vs H' => spF (cfx X fa ca) cf f vs H' Q (WE W σ)) hp hw.wf .nil))
/-- a def's name as a value -/
theorem ok_fnv {f : Nat} {x : Str} {pos : Pos} (T : Tab X (cfx X fa ca) cf nm k) (hf : nm f = some x) (hg : Gl X x) (hd : (x == ("__debug__" : Str)) = false) : PE X (.Name x pos) (rdE (cfx X fa ca) W (eCst (fv f))) := by
  obtain ⟨a, hf, hm⟩ := T.mg f x hf
  exact PE.mono (pe_glob hg hm (v := .ref a) rfl hd) fun _ _ _ ⟨_, _, _, hw, hp⟩ => PostG.here hp hw.wf (.fn hf)
theorem fnOf_some {d : PyData} {f : Nat} (h : fnOf d = some f) : d = fv f := by
  unfold fnOf at h
  split at h
  · cases h; rfl
  · cases h
/-- e(..), e a def's value -/
theorem ok_callv {g : Expr} {pos : Pos} {e : Expr} {es : List Expr} {eg : EvE} {ev : EvEs} (T : Tab X (cfx X fa ca) cf nm k) (tk : Takes X W) (hg : PE X g (rdE (cfx X fa ca) W eg))
    (hc : eval (.Call g (e :: es) [] pos) X.env = (do callWith pos (← eval g X.env) [] (backTo pos (starEach (e :: es) X.env)) (backToKw pos (keywordEach [] X.env))))
    (he : starEach (e :: es) X.env = (false, eval e X.env) :: starEach es X.env) (hpl : (backTo pos (starEach es X.env)).any (·.1) = false) (ha : PA X (e :: es) (rdEs (cfx X fa ca) W ev)) :
    PE X (.Call g (e :: es) [] pos) (rdE (cfx X fa ca) W (eCallV cf eg ev)) := by
  refine ⟨fun pins s σ H Q I h => ?_⟩
  refine Call_ ?_ hc
  obtain ⟨μ, ρ, S, hw, hp⟩ := h
  refine thn (hg.run pins s σ H _ I ⟨μ, ρ, S, hw, PostG.bind (Q1 := fun x H1 => ∃ f a, x = V.ref a ∧ fa.adr f = some a ∧ rdE (cfx X fa ca) W (eCall cf f ev) σ H1 Q) hp fun d S1 x H1 μ1 e1 w1 r1 p1 => ?_⟩) fun u s1 ⟨x, H1, I1, r1, q1⟩ => ?_
  · obtain ⟨f, ef, p2⟩ := PostG.bindO p1
    obtain rfl := fnOf_some ef
    cases r1 with
    | fn hf => exact ⟨f, _, rfl, hf, μ1, ρ, S1, hw.ext e1 w1, p2⟩
  · obtain ⟨f, a, rfl, hf, q⟩ := q1
    cases r1
    obtain ⟨fd, ps, F, kp, bd⟩ := T.fn f a hf
    exact PySem.W.callWith_K (h₀ := X.base) I1.ok.mod.kin kp (thn (ha.run pos pins s1 σ H1 _ I1 (rd_call σ H1 Q q)) fun us s2 ⟨vs, H2, I2, r, q⟩ => ⟨I2.kIn, callF_run T tk hf I2 r q⟩) he hpl
end
end Mk

set_option Elab.async false
set_option linter.all false
set_option maxRecDepth 100000
/-! MkS4: the built-ins. -/
namespace PySem.W
open PySem PySem.Calls PyProof.Rows
section
variable {prog : Program} {w : World} {A : Around} {E : Value → Shared → Prop} {s : Shared}
/-- collect of a tuple (after collect_list) -/
theorem collect_tupleK {l : Addr} {vs : List Value} {Q : List Value → Shared → Prop} (hl : s.heap.IsTuple l vs.toArray)
    (h : Q vs { s with heap := (s.heap.push (seqObj "list" #[] 0)).update s.heap.objs.size (Obj.mapSeq (· ++ vs.toArray)) }) (hsz : vs.length ≤ sizeLine) :
    wpAny (model prog w) A (collect (.ref l)) Q E s := by
  obtain ⟨o, ho, hc, n, hd⟩ := id hl
  unfold collect
  refine wpAny_bind (wpAny_runValue (codeAny_builtin entry_proto_collect' ?_))
  show wpAny _ _ (do again (.builtin "list.__iadd__" ⟨[← newList [], .ref l], []⟩)) _ _ s
  refine wpAny_bind (wpAny_newList (wpAny_pure ⟨Code.quiet_builtin _ (by decide +kernel), codeAny_builtin entry_list_iadd' ?_⟩))
  show wpAny _ _ (Builtin.List.listExtendWith (.ref s.heap.objs.size) (.ref l) (.ref s.heap.objs.size)) _ _ { s with heap := s.heap.push (seqObj "list" #[] 0) }
  unfold Builtin.List.listExtendWith
  have ho' : (s.heap.push (seqObj "list" #[] 0)).get? l = some o := Heap.get?_push_of_some _ ho
  refine wpAny_bind (wpAny_typeOf (T := "tuple") ⟨o, ho', hc⟩ ?_)
  have ht : (Value.type "tuple" == Value.type "tuple") = true := by rfl
  rw [if_pos (by rw [ht]; simp)]
  refine wpAny_bind (listItems_at ho' hd ?_)
  refine wpAny_bind (listItems_at (xs := #[]) (n := 0) (Heap.get?_push_size _ rfl) rfl ?_)
  rw [if_neg (by simp)]
  refine wpAny_bind (listUpdate_at (xs := #[]) (n := 0) (Heap.get?_push_size _ rfl) rfl ?_ (Nat.zero_le _) (by show (#[] ++ vs.toArray).size ≤ sizeLine + 1; simp only [Array.size_append, List.size_toArray, List.length_nil]; omega))
  refine wpAny_pure ?_
  show wpAny (model prog w) A (do
      let o ← load s.heap.objs.size
      match o.data with
      | .seq xs _ => pure xs.toList
      | _ => unsupported "internal:collect") Q E { s with heap := (s.heap.push (seqObj "list" #[] 0)).update s.heap.objs.size (Obj.mapSeq (· ++ vs.toArray)) }
  refine wpAny_bind (wpAny_load (get?_update_seq (Heap.get?_push_size _ rfl) _) ?_)
  show wpAny _ _ (pure ((#[] : Array Value) ++ vs.toArray).toList) Q E _
  rw [show ((#[] : Array Value) ++ vs.toArray).toList = vs by simp]
  exact wpAny_pure h
theorem sorted_of_sortT {l : Addr} {vs : List Value} {kw : List (Str × Value)} {Q : Value → Shared → Prop} (hl : s.heap.IsTuple l vs.toArray) (hL : vs.length ≤ sizeLine) (ha1 : argsOk "sorted" ⟨[.ref l], kw⟩) (ha2 : ∀ x, argsOk "list.sort" ⟨[.ref x], kw⟩)
    (body : ∀ E' : Value → Shared → Prop, wpAny (model prog w) A.in1.in1 (Builtin.«list.sort» ⟨[.ref (s.heap.objs.size + 1)], kw⟩) (fun f s' => f = .done (.ret .none) ∧ Q (.ref (s.heap.objs.size + 1)) s') E' { s with heap := copyHeap s.heap vs }) :
    wpAny (model prog w) A (call (.builtin "sorted") [.ref l] kw) Q E s := by
  refine call_function_entry_kw kind_sorted plain_sorted entry_sorted ha1 ?_
  unfold Builtin.«sorted»
  refine wpAny_bind (m := checkCount "sorted" 1 1 _) (wpAny_pure ?_)
  refine wpAny_bind (collect_tupleK hl ?_ hL)
  refine wpAny_bind (wpAny_newList ?_ hL)
  have hsz : ((s.heap.push (seqObj "list" #[] 0)).update s.heap.objs.size (Obj.mapSeq (· ++ vs.toArray))).objs.size = s.heap.objs.size + 1 := by
    rw [Heap.size_update, size_push']
  show wpAny _ _ _ _ _ { s with heap := copyHeap s.heap vs }
  rw [hsz]
  refine wpAny_bind (wpAny_holding (wpAny_call_entry_kw slot_list_sort ⟨_, copyHeap_at s.heap vs, rfl⟩ entry_list_sort ?body (ha2 _)))
  case body =>
    show wpAny (model prog w) A.in1.in1 (Builtin.«list.sort» ⟨[.ref (s.heap.objs.size + 1)], kw⟩) _ _ _
    refine wpAny_mono (body _) (fun f s' hf => ?_) fun _ _ e => e
    obtain ⟨rfl, hq⟩ := hf
    exact ⟨_, rfl, wpAny_pure ⟨_, rfl, hq⟩⟩
variable {β : Type} {vs : List Value} {bs : List β} {enc : β → PyData} {R : Value → β → Prop}
theorem sorted_dataT {l : Addr} {Q : Value → Shared → Prop} (hl : s.heap.IsTuple l vs.toArray) (e : EachIs R vs bs) (er : EachIs (fun v b => ∃ as, Reads s.heap v (enc b) as) vs bs) (hal : AllAlike (bs.map enc)) (hk : Sortable (bs.map enc)) (hL : bs.length ≤ sizeLine)
    (hu : ∀ b, b ∈ bs → A.units + 2 + (enc b).depth < cLine) (h : ∀ out, out.length = bs.length → EachIs R out (bs.mergeSort (dataLe false enc)) → Q (.ref (s.heap.objs.size + 1)) { s with heap := sortedAll s.heap vs (List.toArray out) }) :
    wpAny (model prog w) A (call (.builtin "sorted") [.ref l]) Q E s := by
  have er' : EachIs (fun v b => ∃ as, Reads (sortingHeap (copyHeap s.heap vs) (s.heap.objs.size + 1) vs) v (enc b) as) vs bs := er.mono fun _ _ ⟨as, r⟩ => ⟨as, PyProof.Rows.Reads.keeps (fun _ _ => sorting_copy_old) r⟩
  refine sorted_of_sortT hl (by rw [e.length]; exact hL) (args_sorted1 _) (fun _ => args_list_sort _) fun _ => list_sort_vals (s := { s with heap := copyHeap s.heap vs }) (copyHeap_at s.heap vs) (SortsAt.data (s := { s with heap := sortingHeap (copyHeap s.heap vs) (s.heap.objs.size + 1) vs }) (each_map (R := fun v d => ∃ as, Reads (sortingHeap (copyHeap s.heap vs) (s.heap.objs.size + 1) vs) v d as) enc er') hal hk (bound_map hu)) (by rw [e.length]; exact hL) ⟨rfl, ?_⟩
  exact h _ (by rw [sortVals_length false rfl]; exact e.length) (sortVals_data false e er' hal)
end
end PySem.W

namespace Mk
open PySem PySem.Spec PyProof.Rows L2
def relN (X : Cx) (fa : Fa) (ca : Nat → Option Addr) (W : WX) (g : Store → List PyData → Option PyData) : List V → Hp → VK → Prop := fun xs H Q => ∃ (σ0 : St) (μ : List Addr) (S : Store) (ds : List PyData), Wf X.K fa μ S H ∧ RelDs X.K fa μ H ds xs ∧ PostF (cfx X fa ca) W σ0 μ H Q (ofO (g S ds) S)
section
variable {X : Cx} {fa : Fa} {ca : Nat → Option Addr} {W : WX}
theorem rd_args {ev : EvEs} {g : Store → List PyData → Option PyData} (σ : St) (H : Hp) (Q : VK) (h : rdF (cfx X fa ca) W (fun ρ S => (ev ρ S).bind fun xs S1 => ofO (g S1 xs) S1) σ H Q) : tCB (relN X fa ca W g) (rdEs (cfx X fa ca) W ev) σ H Q := by
  obtain ⟨μ, ρ, S, hw, hp⟩ := h
  exact ⟨μ, ρ, S, hw, PostF.bind hp fun ds S1 vs H1 μ1 e1 w1 r1 p1 => ⟨σ, μ1, S1, ds, w1, r1, p1⟩⟩
theorem ok_bltB {b : Blt} {id : String} {x : Str} {p pos : Pos} {e : Expr} {es : List Expr} {ev : EvEs} (hc : CallR X (.builtin id) (relN X fa ca W (bltD b))) (hg : Gl X x) (hm : X.mg x = none) (hv : bootBuiltins x = some (.builtin id)) (ha : PA X (e :: es) (rdEs (cfx X fa ca) W ev))
    (hn : x ≠ "__name__") (hdb : (x == ("__debug__" : Str)) = false) (he : starEach (e :: es) X.env = (false, eval e X.env) :: starEach es X.env) (hpl : (backTo pos (starEach es X.env)).any (·.1) = false) :
    PE X (.Call (.Name x p) (e :: es) [] pos) (rdF (cfx X fa ca) W (eBlt b ev)) :=
  PE.mono (pe_callB hc hg hm hv ha hn hdb he hpl) fun σ H Q h => rd_args (g := bltD b) σ H Q h
theorem ok_bltT {b : Blt} {id : String} {x : Str} {p pos : Pos} {e : Expr} {es : List Expr} {ev : EvEs} (hc : CallR X (.type id) (relN X fa ca W (bltD b))) (hg : Gl X x) (hm : X.mg x = none) (hv : bootBuiltins x = some (.type id)) (ha : PA X (e :: es) (rdEs (cfx X fa ca) W ev))
    (hn : x ≠ "__name__") (hdb : (x == ("__debug__" : Str)) = false) (he : starEach (e :: es) X.env = (false, eval e X.env) :: starEach es X.env) (hpl : (backTo pos (starEach es X.env)).any (·.1) = false) :
    PE X (.Call (.Name x p) (e :: es) [] pos) (rdF (cfx X fa ca) W (eBlt b ev)) :=
  PE.mono (pe_callTy hc hg hm hv ha hn hdb he hpl) fun σ H Q h => rd_args (g := bltD b) σ H Q h

theorem rels1 {μ : List Addr} {H : Hp} {d : PyData} {xs : List V} (r : RelDs X.K fa μ H [d] xs) : ∃ x, xs = [x] ∧ RelD X.K fa μ H d x := by
  cases r with
  | cons h t => cases t; exact ⟨_, rfl, h⟩
theorem rels2 {μ : List Addr} {H : Hp} {d e : PyData} {xs : List V} (r : RelDs X.K fa μ H [d, e] xs) : ∃ x y, xs = [x, y] ∧ RelD X.K fa μ H d x ∧ RelD X.K fa μ H e y := by
  cases r with
  | cons h t =>
    obtain ⟨y, rfl, h2⟩ := rels1 t
    exact ⟨_, y, rfl, h, h2⟩
theorem ofO_or {C : Cf} {σ0 : St} {μ : List Addr} {H : Hp} {S : Store} {Q : VK} {o : Option PyData} (h : PostF C W σ0 μ H Q (ofO o S)) : ∃ d, o = some d ∧ PostF C W σ0 μ H Q (.ok d S) := by
  cases o with
  | some d => exact ⟨d, rfl, h⟩
  | none => exact h.elim
theorem one_some {f : PyData → Option PyData} {ds : List PyData} {e : PyData} (h : one f ds = some e) : ∃ d, ds = [d] ∧ f d = some e := by
  unfold one at h
  split at h
  · exact ⟨_, rfl, h⟩
  · cases h
theorem two_some {f : PyData → PyData → Option PyData} {ds : List PyData} {e : PyData} (h : two f ds = some e) : ∃ d d', ds = [d, d'] ∧ f d d' = some e := by
  unfold two at h
  split at h
  · exact ⟨_, _, rfl, h⟩
  · cases h
/-- a built-in of one argument -/
theorem cr_one {b : Blt} {u : Value} {f : Store → PyData → Option PyData} (hb : ∀ S xs, bltD b S xs = one (f S) xs)
    (hr : ∀ (pins : List (Addr × Obj)) (s : Shared) (σ σ0 : St) (H : Hp) (μ : List Addr) (S : Store) (d e : PyData) (x : V) (us : List Value) (Q : VK), Inv X pins σ H s → Vals [x] us → Wf X.K fa μ S H → RelD X.K fa μ H d x → f S d = some e → PostF (cfx X fa ca) W σ0 μ H Q (.ok e S) → wpAny (model X.prog X.w) X.A (call u us) (EP X pins σ Q) X.xe s) :
    CallR X u (relN X fa ca W (bltD b)) := by
  intro pins s σ H xs us Q I r ⟨σ0, μ, S, ds, w, rr, h⟩
  obtain ⟨e, he, h2⟩ := ofO_or h
  rw [hb] at he
  obtain ⟨d, rfl, he⟩ := one_some he
  obtain ⟨x, rfl, rx⟩ := rels1 rr
  exact hr pins s σ σ0 H μ S d e x us Q I r w rx he h2
theorem cr_two {b : Blt} {u : Value} {f : Store → PyData → PyData → Option PyData} (hb : ∀ S xs, bltD b S xs = two (f S) xs)
    (hr : ∀ (pins : List (Addr × Obj)) (s : Shared) (σ σ0 : St) (H : Hp) (μ : List Addr) (S : Store) (d d' e : PyData) (x y : V) (us : List Value) (Q : VK), Inv X pins σ H s → Vals [x, y] us → Wf X.K fa μ S H → RelD X.K fa μ H d x → RelD X.K fa μ H d' y → f S d d' = some e → PostF (cfx X fa ca) W σ0 μ H Q (.ok e S) → wpAny (model X.prog X.w) X.A (call u us) (EP X pins σ Q) X.xe s) :
    CallR X u (relN X fa ca W (bltD b)) := by
  intro pins s σ H xs us Q I r ⟨σ0, μ, S, ds, w, rr, h⟩
  obtain ⟨e, he, h2⟩ := ofO_or h
  rw [hb] at he
  obtain ⟨d, d', rfl, he⟩ := two_some he
  obtain ⟨x, y, rfl, rx, ry⟩ := rels2 rr
  exact hr pins s σ σ0 H μ S d d' e x y us Q I r w rx ry he h2

theorem b_len : CallR X (.builtin "len") (relN X fa ca W (bltD .len)) := cr_one (fun _ _ => rfl) fun pins s σ σ0 H μ S d e x us Q I r w rx he h => by
  unfold lenD at he
  split at he
  · -- text
    rename_i z
    cases rx
    split at he
    · rename_i hz
      cases he
      exact call_len pins s σ H _ us Q I r ⟨_, _, rfl, ⟨lenOk_le hz, rfl⟩, hereF (C := cfx X fa ca) h w (.int _)⟩
    · cases he
  · rename_i k
    cases rx with
    | cell hk =>
      split at he
      · rename_i ds e1
        cases he
        obtain ⟨xs, e2, r1⟩ := w.cells _ _ _ hk e1
        rw [← r1.length] at h
        exact call_len pins s σ H _ us Q I r ⟨_, _, rfl, .inl ⟨xs, SqL.of e2, rfl⟩, hereF (C := cfx X fa ca) h w (.int _)⟩
      · rename_i ks vs e1
        cases he
        have ok := w.cells _ _ _ hk e1
        obtain ⟨kvs, e2, rfl, r1⟩ := ok
        rw [List.length_map] at h
        exact call_lenD pins s σ H _ us Q I r ⟨_, kvs, rfl, e2, hereF (C := cfx X fa ca) h w (.int _)⟩
      · cases he
  · cases he
    cases rx with
    | tup hq r1 =>
      rw [← r1.length] at h
      exact call_len pins s σ H _ us Q I r ⟨_, _, rfl, .inr ⟨_, hq, rfl⟩, hereF (C := cfx X fa ca) h w (.int _)⟩
  · cases he
    cases rx with
    | lst hq _ _ r1 =>
      rw [← r1.length] at h
      exact call_len pins s σ H _ us Q I r ⟨_, _, rfl, .inl ⟨_, SqL.of hq, rfl⟩, hereF (C := cfx X fa ca) h w (.int _)⟩
  · cases he
theorem b_abs : CallR X (.builtin "abs") (relN X fa ca W (bltD .abs)) := cr_one (fun _ _ => rfl) fun pins s σ σ0 H μ S d e x us Q I r w rx he h => by
  unfold absD at he
  split at he
  · cases he; cases rx
    exact call_abs pins s σ H _ us Q I r ⟨_, rfl, hereF (C := cfx X fa ca) h w (.int _)⟩
  · cases he
theorem b_int : CallR X (.type "int") (relN X fa ca W (bltD .int)) := cr_one (fun _ _ => rfl) fun pins s σ σ0 H μ S d e x us Q I r w rx he h => by
  unfold int1D at he
  split at he
  · cases he; cases rx
    exact call_int1 pins s σ H _ us Q I r (.inl ⟨_, rfl, hereF (C := cfx X fa ca) h w (.int _)⟩)
  · cases he; cases rx
    exact call_int1 pins s σ H _ us Q I r (.inr ⟨_, rfl, hereF (C := cfx X fa ca) h w (.int _)⟩)
  · split at he
    · rename_i hz
      obtain ⟨n, e1, rfl⟩ := Option.map_eq_some_iff.mp he
      cases rx
      exact call_int_str pins s σ H _ us Q I r ⟨_, n, rfl, e1, hz, hereF (C := cfx X fa ca) h w (.int _)⟩
    · cases he
  · cases he
theorem b_str : CallR X (.type "str") (relN X fa ca W (bltD .str)) := cr_one (fun _ _ => rfl) fun pins s σ σ0 H μ S d e x us Q I r w rx he h => by
  unfold strD at he
  split at he
  · cases rx
    split at he
    · rename_i hz
      cases he
      exact call_str_int pins s σ H _ us Q I r ⟨_, rfl, hz, hereF (C := cfx X fa ca) h w (.str _)⟩
    · cases he
  · cases he; cases rx
    exact SkE.call_str_str pins s σ H _ us Q I r ⟨_, rfl, hereF (C := cfx X fa ca) h w (.str _)⟩
  · cases he
theorem b_tuple : CallR X (.type "tuple") (relN X fa ca W (bltD .tuple)) := cr_one (fun _ _ => rfl) fun pins s σ σ0 H μ S d e x us Q I r w rx he h => by
  obtain ⟨ds, e1, rfl⟩ := Option.map_eq_some_iff.mp he
  obtain ⟨a, xs, rfl, r1, ⟨hl, _⟩ | ⟨ht, rfl⟩⟩ := items_ok w rx e1
  · exact call_tuple_of pins s σ H _ us Q I r ⟨a, xs, rfl, .inl ⟨SqL.of hl, fun p hn => fin_tup (C := cfx X fa ca) h w r1 hn⟩⟩
  · exact call_tuple_of pins s σ H _ us Q I r ⟨a, xs, rfl, .inr ⟨ht, hereF (C := cfx X fa ca) h w rx⟩⟩
theorem keys_rel {K : PySem.W.Frag} {μ : List Addr} {H : Hp} : ∀ kvs : List (Key × V), RelDs K fa μ H (kvs.map fun p => keyD p.1) (kvs.map fun kv => kV kv.1)
  | [] => .nil
  | (.inl i, _) :: r => .cons (.int i) (keys_rel r)
  | (.inr x, _) :: r => .cons (.str x) (keys_rel r)
theorem b_list (hc : X.calm = true) : CallR X (.type "list") (relN X fa ca W (bltD .list)) := cr_one (fun _ _ => rfl) fun pins s σ σ0 H μ S d e x us Q I r w rx he h => by
  unfold listD at he
  split at he
  · rename_i k
    cases rx with
    | cell hk =>
      split at he
      · rename_i ds e1
        cases he
        obtain ⟨xs, e2, r1⟩ := w.cells _ _ _ hk e1
        exact call_list_of pins s σ H _ us Q I r ⟨_, xs, rfl, .inl (SqL.of e2), fun p hn => fin_lst (C := cfx X fa ca) h w r1 hn⟩
      · rename_i ks vs e1
        cases he
        obtain ⟨kvs, e2, rfl, r1⟩ := w.cells _ _ _ hk e1
        exact call_list_dK hc pins s σ H _ us Q I r ⟨_, kvs, rfl, e2, fun p hn => fin_lst (C := cfx X fa ca) h w (keys_rel kvs) hn⟩
      · cases he
  · cases he
    cases rx with
    | tup hq r1 => exact call_list_of pins s σ H _ us Q I r ⟨_, _, rfl, .inr hq, fun p hn => fin_lst (C := cfx X fa ca) h w r1 hn⟩
  · cases he
    cases rx with
    | lst hq _ _ r1 => exact call_list_of pins s σ H _ us Q I r ⟨_, _, rfl, .inl (SqL.of hq), fun p hn => fin_lst (C := cfx X fa ca) h w r1 hn⟩
  · cases he
theorem fits_63 {d : PyData} (h : fitsD d = true) : d.fits63 := by
  have hs := sizeLine_eq
  cases d with
  | str x => have := lenOk_le h; show (x.length : Int) < 2 ^ 63; omega
  | list x => have := lenOk_le h; show (x.length : Int) < 2 ^ 63; omega
  | tuple x => have := lenOk_le h; show (x.length : Int) < 2 ^ 63; omega
  | _ => exact True.intro
theorem bools_ok {ds : List PyData} {bs : List Bool} (h : boolsOf ds = some bs) : shp (.list ds) = true ∧ (∀ d ∈ ds, d.fits63) ∧ bs = ds.map PyData.truthy := by
  unfold boolsOf at h
  split at h
  · rename_i hz
    cases h
    rw [Bool.and_eq_true] at hz
    exact ⟨hz.1, fun d hd => fits_63 (List.all_eq_true.mp hz.2 d hd), rfl⟩
  · cases h
theorem b_all (hc : X.calm = true) : CallR X (.builtin "all") (relN X fa ca W (bltD .all)) := cr_one (fun _ _ => rfl) fun pins s σ σ0 H μ S d e x us Q I r w rx he h => by
  obtain ⟨bs, e1, rfl⟩ := Option.map_eq_some_iff.mp he
  obtain ⟨ds, e2, e3⟩ := Option.bind_eq_some_iff.mp e1
  obtain ⟨h1, h2, rfl⟩ := bools_ok e3
  have hcl : PyData.canLayAll0 ds = true := by simpa [PyData.canLay0] using SeqAt.canLay_of_shaped h1
  have hh : X.A.handled = none := I.ok.hd hc
  rw [List.all_map] at h
  obtain ⟨a, xs, rfl, r1, ⟨hl, _⟩ | ⟨ht, rfl⟩⟩ := items_ok w rx e2
  · rw [Vals.ref1 r]
    obtain ⟨its, rv, pl, _⟩ := I.list (SqL.of hl)
    obtain ⟨as, hr⟩ := Dp.readsAll I ds _ its (r1.dp hcl) rv
    exact PySem.W.all_list_data (vs := its.toArray) hh pl.isList (by simpa using hr) (PyData.plainAll_of_canLay0 _ hcl) h2 fun h' tk hk => ⟨.bl _, H, I.kept hk, rfl, hereF (C := cfx X fa ca) h w (.bl _)⟩
  · rw [Vals.ref1 r]
    obtain ⟨its, rv, pl, _⟩ := I.tuple ht
    obtain ⟨as, hr⟩ := Dp.readsAll I ds _ its (r1.dp hcl) rv
    exact PySem.W.all_tuple_data (vs := its.toArray) hh pl (by simpa using hr) (PyData.plainAll_of_canLay0 _ hcl) h2 fun h' tk hk => ⟨.bl _, H, I.kept hk, rfl, hereF (C := cfx X fa ca) h w (.bl _)⟩
theorem b_any (hc : X.calm = true) : CallR X (.builtin "any") (relN X fa ca W (bltD .any)) := cr_one (fun _ _ => rfl) fun pins s σ σ0 H μ S d e x us Q I r w rx he h => by
  obtain ⟨bs, e1, rfl⟩ := Option.map_eq_some_iff.mp he
  obtain ⟨ds, e2, e3⟩ := Option.bind_eq_some_iff.mp e1
  obtain ⟨h1, h2, rfl⟩ := bools_ok e3
  have hcl : PyData.canLayAll0 ds = true := by simpa [PyData.canLay0] using SeqAt.canLay_of_shaped h1
  have hh : X.A.handled = none := I.ok.hd hc
  rw [List.any_map] at h
  obtain ⟨a, xs, rfl, r1, ⟨hl, _⟩ | ⟨ht, rfl⟩⟩ := items_ok w rx e2
  · rw [Vals.ref1 r]
    obtain ⟨its, rv, pl, _⟩ := I.list (SqL.of hl)
    obtain ⟨as, hr⟩ := Dp.readsAll I ds _ its (r1.dp hcl) rv
    exact PySem.W.any_list_data (vs := its.toArray) hh pl.isList (by simpa using hr) (PyData.plainAll_of_canLay0 _ hcl) h2 fun h' tk hk => ⟨.bl _, H, I.kept hk, rfl, hereF (C := cfx X fa ca) h w (.bl _)⟩
  · rw [Vals.ref1 r]
    obtain ⟨its, rv, pl, _⟩ := I.tuple ht
    obtain ⟨as, hr⟩ := Dp.readsAll I ds _ its (r1.dp hcl) rv
    exact PySem.W.any_tuple_data (vs := its.toArray) hh pl (by simpa using hr) (PyData.plainAll_of_canLay0 _ hcl) h2 fun h' tk hk => ⟨.bl _, H, I.kept hk, rfl, hereF (C := cfx X fa ca) h w (.bl _)⟩
theorem lst_ok {μ : List Addr} {S : Store} {H : Hp} {d : PyData} {ds : List PyData} {v : V} (w : Wf X.K fa μ S H) (r : RelD X.K fa μ H d v) (h : lstOf S d = some ds) : ∃ a xs, v = .ref a ∧ RelDs X.K fa μ H ds xs ∧ H a = some (.lst xs) := by
  unfold lstOf at h
  split at h
  · cases h
    cases r with
    | lst h1 _ _ r1 => exact ⟨_, _, rfl, r1, h1⟩
  · rename_i k
    obtain ⟨a, xs, rfl, r1, ⟨h1, _⟩ | ⟨_, e⟩⟩ := items_ok w r (show itemsOf S (rf k) = some ds from h)
    · exact ⟨a, xs, rfl, r1, h1⟩
    · cases e
  · cases h
theorem b_sum (hc : X.calm = true) : CallR X (.builtin "sum") (relN X fa ca W (bltD .sum)) := cr_one (fun _ _ => rfl) fun pins s σ σ0 H μ S d e x us Q I r w rx he h => by
  obtain ⟨ns, e1, rfl⟩ := Option.map_eq_some_iff.mp he
  obtain ⟨ds, e2, e3⟩ := Option.bind_eq_some_iff.mp e1
  obtain ⟨a, xs, rfl, r1, hl⟩ := lst_ok w rx e2
  obtain rfl := r1.ints e3
  exact cr_sum hc pins s σ H _ us Q I r ⟨a, ns, rfl, SqL.of hl, hereF (C := cfx X fa ca) h w (.int _)⟩
theorem max_is : ∀ {ns : List Int} {m k : Int}, ns.max? = some k → m ∈ ns → (∀ y ∈ ns, y ≤ m) → m = k := by
  intro ns m k h1 h2 h3
  have := List.max?_eq_some_iff.mp h1
  exact Int.le_antisymm (this.2 m h2) (h3 k this.1)
theorem min_is : ∀ {ns : List Int} {m k : Int}, ns.min? = some k → m ∈ ns → (∀ y ∈ ns, m ≤ y) → m = k := by
  intro ns m k h1 h2 h3
  have := List.min?_eq_some_iff.mp h1
  exact Int.le_antisymm (h3 k this.1) (this.2 m h2)
theorem b_max1 (hc : X.calm = true) : CallR X (.builtin "max") (relN X fa ca W (bltD .max1)) := cr_one (fun _ _ => rfl) fun pins s σ σ0 H μ S d e x us Q I r w rx he h => by
  obtain ⟨ns, e1, e4⟩ := Option.bind_eq_some_iff.mp he
  obtain ⟨k, e5, rfl⟩ := Option.map_eq_some_iff.mp e4
  obtain ⟨ds, e2, e3⟩ := Option.bind_eq_some_iff.mp e1
  obtain ⟨a, xs, rfl, r1, hl⟩ := lst_ok w rx e2
  obtain rfl := r1.ints e3
  have hne : 0 < ns.length := by cases ns with | nil => cases e5 | cons => exact Nat.succ_pos _
  exact cr_max hc pins s σ H _ us Q I r ⟨a, ns, rfl, SqL.of hl, hne, fun m h1 h2 => by rw [max_is e5 h1 h2]; exact hereF (C := cfx X fa ca) h w (.int _)⟩
theorem b_min1 (hc : X.calm = true) : CallR X (.builtin "min") (relN X fa ca W (bltD .min1)) := cr_one (fun _ _ => rfl) fun pins s σ σ0 H μ S d e x us Q I r w rx he h => by
  obtain ⟨ns, e1, e4⟩ := Option.bind_eq_some_iff.mp he
  obtain ⟨k, e5, rfl⟩ := Option.map_eq_some_iff.mp e4
  obtain ⟨ds, e2, e3⟩ := Option.bind_eq_some_iff.mp e1
  obtain ⟨a, xs, rfl, r1, hl⟩ := lst_ok w rx e2
  obtain rfl := r1.ints e3
  have hne : 0 < ns.length := by cases ns with | nil => cases e5 | cons => exact Nat.succ_pos _
  exact cr_min hc pins s σ H _ us Q I r ⟨a, ns, rfl, SqL.of hl, hne, fun m h1 h2 => by rw [min_is e5 h1 h2]; exact hereF (C := cfx X fa ca) h w (.int _)⟩
theorem b_max2 (hc : X.calm = true) : CallR X (.builtin "max") (relN X fa ca W (bltD .max2)) := cr_two (f := fun _ => max2D) (fun _ _ => rfl) fun pins s σ σ0 H μ S d d' e x y us Q I r w rx ry he h => by
  unfold max2D at he
  split at he
  · cases he; cases rx; cases ry
    exact call_max2 hc pins s σ H _ us Q I r ⟨_, _, rfl, hereF (C := cfx X fa ca) h w (.int _)⟩
  · cases he
theorem b_min2 (hc : X.calm = true) : CallR X (.builtin "min") (relN X fa ca W (bltD .min2)) := cr_two (f := fun _ => min2D) (fun _ _ => rfl) fun pins s σ σ0 H μ S d d' e x y us Q I r w rx ry he h => by
  unfold min2D at he
  split at he
  · cases he; cases rx; cases ry
    exact call_min2 hc pins s σ H _ us Q I r ⟨_, _, rfl, hereF (C := cfx X fa ca) h w (.int _)⟩
  · cases he
end
end Mk

set_option Elab.async false
set_option linter.all false
set_option maxRecDepth 100000
/-! MkS5: more built-ins: sorted, isinstance, list(range ..), methods, pops, reversed slices. -/
namespace Mk
open PySem PySem.Spec PyProof.Rows L2
section
variable {X : Cx} {fa : Fa} {ca : Nat → Option Addr} {W : WX}

/-! ### sorted -/
theorem each_of {R : Value → PyData → Prop} {pins : List (Addr × Obj)} {σ : St} {H : Hp} {s : Shared} : ∀ {ds : List PyData} {xs : List V} {us : List Value} {μ : List Addr}, RelDs X.K fa μ H ds xs → Vals xs us → (∀ d x u, d ∈ ds → RelD X.K fa μ H d x → RelV x u → R u d) → PySem.W.EachIs R us ds
  | _, _, _, _, .nil, .nil, _ => .nil
  | _, _, _, _, .cons h t, .cons r rt, k => .cons (k _ _ _ List.mem_cons_self h r) (each_of (pins := pins) (σ := σ) (s := s) t rt fun d x u hd => k d x u (List.mem_cons_of_mem _ hd))
theorem each_back {μ : List Addr} {H : Hp} : ∀ {us : List Value} {ds : List PyData}, PySem.W.EachIs (fun u d => ∃ x, RelV x u ∧ RelD X.K fa μ H d x) us ds → ∃ xs, RelDs X.K fa μ H ds xs ∧ Vals xs us
  | _, _, .nil => ⟨[], .nil, .nil⟩
  | _, _, .cons ⟨x, h1, h2⟩ t =>
    let ⟨xs, t1, t2⟩ := each_back t
    ⟨x :: xs, .cons h2 t1, .cons h1 t2⟩
theorem allAlike_ok {ds : List PyData} (h : allAlike ds = true) : (∀ d ∈ ds, shp d = true) ∧ PySem.W.AllAlike (ds.map id) ∧ PySem.W.Sortable (ds.map id) := by
  rw [List.map_id]
  unfold allAlike at h
  rw [Bool.and_eq_true, List.all_eq_true, Bool.or_eq_true, List.all_eq_true, List.all_eq_true] at h
  obtain ⟨h1, h2⟩ := h
  have h1' : ∀ x ∈ ds, shp x = true ∧ ∀ y ∈ ds, PySem.W.alike x y = true := fun x hx => by
    have := h1 x hx
    rw [Bool.and_eq_true, List.all_eq_true] at this
    exact this
  refine ⟨fun d hd => (h1' d hd).1, fun d hd d' hd' => (h1' d hd).2 d' hd', ?_⟩
  rcases h2 with h2 | h2
  · refine .inl fun d hd => ?_
    have := h2 d hd
    unfold isTup1 at this
    split at this
    · exact ⟨_, _, rfl⟩
    · cases this
  · refine .inr fun d hd => ⟨fun e => ?_, fun xs e => ?_⟩
    · have := h2 d hd; rw [e] at this; cases this
    · have := h2 d hd; rw [e] at this; cases this
theorem shp_depth {d : PyData} (h : shp d = true) : d.depth ≤ 64 := by
  unfold shp SeqAt.shaped at h
  rw [Bool.and_eq_true] at h
  exact of_decide_eq_true h.2
theorem ints_map : ∀ {ds : List PyData} {ns : List Int}, intsOf ds = some ns → ds = ns.map .int
  | [], ns, h => by cases h; rfl
  | d :: ds, ns, h => by
    cases d with
    | int i =>
      obtain ⟨r, h1, rfl⟩ := Option.map_eq_some_iff.mp (show (intsOf ds).map (i :: ·) = some ns from h)
      rw [ints_map h1]; rfl
    | _ => cases h
theorem le_int (a b : Int) : PySem.W.dataLe false (id : PyData → PyData) (.int a) (.int b) = decide (a ≤ b) := by
  show (!PySem.W.dataLt (.int b) (.int a)) = _
  rw [PySem.W.dataLt_int]
  by_cases h : b < a
  · simp [h]
  · simp [h]; omega
theorem sort_int (l : List Int) : sortD (l.map .int) = (l.mergeSort fun a b => decide (a ≤ b)).map .int := by
  rw [sortD_eq, ← List.map_mergeSort (f := PyData.int) (r := fun a b => decide (a ≤ b)) (s := PySem.W.dataLe false id)]
  intro a _ b _
  exact (le_int a b).symm
theorem keys_ints : ∀ {kvs : List (Key × V)} {ns : List Int}, kvs.map (fun p => keyD p.1) = ns.map PyData.int → kvs.map (·.1) = ns.map Sum.inl
  | [], [], _ => rfl
  | (.inl i, _) :: r, n :: ns, h => by
    simp only [List.map_cons, List.cons.injEq] at h ⊢
    obtain ⟨h1, h2⟩ := h
    have : i = n := by simpa [keyD] using h1
    exact ⟨by rw [this], keys_ints h2⟩
  | (.inr x, _) :: r, n :: ns, h => by
    simp only [List.map_cons, List.cons.injEq] at h
    cases h.1
  | [], _ :: _, h => by simp at h
  | _ :: _, [], h => by simp at h
theorem ints_to {K : PySem.W.Frag} {μ : List Addr} {H : Hp} : ∀ ys : List Int, RelDs K fa μ H (ys.map .int) (ys.map V.int)
  | [] => .nil
  | y :: ys => .cons (.int y) (ints_to ys)
theorem b_sorted (hc : X.calm = true) (hu : X.A.units + 70 < cLine) : CallR X (.builtin "sorted") (relN X fa ca W (bltD .sorted)) := cr_one (fun _ _ => rfl) fun pins s σ σ0 H μ S d e x us Q I r w rx he h => by
  unfold sortedB at he
  split at he
  · rename_i t ks vs hd
    split at he
    · cases he
    rename_i ht
    obtain ⟨ns, e1, e2⟩ := Option.bind_eq_some_iff.mp he
    split at e2
    · rename_i hl
      cases e2
      obtain rfl := ints_map e1
      have ht : t = false := by simpa using ht
      subst ht
      unfold dctOf at hd
      split at hd
      · rename_i k
        cases rx with
        | cell hk =>
          split at hd
          · rename_i t2 ks2 vs2 e3
            cases hd
            obtain ⟨kvs, e4, e5, r1⟩ := w.cells _ _ _ hk e3
            refine call_sortedDI hc pins s σ H _ us Q I r ⟨_, kvs, ns, rfl, .inl e4, keys_ints e5.symm, of_decide_eq_true hl, fun ys p pm pw hn => ?_⟩
            have hys : sortD (ns.map .int) = ys.map .int := by
              rw [sort_int]
              congr 1
              have s1 : (ns.mergeSort fun a b => decide (a ≤ b)).Pairwise fun a b => a ≤ b := by
                have := List.pairwise_mergeSort (le := fun a b : Int => decide (a ≤ b)) (fun a b c x y => by simp at *; omega) (fun a b => by simp; omega) ns
                exact this.imp fun h => by simpa using h
              exact List.Perm.eq_of_pairwise (fun a b _ _ x y => by omega) s1 pw ((List.mergeSort_perm _ _).trans pm.symm)
            rw [hys] at h
            exact fin_lst (C := cfx X fa ca) h w (ints_to ys) hn
          · cases hd
      · cases hd
    · cases e2
  obtain ⟨ds, e1, e2⟩ := Option.bind_eq_some_iff.mp he
  unfold sortedOf at e2
  split at e2
  · rename_i hz
    cases e2
    rw [Bool.and_eq_true] at hz
    obtain ⟨h1, h2, h3⟩ := allAlike_ok hz.1
    have hL := lenOk_le hz.2
    rw [sortD_eq] at h
    have fin : ∀ (xs : List V) (its : List Value), RelDs X.K fa μ H ds xs → Vals xs its → ∀ out : List Value, out.length = ds.length → PySem.W.EachIs (fun u d => ∃ x, RelV x u ∧ RelD X.K fa μ H d x) out (ds.mergeSort (PySem.W.dataLe false id)) →
        EP X pins σ Q (.ref (s.heap.objs.size + 1)) { s with heap := PyProof.Rows.sortedAll s.heap its (List.toArray out) } := by
      intro xs its r1 rv out hl ho
      obtain ⟨ys, q1, q2⟩ := each_back ho
      obtain ⟨ep, he'⟩ := PyProof.Rows.sortedAll_at s.heap its (List.toArray out)
      have hlen : ys.length ≤ sizeLine := by rw [q2.length, hl]; exact hL
      refine ⟨.ref _, upd H (s.heap.objs.size + 1) (.lst ys), I.laid (t' := s.toks) (fun _ _ => PyProof.Rows.sortedAll_old) (Nat.le_succ _) ⟨hlen, out, ep, q2, he'⟩, rfl, ?_⟩
      exact fin_lst (C := cfx X fa ca) h w q1 (I.hok.fresh (Nat.le_succ _))
    have er : ∀ (xs : List V) (its : List Value), RelDs X.K fa μ H ds xs → Vals xs its → PySem.W.EachIs (fun v b => ∃ as, Reads s.heap v (id b) as) its ds := fun xs its r1 rv =>
      each_of (pins := pins) (σ := σ) (s := s) r1 rv fun d x u hd q1 q2 => Dp.reads I d x u (q1.dp (SeqAt.canLay_of_shaped (h1 d hd))) q2
    have ee : ∀ (xs : List V) (its : List Value), RelDs X.K fa μ H ds xs → Vals xs its → PySem.W.EachIs (fun u d => ∃ x, RelV x u ∧ RelD X.K fa μ H d x) its ds := fun xs its r1 rv =>
      each_of (pins := pins) (σ := σ) (s := s) r1 rv fun d x u hd q1 q2 => ⟨x, q2, q1⟩
    have hd : ∀ b, b ∈ ds → X.A.units + 2 + (id b).depth < cLine := fun b hb => by
      have := shp_depth (h1 b hb)
      show X.A.units + 2 + b.depth < cLine
      omega
    obtain ⟨a, xs, rfl, r1, ⟨hl, _⟩ | ⟨ht, rfl⟩⟩ := items_ok w rx e1
    · rw [Vals.ref1 r]
      obtain ⟨its, rv, pl, _⟩ := I.list (SqL.of hl)
      exact PySem.W.sorted_data (enc := id) pl.isList (ee xs its r1 rv) (er xs its r1 rv) h2 h3 hL hd (fin xs its r1 rv)
    · rw [Vals.ref1 r]
      obtain ⟨its, rv, pl, _⟩ := I.tuple ht
      exact PySem.W.sorted_dataT (enc := id) pl (ee xs its r1 rv) (er xs its r1 rv) h2 h3 hL hd (fin xs its r1 rv)
  · cases e2

/-! ### isinstance -/
def tyN : Ty → String
  | .int => "int" | .bool => "bool" | .str => "str" | .tuple => "tuple" | .list => "list"
theorem tyx_frz {K : PySem.W.Frag} {H : Hp} {a : Addr} {xs : List V} (h : SqT K H a xs) : TyX K H (.ref a) (.type "tuple") := by
  rcases h with (h | ⟨o, h⟩) | ⟨o, its, n, hk, hc, _⟩
  · exact .base (.tup h)
  · exact .fTuple h
  · exact .kTuple hk hc
theorem isi_kit {K : PySem.W.Frag} {H : Hp} {x : V} {n m : String} {t : Ty} {b : Bool} {Q : VK} (ty : TyX K H x (.type n)) (e : kitB n (tyN t) = some b) (q : Q (.bl b) H) : rIsi K [x, .ty (tyN t)] H Q :=
  ⟨x, .ty (tyN t), _, _, b, rfl, .ty _, ty, kit_ty e, q⟩
theorem isT_kit (t : Ty) : kitB "NoneType" (tyN t) = some false ∧ kitB "bool" (tyN t) = some (t == .bool || t == .int) ∧ kitB "int" (tyN t) = some (t == .int) ∧ kitB "str" (tyN t) = some (t == .str) ∧ kitB "tuple" (tyN t) = some (t == .tuple) ∧ kitB "list" (tyN t) = some (t == .list) ∧ kitB "dict" (tyN t) = some false := by
  cases t <;> exact ⟨by decide +kernel, by decide +kernel, by decide +kernel, by decide +kernel, by decide +kernel, by decide +kernel, by decide +kernel⟩
theorem isi_ok {σ0 : St} {μ : List Addr} {S : Store} {H : Hp} {d : PyData} {x : V} {t : Ty} {Q : VK} (w : Wf X.K fa μ S H) (rx : RelD X.K fa μ H d x) (h : PostF (cfx X fa ca) W σ0 μ H Q (ofO ((isT S t d).map .bool) S)) : rIsi X.K [x, .ty (tyN t)] H Q := by
  obtain ⟨k0, k1, k2, k3, k4, k5, k6⟩ := isT_kit t
  obtain ⟨e, he, h⟩ := ofO_or h
  obtain ⟨b, eb, rfl⟩ := Option.map_eq_some_iff.mp he
  have fin : Q (.bl b) H := hereF (C := cfx X fa ca) h w (.bl b)
  cases rx with
  | non => cases eb; exact isi_kit (m := "") (.base .non) k0 fin
  | bl y => cases eb; exact isi_kit (m := "") (.base (.bl y)) k1 fin
  | int i => cases eb; exact isi_kit (m := "") (.base (.int i)) k2 fin
  | str i => cases eb; exact isi_kit (m := "") (.base (.str i)) k3 fin
  | tup hq r1 => cases eb; exact isi_kit (m := "") (tyx_frz hq) k4 fin
  | lst hq _ _ r1 => cases eb; exact isi_kit (m := "") (.base (.lst hq)) k5 fin
  | cell hk =>
    rename_i k a
    have eb' : (match S[k]? with
      | some (.lst _) => some (t == .list)
      | some (.dct false _ _) => some false
      | _ => none) = some b := eb
    split at eb'
    · rename_i e1
      cases eb'
      obtain ⟨xs, e2, r1⟩ := w.cells _ _ _ hk e1
      exact isi_kit (m := "") (.base (.lst e2)) k5 fin
    · rename_i ks vs e1
      cases eb'
      have ok := w.cells _ _ _ hk e1
      obtain ⟨kvs, e2, _⟩ := ok
      exact isi_kit (m := "") (.base (.dK e2)) k6 fin
    · cases eb'
  | _ => cases eb
theorem boot_ty (t : Ty) : bootBuiltins (Str.ofString (tyN t)) = some (.type (tyN t)) := by cases t <;> first | rfl | decide +kernel | kernel_rfl
theorem ok_isi {t : Ty} {p p2 pos : Pos} {e : Expr} {ea : EvE} (hg : Gl X "isinstance") (hm : X.mg "isinstance" = none) (hg2 : Gl X (Str.ofString (tyN t))) (hm2 : X.mg (Str.ofString (tyN t)) = none)
    (he : starEach [e, .Name (Str.ofString (tyN t)) p2] X.env = (false, eval e X.env) :: starEach [.Name (Str.ofString (tyN t)) p2] X.env) (he2 : starEach [.Name (Str.ofString (tyN t)) p2] X.env = (false, eval (.Name (Str.ofString (tyN t)) p2) X.env) :: starEach [] X.env)
    (hpl : (backTo pos (starEach [.Name (Str.ofString (tyN t)) p2] X.env)).any (·.1) = false)
    (ha : PE X e (rdE (cfx X fa ca) W ea)) : PE X (.Call (.Name "isinstance" p) [e, .Name (Str.ofString (tyN t)) p2] [] pos) (rdF (cfx X fa ca) W (eBlt (.isi t) (esCons ea esNil))) := by
  have hT : PE X (.Name (Str.ofString (tyN t)) p2) (tC (.ty (tyN t))) := pe_bltn hg2 hm2 (boot_ty t) rfl (by cases t <;> decide) (by cases t <;> decide)
  refine PE.mono (pe_callB call_isi hg hm (by first | rfl | decide +kernel | kernel_rfl) (pa_cons ha (pa_cons hT pa_nil he2) he) (by decide) (by decide) he hpl) fun σ H Q ⟨μ, ρ, S, hw, hp⟩ => ?_
  show rdE (cfx X fa ca) W ea σ H fun x H1 => rIsi X.K [x, .ty (tyN t)] H1 Q
  refine ⟨μ, ρ, S, hw, ?_⟩
  replace hp : PostF (cfx X fa ca) W σ μ H Q ((((ea ρ S).bind fun x S1 => (R.ok [] S1 : R (List PyData)).bind fun xs S2 => .ok (x :: xs) S2)).bind fun xs S1 => ofO (bltD (.isi t) S1 xs) S1) := hp
  cases e1 : ea ρ S with
  | ok d S1 =>
    rw [e1] at hp
    exact fun v H1 μ1 e w r => isi_ok w r (PostF.ext e hp)
  | exc c S1 => rw [e1] at hp; exact hp
  | stuck => rw [e1] at hp; exact hp
end
end Mk

set_option Elab.async false
set_option linter.all false
set_option maxRecDepth 100000
/-! MkS6: methods of texts, lists and dicts; pops; xs[::-1]; list(range(..)). -/
namespace Mk
open PySem PySem.Spec PyProof.Rows L2
section
variable {X : Cx} {fa : Fa} {ca : Nat → Option Addr} {W : WX}
/-! ### what is asked of a tree -/
def plainE : Expr → Bool
  | .Starred _ _ => false
  | _ => true
theorem star_cons {e : Expr} {es : List Expr} {env : PySem.Env} (h : plainE e = true) : starEach (e :: es) env = (false, eval e env) :: starEach es env := by
  cases e <;> first | rfl | cases h
theorem star_none : ∀ {es : List Expr} {env : PySem.Env} {pos : Pos}, es.all plainE = true → (backTo pos (starEach es env)).any (·.1) = false
  | [], _, _, _ => rfl
  | e :: es, env, pos, h => by
    rw [List.all_cons, Bool.and_eq_true] at h
    rw [star_cons h.1]
    show (false || (backTo pos (starEach es env)).any (·.1)) = false
    rw [star_none h.2]; rfl
theorem star_all : ∀ {es : List Expr} {env : PySem.Env} {pos : Pos}, es.all plainE = true → (backTo pos (starEach es env)).all (fun x => !x.1) = true
  | [], _, _, _ => rfl
  | e :: es, env, pos, h => by
    rw [List.all_cons, Bool.and_eq_true] at h
    rw [star_cons h.1]
    show (true && (backTo pos (starEach es env)).all (fun x => !x.1)) = true
    rw [star_all h.2]; rfl
def noBase : Expr → Bool
  | .Call (.Name _ _) [] [] _ => false
  | _ => true
theorem base_of {o : Expr} {name : Str} {env : PySem.Env} (h : noBase o = true) : attributeBase o name env (eval o env) = eval o env := by
  unfold attributeBase
  split
  · cases h
  · rfl
theorem few_of {es : List Expr} {env : PySem.Env} {pos : Pos} (h : es.all plainE = true) (hl : es.length < 30) : ((backTo pos (starEach es env)).all (fun x => !x.1) && (backToKw pos (keywordEach [] env)).all (fun x => x.1.isSome)
      && decide (es.length + ([] : List Keyword).length + (if ([] : List Keyword).isEmpty then 0 else 1) < 30)) = true := by
  rw [star_all h]
  show (true && decide (es.length + 0 + 0 < 30)) = true
  rw [decide_eq_true (by omega)]; rfl

/-! ### methods -/
def mthT : Blt → String
  | .index => "list" | .get1 => "dict" | .get2 => "dict" | _ => "str"
theorem rd_mth {b : Blt} {eo : EvE} {es : EvEs} {T : String} {r : V → List V → Hp → VK → Prop}
    (hT : ∀ (μ : List Addr) (S : Store) (H : Hp) (d : PyData) (x : V), Wf X.K fa μ S H → RelD X.K fa μ H d x → recv b S d = true → tyV X.K T x H)
    (hr : ∀ (σ0 : St) (μ : List Addr) (S : Store) (H : Hp) (Q : VK) (d : PyData) (x : V) (ds : List PyData) (xs : List V), Wf X.K fa μ S H → RelD X.K fa μ H d x → RelDs X.K fa μ H ds xs → PostF (cfx X fa ca) W σ0 μ H Q (ofO (bltD b S (d :: ds)) S) → r x xs H Q)
    (σ : St) (H : Hp) (Q : VK) (h : rdF (cfx X fa ca) W (eMth b eo es) σ H Q) : tBM X.K T r (rdE (cfx X fa ca) W eo) (rdEs (cfx X fa ca) W es) σ H Q := by
  obtain ⟨μ, ρ, S, hw, hp⟩ := h
  refine ⟨μ, ρ, S, hw, PostF.bind hp fun d S1 x H1 μ1 e1 w1 r1 p1 => ?_⟩
  cases g : recv b S1 d with
  | false => rw [g] at p1; exact p1.elim
  | true =>
    rw [g] at p1
    refine ⟨hT μ1 S1 H1 d x w1 r1 g, μ1, ρ, S1, hw.ext e1 w1, PostF.bind p1 fun ds S2 xs H2 μ2 e2 w2 r2 p2 => ?_⟩
    exact hr σ μ2 S2 H2 Q d x ds xs w2 (r1.ext w1 e2) r2 p2
theorem isStr_ty {μ : List Addr} {S : Store} {H : Hp} {d : PyData} {x : V} (r : RelD X.K fa μ H d x) (h : isStrD d = true) : tyV X.K "str" x H := by
  cases r with
  | str x => rfl
  | _ => cases h
theorem isLst_ty {μ : List Addr} {S : Store} {H : Hp} {d : PyData} {x : V} (w : Wf X.K fa μ S H) (r : RelD X.K fa μ H d x) (h : (lstOf S d).isSome = true) : tyV X.K "list" x H := by
  obtain ⟨ds, e⟩ := Option.isSome_iff_exists.mp h
  obtain ⟨a, xs, rfl, r1, h1⟩ := lst_ok w r e
  exact .inl ⟨rfl, xs, SqL.of h1⟩
theorem isDct_ty {μ : List Addr} {S : Store} {H : Hp} {d : PyData} {x : V} (w : Wf X.K fa μ S H) (r : RelD X.K fa μ H d x) (h : (dctOf S d).any (!·.1) = true) : ∃ a kvs, x = .ref a ∧ H a = some (.dK kvs) := by
  have h2 : ∃ t ks vs, dctOf S d = some (t, ks, vs) ∧ (!t) = true := by
    cases q : dctOf S d with
    | none => rw [q] at h; cases h
    | some z => rw [q] at h; exact ⟨z.1, z.2.1, z.2.2, rfl, h⟩
  obtain ⟨t, ks, vs, e, ht⟩ := h2
  unfold dctOf at e
  split at e
  · rename_i k
    cases r with
    | cell hk =>
      split at e
      · rename_i t ks vs e1
        cases e
        have ok := w.cells _ _ _ hk e1
        cases t with
        | true => cases ht
        | false => obtain ⟨kvs, e2, _⟩ := ok; exact ⟨_, kvs, rfl, e2⟩
      · cases e
  · cases e
section
variable {o e : Expr} {es : List Expr} {eo : EvE} {ev : EvEs} {apos cpos : Pos}
theorem ok_split (ho : PE X o (rdE (cfx X fa ca) W eo)) (ha : PA X (e :: es) (rdEs (cfx X fa ca) W ev)) (hb : noBase o = true) (hs : (e :: es).all plainE = true) (hl : (e :: es).length < 30) (hp : (apos.endLine == cpos.line) = true) :
    PE X (.Call (.Attribute o "split" apos) (e :: es) [] cpos) (rdF (cfx X fa ca) W (eMth .split eo ev)) := by
  have hs' := hs; rw [List.all_cons, Bool.and_eq_true] at hs'
  refine PE.mono (pe_bm PySem.F.plainAttrs_str PySem.F.slot_str_split PySem.F.type_str_split mt_split ho ha (base_of hb) (few_of hs hl) hp (star_cons hs'.1) (star_none hs'.2)) fun σ H Q h => rd_mth (b := .split) (fun μ S H d x w r g => isStr_ty (S := S) r g) (fun σ0 μ S H Q d x ds xs w r rs p => ?_) σ H Q h
  obtain ⟨z, hz, p⟩ := ofO_or p
  obtain ⟨d1, d2, e1, he⟩ := two_some (f := splitD) hz
  cases e1
  obtain ⟨y, rfl, ry⟩ := rels1 rs
  unfold splitD at he
  split at he
  · cases r; cases ry
    split at he
    · rename_i hc
      cases he
      rw [Bool.and_eq_true] at hc
      refine ⟨_, _, rfl, rfl, by simpa using hc.1, lenOk_le hc.2, fun q hq => ?_⟩
      refine fin_lst (C := cfx X fa ca) p w ?_ hq
      generalize Txt.split _ _ = l
      induction l with
      | nil => exact .nil
      | cons a l ih => exact .cons (.str a) ih
    · cases he
  · cases he
theorem ok_part (ho : PE X o (rdE (cfx X fa ca) W eo)) (ha : PA X (e :: es) (rdEs (cfx X fa ca) W ev)) (hb : noBase o = true) (hs : (e :: es).all plainE = true) (hl : (e :: es).length < 30) (hp : (apos.endLine == cpos.line) = true) :
    PE X (.Call (.Attribute o "partition" apos) (e :: es) [] cpos) (rdF (cfx X fa ca) W (eMth .part eo ev)) := by
  have hs' := hs; rw [List.all_cons, Bool.and_eq_true] at hs'
  refine PE.mono (pe_bm PySem.F.plainAttrs_str PySem.F.slot_str_partition PySem.F.type_str_partition mt_partition ho ha (base_of hb) (few_of hs hl) hp (star_cons hs'.1) (star_none hs'.2)) fun σ H Q h => rd_mth (b := .part) (fun μ S H d x w r g => isStr_ty (S := S) r g) (fun σ0 μ S H Q d x ds xs w r rs p => ?_) σ H Q h
  obtain ⟨z, hz, p⟩ := ofO_or p
  obtain ⟨d1, d2, e1, he⟩ := two_some (f := partD) hz
  cases e1
  obtain ⟨y, rfl, ry⟩ := rels1 rs
  unfold partD at he
  split at he
  · cases r; cases ry
    split at he
    · rename_i hc
      cases he
      rw [Bool.and_eq_true] at hc
      exact ⟨_, _, rfl, rfl, by simpa using hc.1, lenOk_le hc.2, fun q hq => fin_tup (C := cfx X fa ca) p w (.cons (.str _) (.cons (.str _) (.cons (.str _) .nil))) hq⟩
    · cases he
  · cases he
theorem strs_rel {K : PySem.W.Frag} {μ : List Addr} {H : Hp} : ∀ {ds : List PyData} {vs : List V} {ys : List Str}, RelDs K fa μ H ds vs → strsOf ds = some ys → vs = ys.map V.str
  | _, _, _, .nil, e => by cases e; rfl
  | _, _, ns, .cons h t, e => by
    cases h with
    | str i =>
      simp only [strsOf, Option.map_eq_some_iff] at e
      obtain ⟨r, e1, rfl⟩ := e
      rw [strs_rel t e1]; rfl
    | _ => simp [strsOf] at e
theorem ok_join (ho : PE X o (rdE (cfx X fa ca) W eo)) (ha : PA X (e :: es) (rdEs (cfx X fa ca) W ev)) (hb : noBase o = true) (hs : (e :: es).all plainE = true) (hl : (e :: es).length < 30) (hp : (apos.endLine == cpos.line) = true) :
    PE X (.Call (.Attribute o "join" apos) (e :: es) [] cpos) (rdF (cfx X fa ca) W (eMth .join eo ev)) := by
  have hs' := hs; rw [List.all_cons, Bool.and_eq_true] at hs'
  refine PE.mono (pe_bm PySem.F.plainAttrs_str PySem.F.slot_str_join PySem.F.type_str_join mt_join ho ha (base_of hb) (few_of hs hl) hp (star_cons hs'.1) (star_none hs'.2)) fun σ H Q h => rd_mth (b := .join) (fun μ S H d x w r g => isStr_ty (S := S) r g) (fun σ0 μ S H Q d x ds xs w r rs p => ?_) σ H Q h
  obtain ⟨z, hz, p⟩ := ofO_or p
  obtain ⟨d1, d2, e1, he⟩ := two_some (f := joinD S) hz
  cases e1
  obtain ⟨y, rfl, ry⟩ := rels1 rs
  unfold joinD at he
  split at he
  · cases r
    obtain ⟨ys, e2, e3⟩ := Option.bind_eq_some_iff.mp he
    obtain ⟨ds, e4, e5⟩ := Option.bind_eq_some_iff.mp e2
    split at e3
    · rename_i hc
      cases e3
      obtain ⟨a, zs, rfl, r1, ⟨h1, _⟩ | ⟨h1, _⟩⟩ := items_ok w ry e4
      · obtain rfl := strs_rel r1 e5
        exact ⟨_, a, ys, rfl, rfl, .inl (SqL.of h1), hc, hereF (C := cfx X fa ca) p w (.str _)⟩
      · obtain rfl := strs_rel r1 e5
        exact ⟨_, a, ys, rfl, rfl, .inr h1, hc, hereF (C := cfx X fa ca) p w (.str _)⟩
    · cases e3
  · cases he
theorem ok_index (hu : X.A.units + 65 < cLine) (ho : PE X o (rdE (cfx X fa ca) W eo)) (ha : PA X (e :: es) (rdEs (cfx X fa ca) W ev)) (hb : noBase o = true) (hs : (e :: es).all plainE = true) (hl : (e :: es).length < 30) (hp : (apos.endLine == cpos.line) = true) :
    PE X (.Call (.Attribute o "index" apos) (e :: es) [] cpos) (rdF (cfx X fa ca) W (eMth .index eo ev)) := by
  have hs' := hs; rw [List.all_cons, Bool.and_eq_true] at hs'
  refine PE.mono (pe_bm PySem.F.plainAttrs_list PySem.F.slot_list_index PySem.F.type_list_index (mt_indexD hu) ho ha (base_of hb) (few_of hs hl) hp (star_cons hs'.1) (star_none hs'.2)) fun σ H Q h => rd_mth (b := .index) (fun μ S H d x w r g => isLst_ty w r g) (fun σ0 μ S H Q d x ds xs w r rs p => ?_) σ H Q h
  obtain ⟨z, hz, p⟩ := ofO_or p
  obtain ⟨d1, d2, e1, he⟩ := two_some (f := fun d x => (lstOf S d).bind fun ds => indexOf ds x) hz
  cases e1
  obtain ⟨y, rfl, ry⟩ := rels1 rs
  obtain ⟨ls, e2, e3⟩ := Option.bind_eq_some_iff.mp he
  obtain ⟨a, vs, rfl, r1, h1⟩ := lst_ok w r e2
  unfold indexOf at e3
  split at e3
  · rename_i hc
    rw [Bool.and_eq_true] at hc
    obtain ⟨j, e4, rfl⟩ := Option.map_eq_some_iff.mp e3
    have hcl : PyData.canLayAll0 ls = true := by simpa [PyData.canLay0] using SeqAt.canLay_of_shaped hc.2
    obtain ⟨hj, h2, h3⟩ := List.findIdx?_eq_some_iff_getElem.mp e4
    refine ⟨a, y, d2, ls, j, ls[j], rfl, rfl, .lst (SqL.of h1) (r1.dp hcl), ry.dp (SeqAt.canLay_of_shaped hc.1), hc.2, hc.1, List.getElem?_eq_getElem hj, h2, fun m z' hm hz' => ?_, hereF (C := cfx X fa ca) p w (.int _)⟩
    obtain ⟨hm2, rfl⟩ := List.getElem?_eq_some_iff.mp hz'
    have := h3 m hm
    simpa using this
  · cases e3
end
/-! ### d.get -/
section
variable {o e f : Expr} {eo : EvE} {ea eb : EvE} {apos cpos : Pos}
theorem few1 {env : PySem.Env} {x : Str} {t : Bool} (hs : plainE e = true) (hb : noBase o = true) (hp : (apos.endLine == cpos.line) = true) (he : X.env = env) : M1 X o x apos e cpos := by
  have h : [e].all plainE = true := by simp [hs]
  refine ⟨base_of hb, few_of h (by show 1 < 30; decide), hp, ?_⟩
  rw [star_cons hs]; rfl
theorem few2 {x : Str} (hs : plainE e = true) (hs2 : plainE f = true) (hb : noBase o = true) (hp : (apos.endLine == cpos.line) = true) : M2 X o x apos e f cpos := by
  have h : [e, f].all plainE = true := by simp [hs, hs2]
  refine ⟨base_of hb, few_of h (by show 2 < 30; decide), hp, ?_⟩
  rw [star_cons hs, star_cons hs2]; rfl
theorem get_ok {σ0 : St} {μ : List Addr} {S : Store} {H : Hp} {Q : VK} {d k y0 : PyData} {x y z : V} (w : Wf X.K fa μ S H) (rx : RelD X.K fa μ H d x) (ry : RelD X.K fa μ H k y) (rz : RelD X.K fa μ H y0 z) (h : PostE (cfx X fa ca) W σ0 μ H Q (ofO (getD S d k y0) S)) : ∃ a r, x = .ref a ∧ DGet H a y r ∧ Q (r.getD z) H := by
  obtain ⟨w', he, h⟩ := PostG.ofO h
  unfold getD at he
  split at he
  · rename_i c
    split at he
    · rename_i t ks vs e1
      split at he
      · rename_i hk
        cases he
        obtain ⟨p, r, rfl, g, hr⟩ := dct_get w ry rx e1 hk
        refine ⟨p, r, rfl, g, PostG.here h w ?_⟩
        cases hl : lookK k ks vs with
        | some d' =>
          rw [hl] at hr
          obtain ⟨v, rfl, rv⟩ := hr
          exact rv
        | none =>
          rw [hl] at hr
          subst hr
          exact rz
      · cases he
    · cases he
  · cases he
theorem isD_of {μ : List Addr} {S : Store} {H : Hp} {d : PyData} {x : V} (w : Wf X.K fa μ S H) (r : RelD X.K fa μ H d x) (h : (dctOf S d).any (!·.1) = true) : ∃ a, x = .ref a ∧ IsD H a := by
  obtain ⟨a, kvs, rfl, e⟩ := isDct_ty w r h
  exact ⟨a, rfl, .inl ⟨kvs, .inl e⟩⟩
theorem ok_get1 (hu : X.A.units + 1 < cLine) (ho : PE X o (rdE (cfx X fa ca) W eo)) (ha : PE X e (rdE (cfx X fa ca) W ea)) (hb : noBase o = true) (hs : plainE e = true) (hp : (apos.endLine == cpos.line) = true) :
    PE X (.Call (.Attribute o "get" apos) [e] [] cpos) (rdE (cfx X fa ca) W (eMth .get1 eo (esCons ea esNil))) := by
  refine PE.mono (pe_dget1 hu ho ha (few1 (t := true) hs hb hp rfl)) fun σ H Q ⟨μ, ρ, S, hw, hp⟩ => ?_
  refine ⟨μ, ρ, S, hw, PostG.bind hp fun d S1 x H1 μ1 e1 w1 r1 p1 => ?_⟩
  obtain ⟨g, p1⟩ := PostG.guard p1
  obtain ⟨a, rfl, hd⟩ := isD_of w1 r1 g
  refine ⟨a, rfl, hd, μ1, ρ, S1, hw.ext e1 w1, ?_⟩
  replace p1 : PostE (cfx X fa ca) W σ μ1 H1 Q (((ea ρ S1).bind fun x S1 => (R.ok [] S1 : R (List PyData)).bind fun xs S2 => .ok (x :: xs) S2).bind fun xs S2 => ofO (bltD .get1 S2 (d :: xs)) S2) := p1
  cases q : ea ρ S1 with
  | ok k S2 =>
    rw [q] at p1
    intro y H2 μ2 e2 w2 r2
    obtain ⟨a', r, er, g2, q2⟩ := get_ok w2 (r1.ext w1 e2) r2 .non (PostG.ext e2 p1)
    cases er
    exact ⟨r, g2, q2⟩
  | exc c S2 => rw [q] at p1; exact p1
  | stuck => rw [q] at p1; exact p1
end

/-! ### pops -/
section
variable {o : Expr} {es : List Expr} {eo : EvE} {ev : EvEs} {apos cpos : Pos}
theorem cell_rel {μ : List Addr} {S : Store} {H : Hp} {k : Nat} {ds : List PyData} {x : V} (w : Wf X.K fa μ S H) (r : RelD X.K fa μ H (rf k) x) (h : cellOf S k = some ds) : ∃ a xs, x = .ref a ∧ μ[k]? = some a ∧ H a = some (.lst xs) ∧ RelDs X.K fa μ H ds xs := by
  cases r with
  | cell hk =>
    unfold cellOf at h
    split at h
    · rename_i ds' e
      cases h
      obtain ⟨xs, e2, r1⟩ := w.cells _ _ _ hk e
      exact ⟨_, xs, rfl, hk, e2, r1⟩
    · cases h
theorem isCell_ty {μ : List Addr} {S : Store} {H : Hp} {d : PyData} {x : V} (w : Wf X.K fa μ S H) (r : RelD X.K fa μ H d x) (h : isCell S d = true) : tyV X.K "list" x H := by
  unfold isCell at h
  split at h
  · obtain ⟨ds, e⟩ := Option.isSome_iff_exists.mp h
    obtain ⟨a, xs, rfl, _, h1, _⟩ := cell_rel w r e
    exact .inl ⟨rfl, xs, SqL.of h1⟩
  · cases h
/-- a list's cell gets new items -/
theorem same_l {H : Hp} {a : Addr} {xs ys : List V} (h : H a = some (.lst xs)) : ∀ u, H a = some u → Sm u (.lst ys) := fun u e => by
  rw [h] at e; cases e; exact ⟨rfl, fun z => nomatch z⟩
theorem Wf.lset {μ : List Addr} {S : Store} {H : Hp} {k : Nat} {a : Addr} {ds : List PyData} {xs ys : List V} (w : Wf X.K fa μ S H) (hk : μ[k]? = some a) (hH : H a = some (.lst xs)) (r : RelDs X.K fa μ H ds ys) : Wf X.K fa μ (S.set k (.lst ds)) (upd H a (.lst ys)) :=
  w.setC hk (same_l hH) ⟨ys, upd_same, r.ext w (Ext.set (List.mem_of_getElem? hk) (same_l hH))⟩
theorem pop_ok {σ0 : St} {μ : List Addr} {S : Store} {H : Hp} {Q : VK} {k : Nat} {i : Int} {x : V} (w : Wf X.K fa μ S H) (r : RelD X.K fa μ H (rf k) x) (h : PostE (cfx X fa ca) W σ0 μ H Q (popD S k i)) :
    ∃ l xs j y, x = .ref l ∧ H l = some (.lst xs) ∧ -(2 ^ 62) ≤ i ∧ i < 2 ^ 62 ∧ ixN xs.length i = some j ∧ xs[j]? = some y ∧ Q y (upd H l (.lst (xs.eraseIdx j))) := by
  unfold popD at h
  split at h
  · rename_i ds e
    obtain ⟨a, xs, rfl, hk, hH, r1⟩ := cell_rel w r e
    split at h
    · rename_i hf
      obtain ⟨f1, f2⟩ := fits_of hf
      split at h
      · rename_i j hj
        split at h
        · rename_i y hy
          obtain ⟨v, hv, rv⟩ := r1.get hy
          refine ⟨a, xs, j, v, rfl, hH, f1, f2, by rw [r1.length]; exact hj, hv, ?_⟩
          have e2 : Ext fa μ H μ (upd H a (.lst (xs.eraseIdx j))) := Ext.set (List.mem_of_getElem? hk) (same_l hH)
          exact h v _ μ e2 (Wf.lset w hk hH (r1.eraseIdx j)) (rv.ext w e2)
        · exact h.elim
      · exact h.elim
    · exact h.elim
  · exact h.elim
theorem eraseIdx_last' {α : Type} (xs : List α) : xs.eraseIdx (xs.length - 1) = xs.dropLast := PyProof.Rows.Copied.eraseIdx_last xs
theorem pop_r {σ0 : St} {μ : List Addr} {S : Store} {H : Hp} {Q : VK} {d : PyData} {ds : List PyData} {x : V} {xs : List V} (w : Wf X.K fa μ S H) (r : RelD X.K fa μ H d x) (rs : RelDs X.K fa μ H ds xs) (h : PostE (cfx X fa ca) W σ0 μ H Q (popW d ds S)) : rPop x xs H Q ∨ rPopAt x xs H Q := by
  unfold popW at h
  split at h
  · obtain ⟨l, ys, j, y, rfl, hH, _, _, hj, hy, q⟩ := pop_ok w r h
    cases rs
    have e1 := ixN_seq hj
    have hj' : j = ys.length - 1 := by
      have h2 := e1.2.1
      unfold ixN at hj
      split at hj
      · omega
      · split at hj
        · cases hj; omega
        · cases hj
    subst hj'
    rw [eraseIdx_last'] at q
    exact .inl ⟨l, ys, y, rfl, rfl, hH, hy, q⟩
  · rename_i k i
    obtain ⟨l, ys, j, y, rfl, hH, f1, f2, hj, hy, q⟩ := pop_ok w r h
    obtain ⟨z, rfl, rz⟩ := rels1 rs
    cases rz
    exact .inr ⟨l, ys, i, j, y, rfl, rfl, hH, by omega, by omega, (ixN_seq hj).1, hy, q⟩
  · exact h.elim
theorem mt_pops : MtR X "list.pop" (fun x xs H Q => rPop x xs H Q ∨ rPopAt x xs H Q) := by
  intro pins s σ H x xs v us Q I rx rxs h
  rcases h with h | h
  · exact mt_pop pins s σ H x xs v us Q I rx rxs h
  · exact mt_popAt pins s σ H x xs v us Q I rx rxs h
theorem rd_pop {ev : EvEs} (σ : St) (H : Hp) (Q : VK) (h : rdE (cfx X fa ca) W (ePop eo ev) σ H Q) : tBM X.K "list" (fun x xs H Q => rPop x xs H Q ∨ rPopAt x xs H Q) (rdE (cfx X fa ca) W eo) (rdEs (cfx X fa ca) W ev) σ H Q := by
  obtain ⟨μ, ρ, S, hw, hp⟩ := h
  refine ⟨μ, ρ, S, hw, PostG.bind hp fun d S1 x H1 μ1 e1 w1 r1 p1 => ?_⟩
  obtain ⟨g, p1⟩ := PostG.guard p1
  refine ⟨isCell_ty w1 r1 g, μ1, ρ, S1, hw.ext e1 w1, PostG.bind p1 fun ds S2 xs H2 μ2 e2 w2 r2 p2 => ?_⟩
  exact pop_r w2 (r1.ext w1 e2) r2 p2
theorem ok_pop {e : Expr} (ho : PE X o (rdE (cfx X fa ca) W eo)) (ha : PA X (e :: es) (rdEs (cfx X fa ca) W ev)) (hb : noBase o = true) (hs : (e :: es).all plainE = true) (hl : (e :: es).length < 30) (hp : (apos.endLine == cpos.line) = true) :
    PE X (.Call (.Attribute o "pop" apos) (e :: es) [] cpos) (rdE (cfx X fa ca) W (ePop eo ev)) := by
  have hs' := hs; rw [List.all_cons, Bool.and_eq_true] at hs'
  exact PE.mono (pe_bm PySem.F.plainAttrs_list PySem.F.slot_list_pop PySem.F.type_list_pop mt_pops ho ha (base_of hb) (few_of hs hl) hp (star_cons hs'.1) (star_none hs'.2)) fun σ H Q h => rd_pop σ H Q h
theorem ok_pop0 (ho : PE X o (rdE (cfx X fa ca) W eo)) (hb : noBase o = true) (hp : (apos.endLine == cpos.line) = true) :
    PE X (.Call (.Attribute o "pop" apos) [] [] cpos) (rdE (cfx X fa ca) W (ePop eo esNil)) :=
  PE.mono (pe_bm0 PySem.F.plainAttrs_list PySem.F.slot_list_pop PySem.F.type_list_pop mt_pops ho (base_of hb) hp) fun σ H Q h => by
    obtain ⟨μ, ρ, S, hw, hp⟩ := h
    refine ⟨μ, ρ, S, hw, PostG.bind hp fun d S1 x H1 μ1 e1 w1 r1 p1 => ?_⟩
    obtain ⟨g, p1⟩ := PostG.guard p1
    exact ⟨isCell_ty w1 r1 g, pop_r w1 r1 .nil p1⟩
end

/-! ### xs[::-1] -/
theorem ok_rev {e : Expr} {ea : EvE} {k : Nat} {p1 p2 p3 pos : Pos} (he : PE X e (rdE (cfx X fa ca) W ea)) : PE X (.Subscript e (.Slice none none (some (.UnaryOp .USub (.Constant (.int 1) k p1) p2)) p3) pos) (rdF (cfx X fa ca) W (eRev ea)) :=
  PE.mono (pe_revA he) fun σ H Q ⟨μ, ρ, S, hw, hp⟩ => ⟨μ, ρ, S, hw, PostF.bind hp fun d S1 x H1 μ1 e1 w1 r1 p1 => by
    obtain ⟨z, hz, p1⟩ := ofO_or p1
    unfold revD at hz
    split at hz
    · cases hz
      cases r1 with
      | tup hq r2 => exact ⟨_, _, rfl, .inr ⟨hq, fun p hn => fin_tup (C := cfx X fa ca) p1 w1 r2.rev hn⟩⟩
    · obtain ⟨ds, e2, rfl⟩ := Option.map_eq_some_iff.mp hz
      obtain ⟨a, xs, rfl, r2, h2⟩ := lst_ok w1 r1 e2
      exact ⟨a, xs, rfl, .inl ⟨SqL.of h2, fun p hn => fin_lst (C := cfx X fa ca) p1 w1 r2.rev hn⟩⟩⟩

/-! ### list(range(..)) -/
theorem rg_rel {K : PySem.W.Frag} {μ : List Addr} {H : Hp} (i : Int) : ∀ l : List Nat, RelDs K fa μ H (l.map fun (k : Nat) => .int (i + (k : Int))) (l.map fun k => V.int (i + (k : Nat)))
  | [] => .nil
  | a :: l => .cons (.int _) (rg_rel i l)
theorem ok_lrange1 {e : Expr} {ea : EvE} {p p2 pos pos2 : Pos} (hc : X.calm = true) (hg : Gl X "list") (hm : X.mg "list" = none) (hg2 : Gl X "range") (hm2 : X.mg "range" = none) (hs : plainE e = true) (ha : PE X e (rdE (cfx X fa ca) W ea)) :
    PE X (.Call (.Name "list" p) [.Call (.Name "range" p2) [e] [] pos2] [] pos) (rdF (cfx X fa ca) W (eBlt .range1 (esCons ea esNil))) := by
  refine PE.mono (pe_listRg hc hg hm (prg_1 hg2 hm2 ha (star_cons hs))) fun σ H Q ⟨μ, ρ, S, hw, hp⟩ => ⟨μ, ρ, S, hw, ?_⟩
  replace hp : PostF (cfx X fa ca) W σ μ H Q ((((ea ρ S).bind fun x S1 => (R.ok [] S1 : R (List PyData)).bind fun xs S2 => .ok (x :: xs) S2)).bind fun xs S1 => ofO (bltD .range1 S1 xs) S1) := hp
  cases e1 : ea ρ S with
  | ok d S1 =>
    rw [e1] at hp
    intro v H1 μ1 e w r
    replace hp := PostF.ext e hp
    obtain ⟨z, hz, hp⟩ := ofO_or hp
    replace hz : range1D d = some z := hz
    unfold range1D at hz
    split at hz
    · cases r
      split at hz
      · rename_i hc
        cases hz
        rw [Bool.and_eq_true] at hc
        obtain ⟨f1, f2⟩ := fits_of hc.1
        have f3 := lenOk_le hc.2
        have hs := sizeLine_eq
        refine ⟨_, rfl, ⟨by omega, by omega, f1, f2, by rw [Int.sub_zero]; omega⟩, fun q hq => fin_lst (C := cfx X fa ca) hp w ?_ hq⟩
        unfold rgV
        rw [Int.sub_zero]
        exact rg_rel 0 _
      · cases hz
    · cases hz
  | exc c S1 => rw [e1] at hp; exact hp
  | stuck => rw [e1] at hp; exact hp
theorem ok_lrange2 {e f : Expr} {ea eb : EvE} {p p2 pos pos2 : Pos} (hc : X.calm = true) (hg : Gl X "list") (hm : X.mg "list" = none) (hg2 : Gl X "range") (hm2 : X.mg "range" = none) (hs : plainE e = true) (hs2 : plainE f = true) (ha : PE X e (rdE (cfx X fa ca) W ea)) (hb : PE X f (rdE (cfx X fa ca) W eb)) :
    PE X (.Call (.Name "list" p) [.Call (.Name "range" p2) [e, f] [] pos2] [] pos) (rdF (cfx X fa ca) W (eBlt .range2 (esCons ea (esCons eb esNil)))) := by
  refine PE.mono (pe_listRg hc hg hm (prg_2 hg2 hm2 ha hb (star_cons hs) (star_cons hs2) (star_none (by simp [hs2])))) fun σ H Q ⟨μ, ρ, S, hw, hp⟩ => ⟨μ, ρ, S, hw, ?_⟩
  replace hp : PostF (cfx X fa ca) W σ μ H Q (((ea ρ S).bind fun x S1 => ((eb ρ S1).bind fun x S1 => (R.ok [] S1 : R (List PyData)).bind fun xs S2 => .ok (x :: xs) S2).bind fun xs S2 => .ok (x :: xs) S2).bind fun xs S1 => ofO (bltD .range2 S1 xs) S1) := hp
  cases e1 : ea ρ S with
  | ok d S1 =>
    rw [e1] at hp
    intro v H1 μ1 e w r
    replace hp := PostF.ext e hp
    refine ⟨μ1, ρ, S1, hw.ext e w, ?_⟩
    replace hp : PostF (cfx X fa ca) W σ μ1 H1 Q ((((eb ρ S1).bind fun x S1 => (R.ok [] S1 : R (List PyData)).bind fun xs S2 => .ok (x :: xs) S2).bind fun xs S2 => .ok (d :: xs) S2).bind fun xs S1 => ofO (bltD .range2 S1 xs) S1) := hp
    cases e2 : eb ρ S1 with
    | ok d2 S2 =>
      rw [e2] at hp
      intro v2 H2 μ2 ee w2 r2
      replace hp := PostF.ext ee hp
      have r' := r.ext w ee
      obtain ⟨z, hz, hp⟩ := ofO_or hp
      replace hz : range2D d d2 = some z := hz
      unfold range2D at hz
      split at hz
      · cases r'; cases r2
        split at hz
        · rename_i hc
          cases hz
          rw [Bool.and_eq_true, Bool.and_eq_true] at hc
          obtain ⟨f1, f2⟩ := fits_of hc.1.1
          obtain ⟨g1, g2⟩ := fits_of hc.1.2
          have f3 := lenOk_le hc.2
          have hs := sizeLine_eq
          exact ⟨_, _, rfl, rfl, ⟨f1, f2, g1, g2, by omega⟩, fun q hq => fin_lst (C := cfx X fa ca) hp w2 (rg_rel _ _) hq⟩
        · cases hz
      · cases hz
    | exc c S1 => rw [e2] at hp; exact hp
    | stuck => rw [e2] at hp; exact hp
  | exc c S1 => rw [e1] at hp; exact hp
  | stuck => rw [e1] at hp; exact hp
end
end Mk

set_option Elab.async false
set_option linter.all false
set_option maxRecDepth 100000
/-! MkS7: what is walked; targets. -/
namespace Mk
open PySem PySem.Spec PyProof.Rows L2
/-- behind: no list that was there is being made now -/
def HidOk (fa : Fa) (hid : Addr → Prop) (H : Hp) : Prop := ∀ b, hid b → fa.hid b ∨ H b = none
abbrev Fa.hide (fa : Fa) (hid : Addr → Prop) : Fa := ⟨fa.adr, hid⟩
section
variable {K : PySem.W.Frag} {fa : Fa} {hid : Addr → Prop} {μ : List Addr} {H : Hp} {S : Store}
mutual
theorem RelD.hide (k : HidOk fa hid H) : ∀ {d : PyData} {v : V}, RelD K fa μ H d v → RelD K (fa.hide hid) μ H d v
  | _, _, .non => .non
  | _, _, .bl b => .bl b
  | _, _, .int i => .int i
  | _, _, .str x => .str x
  | _, _, .tup h r => .tup h (RelDs.hide k r)
  | _, _, .lst h n hh r => .lst h n (fun z => (k _ z).elim hh fun e => by rw [h] at e; cases e) (RelDs.hide k r)
  | _, _, .cell h => .cell h
  | _, _, .fn h => .fn h
  | _, _, .lk h r => .lk (h.imp (fun ⟨h, n, hh⟩ => ⟨h, n, fun z => (k _ z).elim hh fun e => by rcases h with h | ⟨o, h⟩ <;> (rw [h] at e; cases e)⟩) id) (RelDs.hide k r)
theorem RelDs.hide (k : HidOk fa hid H) : ∀ {ds : List PyData} {vs : List V}, RelDs K fa μ H ds vs → RelDs K (fa.hide hid) μ H ds vs
  | _, _, .nil => .nil
  | _, _, .cons h t => .cons (RelD.hide k h) (RelDs.hide k t)
end
theorem COk.hide (k : HidOk fa hid H) {a : Addr} {c : Cell} (h : COk K fa μ H a c) : COk K (fa.hide hid) μ H a c := by
  cases c with
  | lst ds => obtain ⟨xs, e, r⟩ := h; exact ⟨xs, e, r.hide k⟩
  | dct t ks vs =>
    cases t with
    | false => obtain ⟨kvs, e, e2, r⟩ := h; exact ⟨kvs, e, e2, r.hide k⟩
    | true => obtain ⟨ob, kvs, e, e2, r⟩ := h; exact ⟨ob, kvs, e, e2, r.hide k⟩
mutual

theorem RelD.shown {hid' : Addr → Prop} (k : ∀ b, hid' b → fa.hid b) : ∀ {d : PyData} {v : V}, RelD K fa μ H d v → RelD K (fa.hide hid') μ H d v
  | _, _, .non => .non
  | _, _, .bl b => .bl b
  | _, _, .int i => .int i
  | _, _, .str x => .str x
  | _, _, .tup h r => .tup h (RelDs.shown k r)
  | _, _, .lst h n hh r => .lst h n (fun z => hh (k _ z)) (RelDs.shown k r)
  | _, _, .cell h => .cell h
  | _, _, .fn h => .fn h
  | _, _, .lk h r => .lk (h.imp (fun ⟨h, n, hh⟩ => ⟨h, n, fun z => hh (k _ z)⟩) id) (RelDs.shown k r)
theorem RelDs.shown {hid' : Addr → Prop} (k : ∀ b, hid' b → fa.hid b) : ∀ {ds : List PyData} {vs : List V}, RelDs K fa μ H ds vs → RelDs K (fa.hide hid') μ H ds vs
  | _, _, .nil => .nil
  | _, _, .cons h t => .cons (RelD.shown k h) (RelDs.shown k t)
end
end

/-- the heap has grown; what is no cell and is not being made stands -/
structure ExtH (fa : Fa) (μ : List Addr) (H : Hp) (μ' : List Addr) (H' : Hp) : Prop where
  pre : ∃ ν, μ' = μ ++ ν ∧ ∀ b ∈ ν, H b = none
  keep : ∀ b o, H b = some o → b ∉ μ → (isL o = true → ¬ fa.hid b) → H' b = some o
  there : ∀ b o, H b = some o → ∃ o', H' b = some o' ∧ Sm o o'
section
variable {K : PySem.W.Frag} {fa : Fa} {μ μ' μ1 μ2 : List Addr} {H H' H1 H2 : Hp}
theorem Ext.toH (e : Ext fa μ H μ' H') {fb : Fa} : ExtH fb μ H μ' H' := ⟨e.pre, fun b o h n _ => e.keep b o h n, e.there⟩
theorem ExtH.trans (a : ExtH fa μ H μ1 H1) (b : ExtH fa μ1 H1 μ2 H2) : ExtH fa μ H μ2 H2 := by
  obtain ⟨ν, e1, f1⟩ := a.pre
  obtain ⟨ν', e2, f2⟩ := b.pre
  have fr : ∀ {b : Addr}, H1 b = none → H b = none := fun {b} h => by
    cases q : H b with
    | none => rfl
    | some o =>
      obtain ⟨o', z, _⟩ := a.there b o q
      rw [h] at z; cases z
  refine ⟨⟨ν ++ ν', by rw [e2, e1, List.append_assoc], fun x hx => ?_⟩, fun x o q hn hh => ?_, fun x o q => ?_⟩
  · rcases List.mem_append.mp hx with h | h
    · exact f1 x h
    · exact fr (f2 x h)
  · refine b.keep x o (a.keep x o q hn hh) (fun hm => ?_) hh
    rw [e1] at hm
    rcases List.mem_append.mp hm with h | h
    · exact hn h
    · have z := f1 x h
      rw [q] at z; cases z
  · obtain ⟨o', z, k⟩ := a.there x o q
    obtain ⟨o2, z2, k2⟩ := b.there x o' z
    exact ⟨o2, z2, k2.trans k⟩
theorem ExtH.get (e : ExtH fa μ H μ' H') {k : Nat} {a : Addr} (h : μ[k]? = some a) : μ'[k]? = some a := by
  obtain ⟨ν, r, _⟩ := e.pre
  rw [r, List.getElem?_append_left (List.getElem?_eq_some_iff.mp h).1]; exact h
theorem ExtH.out (e : ExtH fa μ H μ' H') {a : Addr} {o : HO} (h : H a = some o) (n : a ∉ μ) : a ∉ μ' := fun hm => by
  obtain ⟨ν, r, f⟩ := e.pre
  rw [r] at hm
  rcases List.mem_append.mp hm with z | z
  · exact n z
  · have q := f a z
    rw [h] at q; cases q
theorem SqT.extH {a : Addr} {xs : List V} (w : ∀ {a : Addr} {o : HO}, H a = some o → isC o = false → a ∉ μ) (e : ExtH fa μ H μ' H') (h : SqT K H a xs) : SqT K H' a xs := by
  rcases h with (h | ⟨o, h⟩) | h
  · exact .inl (.inl (e.keep _ _ h (w h rfl) (fun z => nomatch z)))
  · exact .inl (.inr ⟨o, e.keep _ _ h (w h rfl) (fun z => nomatch z)⟩)
  · exact .inr h
theorem Rd.extH {a : Addr} {u : HO} (n : a ∉ μ) (hh : ¬ fa.hid a) (e : ExtH fa μ H μ' H') (h : Rd H a u) : Rd H' a u ∧ a ∉ μ' := by
  rcases h with h | ⟨o, h⟩
  · exact ⟨.inl (e.keep _ _ h n fun _ => hh), e.out h n⟩
  · exact ⟨.inr ⟨o, e.keep _ _ h n fun z => nomatch z⟩, e.out h n⟩
mutual
theorem RelD.extH (w : ∀ {a : Addr} {o : HO}, H a = some o → isC o = false → a ∉ μ) (e : ExtH fa μ H μ' H') : ∀ {d : PyData} {v : V}, RelD K fa μ H d v → RelD K fa μ' H' d v
  | _, _, .non => .non
  | _, _, .bl b => .bl b
  | _, _, .int i => .int i
  | _, _, .str x => .str x
  | _, _, .tup h r => .tup (SqT.extH w e h) (RelDs.extH w e r)
  | _, _, .lst h n hh r => .lst (e.keep _ _ h n (fun _ => hh)) (e.out h n) hh (RelDs.extH w e r)
  | _, _, .cell h => .cell (e.get h)
  | _, _, .fn h => .fn h
  | _, _, .lk h r => .lk (h.imp (fun ⟨h, n, hh⟩ => ⟨(Rd.extH n hh e h).1, (Rd.extH n hh e h).2, hh⟩) id) (RelDs.extH w e r)
theorem RelDs.extH (w : ∀ {a : Addr} {o : HO}, H a = some o → isC o = false → a ∉ μ) (e : ExtH fa μ H μ' H') : ∀ {ds : List PyData} {vs : List V}, RelDs K fa μ H ds vs → RelDs K fa μ' H' ds vs
  | _, _, .nil => .nil
  | _, _, .cons h t => .cons (RelD.extH w e h) (RelDs.extH w e t)
end
end

/-- what is walked, as the layer's own -/
structure ItOk (C : Cf) (J : L2.It) (μ : List Addr) (H : Hp) (i : Mk.It) : Prop where
  go : ∀ (hid : Addr → Prop), HidOk C.fa hid H → ∀ (n : Nat) (μ' : List Addr) (S' : Store) (H' : Hp) (d : PyData), ExtH (C.fa.hide hid) μ H μ' H' → Wf C.K (C.fa.hide hid) μ' S' H' → i.at S' n = some d →
    J.go n H' ∧ ∀ x H'', J.yld n H' x H'' → Ext (C.fa.hide hid) μ' H' μ' H'' ∧ Wf C.K (C.fa.hide hid) μ' S' H'' ∧ RelD C.K (C.fa.hide hid) μ' H'' d x
  stop : ∀ (hid : Addr → Prop), HidOk C.fa hid H → ∀ (n : Nat) (μ' : List Addr) (S' : Store) (H' : Hp), ExtH (C.fa.hide hid) μ H μ' H' → Wf C.K (C.fa.hide hid) μ' S' H' → i.at S' n = none → J.stop n H'
abbrev PostI (C : Cf) := PostG (α := Mk.It) (β := L2.It) C (fun μ H i J => ItOk C J μ H i)
def rdI (C : Cf) (W : WX) (ev : EvI) : TI := fun σ H R => ∃ μ ρ S, SW C.K C.fa μ ρ S σ H ∧ PostI C W σ μ H R (ev ρ S)
theorem PI.mono {X : Cx} {tg e : Expr} {t t' : TI} (h : PI X tg e t) (i : ∀ σ H R, t' σ H R → t σ H R) : PI X tg e t' := ⟨fun pins s σ H R I hw => h.run pins s σ H R I (i _ _ _ hw)⟩
/-- a list, a tuple, a text -/
def iAny (K : PySem.W.Frag) (te : TE) : TI := fun σ H R => te σ H fun x H1 => (∃ a, x = .ref a ∧ (((∃ xs, SqL K H1 a xs) ∧ R (Itl K a) H1) ∨ ((∃ xs, SqT K H1 a xs) ∧ R (Itt K a) H1))) ∨ ∃ z, x = .str z ∧ R (Its z) H1
section
variable {X : Cx} {fa : Fa} {ca : Nat → Option Addr} {W : WX} {tg : Expr}
theorem pi_any {l : Expr} {tl : TE} (hl : PE X l tl) : PI X tg l (iAny X.K tl) := by
  refine ⟨fun pins s σ H R I h => ?_⟩
  refine thn (hl.run pins s σ H _ I h) fun v s1 ⟨x, H1, I1, r1, q1⟩ => ?_
  have one : ∀ b ∈ [s1.heap.objs.size], FpOk X pins H1 b := fun b hb => by
    have e : b = s1.heap.objs.size := by simpa using hb
    subst e
    exact I1.fpOk (Nat.le_refl _) (I1.hok.fresh (Nat.le_refl _))
  rcases q1 with ⟨a, e, ⟨⟨xs, hq⟩, q⟩ | ⟨⟨xs, hq⟩, q⟩⟩ | ⟨z, e, q⟩
  · subst e
    cases r1
    obtain ⟨its, rv, p, hz⟩ := I1.list hq
    refine wpAny_pyIter_list p.isList ?_
    exact ⟨s1.heap.objs.size, [s1.heap.objs.size], _, _, H1, rfl, I1.kept (t' := s1.toks) fun b o e => Heap.get?_push_of_some _ e, turn_list a _, ⟨_, Heap.get?_push_size _ rfl, rfl, rfl⟩, one, q⟩
  · subst e
    cases r1
    obtain ⟨its, rv, p, hz⟩ := I1.tuple hq
    refine wpAny_pyIter_tuple (show s1.heap.IsTuple a its.toArray from p) ?_
    exact ⟨s1.heap.objs.size, [s1.heap.objs.size], _, _, H1, rfl, I1.kept (t' := s1.toks) fun b o e => Heap.get?_push_of_some _ e, turn_tuple a _, ⟨_, Heap.get?_push_size _ rfl, rfl, rfl⟩, one, q⟩
  · subst e
    obtain ⟨t, rfl⟩ := r1
    cases ha : z.cps.all (· < 128)
    · exact wpAny_pyIter_wide ha (pi_one (tk := s1.toks) I1 _ (turn_str _ z t "str_iterator" (.inr rfl)) ⟨_, Heap.get?_push_size _ rfl, rfl, rfl⟩ q)
    · exact wpAny_pyIter_ascii ha (pi_one (tk := s1.toks) I1 _ (turn_str _ z t "str_ascii_iterator" (.inl rfl)) ⟨_, Heap.get?_push_size _ rfl, rfl, rfl⟩ q)

/-! ### each kind -/
section
variable {μ : List Addr} {H : Hp} {S : Store} {ds : List PyData} {xs : List V} {a : Addr}
theorem Wf.hide {K : PySem.W.Frag} {hid : Addr → Prop} (w : Wf K fa μ S H) (k : HidOk fa hid H) (h : ∀ b, hid b → b ∉ μ ∧ ∃ o, H b = some o) : Wf K (fa.hide hid) μ S H :=
  ⟨w.len, w.nd, fun k' a c h1 h2 => (w.cells k' a c h1 h2).hide k, h⟩

/-- a list or a tuple as it stands at each turn -/
def SqOk (tup : Bool) (C : Cf) (a : Addr) (μ : List Addr) (H : Hp) (i : Mk.It) : Prop :=
  ∀ (hid : Addr → Prop), HidOk C.fa hid H → ∀ (μ' : List Addr) (S' : Store) (H' : Hp), ExtH (C.fa.hide hid) μ H μ' H' → Wf C.K (C.fa.hide hid) μ' S' H' →
    ∃ xs ds, (if tup = true then SqT C.K H' a xs else SqL C.K H' a xs) ∧ RelDs C.K (C.fa.hide hid) μ' H' ds xs ∧ ∀ n, i.at S' n = ds[n]?
theorem sq_lst (w : Wf X.K fa μ S H) (h : LkAt X.K fa μ H a xs) (r : RelDs X.K fa μ H ds xs) : SqOk false (cfx X fa ca) a μ H (.seq ds) := by
  intro hid hk μ' S' H' e w'
  refine ⟨xs, ds, ?_, (r.hide hk).extH (fun h n => w.notIn h n) e, fun n => rfl⟩
  rw [if_neg Bool.false_ne_true]
  rcases h with ⟨h, n, hh⟩ | h
  · refine .inl (Rd.extH n (fun z => (hk a z).elim hh fun q => ?_) e h).1
    rcases h with h | ⟨o, h⟩ <;> (rw [h] at q; cases q)
  · exact h H'
theorem sq_tup (w : Wf X.K fa μ S H) (h : SqT X.K H a xs) (r : RelDs X.K fa μ H ds xs) : SqOk true (cfx X fa ca) a μ H (.seq ds) := by
  intro hid hk μ' S' H' e w'
  refine ⟨xs, ds, ?_, (r.hide hk).extH (fun h n => w.notIn h n) e, fun n => rfl⟩
  rw [if_pos rfl]
  exact SqT.extH (fun h n => w.notIn h n) e h
theorem len_at {S' : Store} {μ' : List Addr} {H' : Hp} {k : Nat} {a : Addr} (w : Wf X.K fa μ' S' H') (h : μ'[k]? = some a) : ∃ c, S'[k]? = some c := by
  obtain ⟨hk, _⟩ := List.getElem?_eq_some_iff.mp h
  exact ⟨_, List.getElem?_eq_getElem (by rw [← w.len]; exact hk)⟩
/-- a list's cell -/
theorem sq_cell {k : Nat} (w : Wf X.K fa μ S H) (hk : μ[k]? = some a) (h : H a = some (.lst xs)) : SqOk false (cfx X fa ca) a μ H (.cell k) := by
  intro hid hh μ' S' H' e w'
  have hk' := e.get hk
  obtain ⟨c, hc⟩ := len_at w' hk'
  have ok := w'.cells k a c hk' hc
  obtain ⟨o', ho, hl⟩ := e.there a _ h
  cases c with
  | lst ds =>
    obtain ⟨ys, e1, r⟩ := ok
    refine ⟨ys, ds, ?_, r, fun n => ?_⟩
    · rw [if_neg Bool.false_ne_true]; exact SqL.of e1
    · show (cellOf S' k).bind (·[n]?) = _
      unfold cellOf
      rw [hc]; rfl
  | dct t ks vs =>
    cases t with
    | true =>
      obtain ⟨ob, kvs, e1, _⟩ := ok
      rw [e1] at ho; cases ho
      cases hl.1
    | false =>
      obtain ⟨kvs, e1, _⟩ := ok
      rw [e1] at ho; cases ho
      cases hl.1
theorem it_ok_l {i : Mk.It} (h : SqOk false (cfx X fa ca) a μ H i) : ItOk (cfx X fa ca) (Itl X.K a) μ H i := by
  refine ⟨fun hid hk n μ' S' H' d e w' hd => ?_, fun hid hk n μ' S' H' e w' hd => ?_⟩
  · obtain ⟨xs, ds, h1, h2, h3⟩ := h hid hk μ' S' H' e w'
    rw [if_neg Bool.false_ne_true] at h1
    rw [h3] at hd
    obtain ⟨v, hv, rv⟩ := h2.get hd
    refine ⟨⟨xs, v, h1, hv⟩, fun x H'' ⟨e2, hy⟩ => ?_⟩
    subst e2
    have := hy xs h1
    rw [hv] at this; cases this
    exact ⟨.refl, w', rv⟩
  · obtain ⟨xs, ds, h1, h2, h3⟩ := h hid hk μ' S' H' e w'
    rw [if_neg Bool.false_ne_true] at h1
    rw [h3] at hd
    refine ⟨xs, h1, ?_⟩
    rw [h2.length]
    exact List.getElem?_eq_none_iff.mp hd
theorem it_ok_t {i : Mk.It} (h : SqOk true (cfx X fa ca) a μ H i) : ItOk (cfx X fa ca) (Itt X.K a) μ H i := by
  refine ⟨fun hid hk n μ' S' H' d e w' hd => ?_, fun hid hk n μ' S' H' e w' hd => ?_⟩
  · obtain ⟨xs, ds, h1, h2, h3⟩ := h hid hk μ' S' H' e w'
    rw [if_pos rfl] at h1
    rw [h3] at hd
    obtain ⟨v, hv, rv⟩ := h2.get hd
    refine ⟨⟨xs, v, h1, hv⟩, fun x H'' ⟨e2, hy⟩ => ?_⟩
    subst e2
    have := hy xs h1
    rw [hv] at this; cases this
    exact ⟨.refl, w', rv⟩
  · obtain ⟨xs, ds, h1, h2, h3⟩ := h hid hk μ' S' H' e w'
    rw [if_pos rfl] at h1
    rw [h3] at hd
    refine ⟨xs, h1, ?_⟩
    rw [h2.length]
    exact List.getElem?_eq_none_iff.mp hd
/-- a new pair -/
theorem pair_ok {fa' : Fa} {μ' : List Addr} {S' : Store} {H' : Hp} {T : Addr} {d e : PyData} {x y : V} (w : Wf X.K fa' μ' S' H') (hT : H' T = none) (rd : RelD X.K fa' μ' H' d x) (re : RelD X.K fa' μ' H' e y) :
    Ext fa' μ' H' μ' (upd H' T (.tup [x, y])) ∧ Wf X.K fa' μ' S' (upd H' T (.tup [x, y])) ∧ RelD X.K fa' μ' (upd H' T (.tup [x, y])) (.tuple [d, e]) (.ref T) :=
  ⟨Ext.new hT, w.new hT, .tup (SqT.of upd_same) (.cons (rd.ext w (Ext.new hT)) (.cons (re.ext w (Ext.new hT)) .nil))⟩
theorem it_ok_e {i : Mk.It} (h : SqOk false (cfx X fa ca) a μ H i) : ItOk (cfx X fa ca) (Ite X.K a) μ H (.enum i) := by
  refine ⟨fun hid hk n μ' S' H' d e w' hd => ?_, fun hid hk n μ' S' H' e w' hd => ?_⟩
  · obtain ⟨xs, ds, h1, h2, h3⟩ := h hid hk μ' S' H' e w'
    rw [if_neg Bool.false_ne_true] at h1
    replace hd : (i.at S' n).map (fun x => PyData.tuple [.int (n : Int), x]) = some d := hd
    obtain ⟨d', hd', rfl⟩ := Option.map_eq_some_iff.mp hd
    rw [h3] at hd'
    obtain ⟨v, hv, rv⟩ := h2.get hd'
    refine ⟨⟨xs, v, h1, hv⟩, fun x H'' ⟨T, y, e1, hT, e2, hy⟩ => ?_⟩
    subst e1 e2
    have := hy xs h1
    rw [hv] at this; cases this
    exact pair_ok w' hT (.int _) rv
  · obtain ⟨xs, ds, h1, h2, h3⟩ := h hid hk μ' S' H' e w'
    rw [if_neg Bool.false_ne_true] at h1
    replace hd : (i.at S' n).map (fun x => PyData.tuple [.int (n : Int), x]) = none := hd
    rw [Option.map_eq_none_iff, h3] at hd
    refine ⟨xs, h1, ?_⟩
    rw [h2.length]
    exact List.getElem?_eq_none_iff.mp hd
theorem zip_none {xs ys : List V} {ds es : List PyData} {n : Nat} (h : ((ds[n]?).bind fun x => (es[n]?).map fun y => PyData.tuple [x, y]) = none) (l1 : xs.length = ds.length) (l2 : ys.length = es.length) : xs.length ≤ n ∨ ys.length ≤ n := by
  rw [l1, l2]
  by_cases h1 : n < ds.length
  · by_cases h2 : n < es.length
    · rw [List.getElem?_eq_getElem h1, List.getElem?_eq_getElem h2] at h
      cases h
    · exact .inr (Nat.not_lt.mp h2)
  · exact .inl (Nat.not_lt.mp h1)
theorem it_ok_z {b : Addr} {i j : Mk.It} (h : SqOk false (cfx X fa ca) a μ H i) (h' : SqOk false (cfx X fa ca) b μ H j) : ItOk (cfx X fa ca) (Itz X.K a b) μ H (.zip i j) := by
  refine ⟨fun hid hk n μ' S' H' d e w' hd => ?_, fun hid hk n μ' S' H' e w' hd => ?_⟩
  · obtain ⟨xs, ds, h1, h2, h3⟩ := h hid hk μ' S' H' e w'
    obtain ⟨ys, es, g1, g2, g3⟩ := h' hid hk μ' S' H' e w'
    rw [if_neg Bool.false_ne_true] at h1 g1
    replace hd : ((i.at S' n).bind fun x => (j.at S' n).map fun y => PyData.tuple [x, y]) = some d := hd
    rw [h3, g3] at hd
    obtain ⟨d1, hd1, hd⟩ := Option.bind_eq_some_iff.mp hd
    obtain ⟨d2, hd2, rfl⟩ := Option.map_eq_some_iff.mp hd
    obtain ⟨v, hv, rv⟩ := h2.get hd1
    obtain ⟨u, hu, ru⟩ := g2.get hd2
    refine ⟨⟨xs, ys, v, u, h1, g1, hv, hu⟩, fun x H'' ⟨T, y, z, e1, hT, e2, hy, hz⟩ => ?_⟩
    subst e1 e2
    have := hy xs h1
    rw [hv] at this; cases this
    have := hz ys g1
    rw [hu] at this; cases this
    exact pair_ok w' hT rv ru
  · obtain ⟨xs, ds, h1, h2, h3⟩ := h hid hk μ' S' H' e w'
    obtain ⟨ys, es, g1, g2, g3⟩ := h' hid hk μ' S' H' e w'
    rw [if_neg Bool.false_ne_true] at h1 g1
    replace hd : ((i.at S' n).bind fun x => (j.at S' n).map fun y => PyData.tuple [x, y]) = none := hd
    rw [h3, g3] at hd
    exact ⟨xs, ys, h1, g1, zip_none hd h2.length g2.length⟩
theorem it_ok_zT {b : Addr} {i j : Mk.It} (h : SqOk true (cfx X fa ca) a μ H i) (h' : SqOk true (cfx X fa ca) b μ H j) : ItOk (cfx X fa ca) (RZ.ItzT X.K a b) μ H (.zip i j) := by
  refine ⟨fun hid hk n μ' S' H' d e w' hd => ?_, fun hid hk n μ' S' H' e w' hd => ?_⟩
  · obtain ⟨xs, ds, h1, h2, h3⟩ := h hid hk μ' S' H' e w'
    obtain ⟨ys, es, g1, g2, g3⟩ := h' hid hk μ' S' H' e w'
    rw [if_pos rfl] at h1 g1
    replace hd : ((i.at S' n).bind fun x => (j.at S' n).map fun y => PyData.tuple [x, y]) = some d := hd
    rw [h3, g3] at hd
    obtain ⟨d1, hd1, hd⟩ := Option.bind_eq_some_iff.mp hd
    obtain ⟨d2, hd2, rfl⟩ := Option.map_eq_some_iff.mp hd
    obtain ⟨v, hv, rv⟩ := h2.get hd1
    obtain ⟨u, hu, ru⟩ := g2.get hd2
    refine ⟨⟨xs, ys, v, u, h1, g1, hv, hu⟩, fun x H'' ⟨T, y, z, e1, hT, e2, hy, hz⟩ => ?_⟩
    subst e1 e2
    have := hy xs h1
    rw [hv] at this; cases this
    have := hz ys g1
    rw [hu] at this; cases this
    exact pair_ok w' hT rv ru
  · obtain ⟨xs, ds, h1, h2, h3⟩ := h hid hk μ' S' H' e w'
    obtain ⟨ys, es, g1, g2, g3⟩ := h' hid hk μ' S' H' e w'
    rw [if_pos rfl] at h1 g1
    replace hd : ((i.at S' n).bind fun x => (j.at S' n).map fun y => PyData.tuple [x, y]) = none := hd
    rw [h3, g3] at hd
    exact ⟨xs, ys, h1, g1, zip_none hd h2.length g2.length⟩
theorem it_ok_r {lo : Int} {m : Nat} : ItOk (cfx X fa ca) (Itr lo m) μ H (.rng lo m) := by
  refine ⟨fun hid hk n μ' S' H' d e w' hd => ?_, fun hid hk n μ' S' H' e w' hd => ?_⟩
  · replace hd : (if n < m then some (PyData.int (lo + (n : Int))) else none) = some d := hd
    split at hd
    · rename_i hn
      cases hd
      refine ⟨hn, fun x H'' ⟨e1, e2⟩ => ?_⟩
      subst e1 e2
      exact ⟨.refl, w', .int _⟩
    · cases hd
  · replace hd : (if n < m then some (PyData.int (lo + (n : Int))) else none) = none := hd
    split at hd
    · cases hd
    · rename_i hn
      exact Nat.not_lt.mp hn
theorem it_ok_s {z : Str} : ItOk (cfx X fa ca) (Its z) μ H (.seq (z.cps.toList.map fun c => .str ⟨#[c]⟩)) := by
  refine ⟨fun hid hk n μ' S' H' d e w' hd => ?_, fun hid hk n μ' S' H' e w' hd => ?_⟩
  · replace hd : (z.cps.toList.map fun c => PyData.str ⟨#[c]⟩)[n]? = some d := hd
    rw [List.getElem?_map] at hd
    obtain ⟨c, hc, rfl⟩ := Option.map_eq_some_iff.mp hd
    rw [Array.getElem?_toList] at hc
    refine ⟨(Array.getElem?_eq_some_iff.mp hc).1, fun x H'' ⟨e1, c', hc', e2⟩ => ?_⟩
    subst e1 e2
    rw [hc] at hc'; cases hc'
    exact ⟨.refl, w', .str _⟩
  · replace hd : (z.cps.toList.map fun c => PyData.str ⟨#[c]⟩)[n]? = none := hd
    rw [List.getElem?_map, Option.map_eq_none_iff, Array.getElem?_toList] at hd
    exact Array.getElem?_eq_none_iff.mp hd
/-- a dict that nobody changes, key by key -/
theorem it_ok_k {o : Obj} {kvs : List (Key × V)} (h : H a = some (.frz o (.dK kvs))) : ItOk (cfx X fa ca) (Itk a o kvs) μ H (.seq (kvs.map fun p => keyD p.1)) := by
  have st : ∀ {μ' : List Addr} {H' : Hp} {hid : Addr → Prop}, ExtH (fa.hide hid) μ H μ' H' → H' a = some (.frz o (.dK kvs)) := fun e => by
    obtain ⟨o', z, q⟩ := e.there a _ h
    rw [z, q.2 rfl]
  refine ⟨fun hid hk n μ' S' H' d e w' hd => ?_, fun hid hk n μ' S' H' e w' hd => ?_⟩
  · replace hd : (kvs.map fun p => keyD p.1)[n]? = some d := hd
    rw [List.getElem?_map] at hd
    obtain ⟨⟨k, v⟩, hc, rfl⟩ := Option.map_eq_some_iff.mp hd
    refine ⟨⟨st e, (List.getElem?_eq_some_iff.mp hc).1⟩, fun x H'' ⟨e1, k', v', hc', e2⟩ => ?_⟩
    subst e1 e2
    rw [hc] at hc'; cases hc'
    refine ⟨.refl, w', ?_⟩
    cases k with
    | inl i => exact .int _
    | inr z => exact .str _
  · replace hd : (kvs.map fun p => keyD p.1)[n]? = none := hd
    rw [List.getElem?_map, Option.map_eq_none_iff] at hd
    exact ⟨st e, List.getElem?_eq_none_iff.mp hd⟩
theorem ok_keys {e : Expr} {ev : EvE} (he : PE X e (rdE (cfx X fa ca) W ev)) : PI X tg e (rdI (cfx X fa ca) W (eItD ev)) := by
  refine ⟨fun pins s σ H R I ⟨μ, ρ, S, hw, hp⟩ => ?_⟩
  refine thn (he.run pins s σ H (fun x H1 => ∃ a o kvs, x = .ref a ∧ ((H1 a = some (.dK kvs) ∧ ∀ o, R (Itk a o kvs) (upd H1 a (.frz o (.dK kvs)))) ∨ (H1 a = some (.frz o (.dK kvs)) ∧ R (Itk a o kvs) H1))) I ⟨μ, ρ, S, hw, PostG.bind hp fun d S1 v H1 μ1 e1 w1 r1 p1 => ?_⟩) fun u s1 ⟨x, H1, I1, rx, a, o, kvs, ex, q⟩ => ?_
  · unfold itDct at p1
    split at p1
    · rename_i k
      cases r1 with
      | cell hk =>
        rename_i a
        split at p1
        · rename_i t ks vs hS
          have ok := w1.cells k a _ hk hS
          cases t with
          | false =>
            obtain ⟨kvs, e2, rfl, r2⟩ := ok
            refine ⟨a, default, kvs, rfl, .inl ⟨e2, fun o => ?_⟩⟩
            have sm : ∀ u, H1 a = some u → Sm u (.frz o (.dK kvs)) := fun u z => by rw [e2] at z; cases z; exact ⟨rfl, fun z => nomatch z⟩
            have ext : Ext fa μ1 H1 μ1 (upd H1 a (.frz o (.dK kvs))) := Ext.set (List.mem_of_getElem? hk) sm
            exact p1 (Itk a o kvs) _ μ1 ext (w1.setC hk sm ⟨o, kvs, upd_same, rfl, r2.ext w1 ext⟩) (it_ok_k upd_same)
          | true =>
            obtain ⟨o, kvs, e2, rfl, r2⟩ := ok
            refine ⟨a, o, kvs, rfl, .inr ⟨e2, ?_⟩⟩
            have hset : S1.set k (.dct true (kvs.map fun p => keyD p.1) vs) = S1 := by
              obtain ⟨hk2, e3⟩ := List.getElem?_eq_some_iff.mp hS
              rw [← e3, List.set_getElem_self]
            rw [hset] at p1
            exact p1 (Itk a o kvs) _ μ1 .refl w1 (it_ok_k e2)
        · exact p1.elim
    · exact p1.elim
  · subst ex
    obtain rfl : u = Value.ref a := rx
    have go : ∀ o', Inv X pins σ (upd H1 a (.frz o' (.dK kvs))) s1 → R (Itk a o' kvs) (upd H1 a (.frz o' (.dK kvs))) → wpAny (model X.prog X.w) X.A (pyIter (.ref a)) (PIE X pins σ tg R) X.xe s1 := fun o' I2 q => by
      obtain ⟨hs, hgd, hx, es, ep, vs, hdt, hsz, kv, hm⟩ := I2.frzK upd_same
      refine iter_keys hs hgd hx hdt (pi_one (tk := s1.toks) I2 _ (turn_keys _ hdt) ⟨_, Heap.get?_push_size _ rfl, rfl, ?_⟩ q)
      rw [hsz] <;> rfl
    rcases q with ⟨e2, q⟩ | ⟨e2, q⟩
    · obtain ⟨o', I2⟩ := I1.lock e2 trivial
      exact go o' I2 (q o')
    · have hH : upd H1 a (.frz o (.dK kvs)) = H1 := by
        funext b
        by_cases hb : b = a
        · subst hb; rw [upd_same, e2]
        · rw [upd_ne hb]
      exact go o (by rw [hH]; exact I1) (by rw [hH]; exact q)
end
end
end Mk

set_option Elab.async false
set_option linter.all false
set_option maxRecDepth 100000
set_option maxHeartbeats 1000000
/-! MkS7b: enumerate over a tuple. -/
namespace Mk
open PySem PySem.Spec PyProof.Rows L2
theorem enum_new_tup (l : Addr) (its : Array Value) (n : Nat) (dct : Option Addr) (sl : Array (Option Value)) :
    Meets (Builtin.«enumerate.__new__» ⟨[.type "enumerate", .ref l], []⟩) (fun _ R s =>
      s.heap.get? l = some { cls := .type "tuple", dict := dct, data := .seq its n, slots := sl } ∧
      R (.ok (.ret (.ref (s.heap.push { cls := .type "tuple_iterator", data := .fields #[.ref l, .int 0 0] }).objs.size)))
        { s with heap := Heap.push (s.heap.push { cls := .type "tuple_iterator", data := .fields #[.ref l, .int 0 0] }) { cls := .type "enumerate", data := .fields #[.none, .bool false, .ref s.heap.objs.size, rawInt 0, .none, .none] } }) := by
  refine .of_wp fun prog w A R s ⟨hl, h⟩ => ?_
  obtain ⟨hp, g, d, tk, os⟩ := s
  have hsub := sub_enumerate
  have isT : Heap.IsTuple (Shared.heap ⟨hp, g, d, tk, os⟩) l its := ⟨_, hl, rfl, n, rfl⟩
  wp_walk using wpAny_loadPart' hl
  refine wpAny_stack_any fun st => wpAny_pure ?_
  split
  · rename_i c _ _ _ _ _
    cases (c == Value.type "enumerate") <;> (wp_walk using wpAny_loadPart' hl, wpAny_pyIter_tuple isT; exact ⟨_, rfl, h⟩)
  · wp_walk using wpAny_loadPart' hl, wpAny_pyIter_tuple isT
    exact ⟨_, rfl, h⟩
section
variable {P : Program} {w : World} {A : Around} {E : Value → Shared → Prop} {s : Shared}
theorem enum_of_tup {l : Addr} {its : Array Value} {Q : Value → Shared → Prop} (isT : s.heap.IsTuple l its)
    (h : ∀ h', IsEnum h' (s.heap.objs.size + 1) s.heap.objs.size 0 .none → h'.IsTupleIter s.heap.objs.size l 0 →
      (∀ b o, s.heap.get? b = some o → h'.get? b = some o) → Q (.ref (s.heap.objs.size + 1)) { s with heap := h' }) :
    wpAny (model P w) A (call (.type "enumerate") [.ref l]) Q E s := by
  obtain ⟨⟨c, dct, dt, sl⟩, hl, hc, n, hd⟩ := isT
  obtain rfl : c = .type "tuple" := hc
  obtain rfl : dt = .seq its n := hd
  refine callType_new F.called_enumerate (by decide) (F.typeCall_enumerate_1 _) (F.newCall_enumerate_1 _)
    (fun obj => F.args_object_init_2 obj _) F.entry_enumerate_new (enum_new_tup l its n dct sl) ⟨hl, ?_⟩
  have z1 : (s.heap.push { cls := .type "tuple_iterator", data := .fields #[.ref l, .int 0 0] }).objs.size = s.heap.objs.size + 1 := Heap.size_push ..
  show _ ∧ _
  rw [z1]
  have isE : IsEnum (Heap.push (s.heap.push { cls := .type "tuple_iterator", data := .fields #[.ref l, .int 0 0] }) { cls := .type "enumerate", data := .fields #[.none, .bool false, .ref s.heap.objs.size, rawInt 0, .none, .none] }) (s.heap.objs.size + 1) s.heap.objs.size 0 .none := by
    have q := Heap.get?_push_size (s.heap.push { cls := .type "tuple_iterator", data := .fields #[.ref l, .int 0 0] })
      (o := { cls := .type "enumerate", data := .fields #[.none, .bool false, .ref s.heap.objs.size, rawInt 0, .none, .none] }) rfl
    rw [z1] at q; exact q
  refine ⟨⟨_, isE, rfl⟩, h _ isE ⟨_, Heap.get?_push_of_some _ (Heap.get?_push_size _ rfl), rfl, rfl⟩ ?_⟩
  exact fun b o x => Heap.get?_push_of_some _ (Heap.get?_push_of_some _ x)
end
section
variable {P : Program} {w : World} {A : Around} {E : Value → Shared → Prop} {s : Shared}
theorem enum_tup_end {e it l : Addr} {i : Nat} {its : Array Value} {old : Value} {Q : Option Value → Shared → Prop} (noH : A.handled = none)
    (he : IsEnum s.heap e it i old) (hit : s.heap.IsTupleIter it l i) (isT : s.heap.IsTuple l its) (hx : its[i]? = none)
    (hQ : ∀ h', Heap.ExtBut it s.heap h' → Q none { s with heap := h' }) : wpAny (model P w) A (pyNext (.ref e)) Q E s := by
  have ty : s.TypeIs (.ref e) "enumerate" := ⟨_, he, rfl⟩
  unfold pyNext
  refine wpAny_bind (wpAny_attempt (wpAny_callSpecial?_slot (name := Str.ofString "__next__") ty F.slot_enumerate_next ?_))
  refine wpAny_call_entry F.slot_enumerate_next ty F.entry_enumerate_next ?_ (F.args_enumerate_next_1 _)
  show wpAny _ _ (field (.ref e) 2 >>= _) _ _ _
  refine wpAny_bind (wpAny_field he rfl (x := .ref it) rfl ?_)
  refine wpAny_bind (wpAny_nextOf_tuple_end noH hit isT hx ?_)
  intro h' x he' ⟨o, ho, hc⟩
  refine wpAny_bind (wpAny_isInstance (T := "StopIteration") (b := true) ⟨o, ho, hc⟩ isSubtype_stop ?_)
  exact wpAny_pure (hQ _ he')
end
/-- the tuple at a as it stands at each turn, each item in a new pair -/
def IteT (K : PySem.W.Frag) (a : Addr) : L2.It where
  go i H := ∃ (xs : List V) (x : V), SqT K H a xs ∧ xs[i]? = some x
  yld i H v H' := ∃ T x, v = .ref T ∧ H T = none ∧ H' = upd H T (.tup [.int (i : Nat), x]) ∧ ∀ xs, SqT K H a xs → xs[i]? = some x
  stop i H := ∃ xs : List V, SqT K H a xs ∧ xs.length ≤ i
theorem tup_not {h : Heap} {a b : Addr} {its : Array Value} {o : Obj} {fs : Array Value} (x : h.IsTuple a its) (y : h.get? b = some o) (d : o.data = .fields fs) : a ≠ b := fun z => by
  obtain ⟨o2, e, _, n, d2⟩ := x
  rw [z, y] at e
  cases e
  rw [d] at d2; cases d2
theorem turn_enumT {P : Program} {w : World} {K : PySem.W.Frag} {elts : List Expr} {kk : Nat} {tpos : Pos} (a e it : Addr) :
    Turn P w K (.Tuple elts kk tpos) (IteT K a) [e, it] e (fun i h => (∃ old, IsEnum h e it ((i : Nat) : Int) old) ∧ h.IsTupleIter it a i ∧ e ≠ it) where
  mem := by simp
  obj := by
    intro i h st b hb
    obtain ⟨⟨old, he⟩, ⟨o, ho, hc, hd⟩, _⟩ := st
    rcases (show b = e ∨ b = it by simpa using hb) with z | z
    · subst z
      exact ⟨_, he, fun v q => nomatch q⟩
    · subst z
      exact ⟨o, ho, fun v q => by rw [hd] at q; cases q⟩
  keep := by
    intro i h h' st k
    obtain ⟨⟨old, he⟩, ⟨o, ho, r⟩, ne⟩ := st
    exact ⟨⟨old, k e (by simp) _ he⟩, ⟨o, k it (by simp) _ ho, r⟩, ne⟩
  item := by
    intro X hP hw hK hc i pins s σ H E I hf st hg
    subst hP hw hK
    obtain ⟨⟨old, he⟩, hit, ne⟩ := st
    obtain ⟨xs, x, hq, hx⟩ := hg
    obtain ⟨its, rv, p, hz⟩ := I.tuple hq
    have isT : s.heap.IsTuple a its.toArray := p
    obtain ⟨u, hu, ru⟩ := rv.get hx
    have e_lt : e < s.heap.objs.size := Heap.lt_size he
    have i_lt : it < s.heap.objs.size := by
      obtain ⟨_, q, _⟩ := hit
      exact Heap.lt_size q
    have a_e : a ≠ e := tup_not isT he rfl
    have a_it : a ≠ it := by
      obtain ⟨o, ho, _, hd⟩ := hit
      exact tup_not isT ho hd
    have D := Draws.tuple (prog := X.prog) (w := X.w) (A := X.A.in1) (show X.A.in1.handled = none from I.ok.hd hc) it a a_it its.toArray
    have hlt : i < its.toArray.size := by
      rw [List.size_toArray]
      exact (List.getElem?_eq_some_iff.mp hu).1
    refine wpAny_pyNext_enum_itemD D he ⟨hit, isT⟩ hlt ne (by simp [ne, Ne.symm a_e]) ?_
    intro u2 h' tk hu2 ho hSt hT hsz hk
    have hit' := hSt.1
    obtain rfl : u2 = u := by
      have q : its[i]? = some u2 := by simpa using hu2
      rw [hu] at q; cases q; rfl
    refine ⟨_, rfl, wpAny_letOwnedTupleGo_enum (s := { s with heap := h', toks := tk + 1 }) ho ?_⟩
    intro h2 he' sb
    have tup2 : h2.get? s.heap.objs.size = some { cls := .type "tuple", data := .seq #[.int i tk, u2] } :=
      (sb.2 _ (Nat.ne_of_gt e_lt)).trans hT
    have new : ObjOk X.prog X.w (upd H s.heap.objs.size (.tup [.int (i : Nat), x])) h2 s.heap.objs.size (.tup [.int (i : Nat), x]) := by
      refine ⟨by show 2 ≤ sizeLine; decide, [.int i tk, u2], .cons ⟨_, rfl⟩ (.cons ru .nil), ⟨_, tup2, rfl, _, rfl⟩⟩
    have I1 : Inv X pins σ (upd H s.heap.objs.size (.tup [.int (i : Nat), x])) { s with heap := h2, toks := tk + 1 } := by
      refine I.turnedNew (ch := [e, it]) ?_ hf (Nat.le_refl _) new
      intro b ob hb q
      have b_e : b ≠ e := fun z => hb (by simp [z])
      have b_i : b ≠ it := fun z => hb (by simp [z])
      exact (sb.2 b b_e).trans (hk b ob b_e b_i q)
    refine ⟨.ref s.heap.objs.size, _, I1, rfl, ⟨_, x, rfl, I.hok.fresh (Nat.le_refl _), rfl, ?_⟩, ⟨⟨u2, ?_⟩, ?_, ne⟩, ?_⟩
    · intro ys hy
      rw [I.tuple_inj hy hq]; exact hx
    · have z : ((i + 1 : Nat) : Int) = (i : Int) + 1 := by omega
      rw [z]; exact he'
    · obtain ⟨o, ho2, r⟩ := hit'
      exact ⟨o, (sb.2 it (Ne.symm ne)).trans ho2, r⟩
    · intro b hb
      have b_lt : b < s.heap.objs.size := by
        rcases (show b = e ∨ b = it by simpa using hb) with z | z
        · rw [z]; exact e_lt
        · rw [z]; exact i_lt
      rw [upd_ne (Nat.ne_of_lt b_lt)]
      exact (hf b hb).1
  done := by
    intro X hP hw hK hc i pins s σ H E I hf st hg
    subst hP hw hK
    obtain ⟨⟨old, he⟩, hit, ne⟩ := st
    obtain ⟨xs, hq, hx⟩ := hg
    obtain ⟨its, rv, p, hz⟩ := I.tuple hq
    have isT : s.heap.IsTuple a its.toArray := p
    obtain ⟨f0, f1, f2, f3, f4, f5⟩ := hf it (by simp)
    have hl := rv.length
    have D := enum_tup_end (A := X.A) (E := E) (s := s) (P := X.prog) (w := X.w) (I.ok.hd hc) he hit isT (by simp; omega)
      (Q := fun r s1 => r = none ∧ Inv X pins σ H s1)
    exact D fun h' eb => ⟨rfl, I.turned (t' := s.toks) (fun b o hb q => eb b o hb q) f0 f1 f3 f4 f5⟩
  self := by
    intro A i s Q E st h
    obtain ⟨⟨_, he⟩, _⟩ := st
    exact wpAny_pyIter_enum he h
/-- a list or a tuple -/
def iEnumA (K : PySem.W.Frag) (ta : TA) : TI := fun σ H R => ta σ H fun vs H1 => ∃ a xs, vs = [.ref a] ∧ ((SqL K H1 a xs ∧ R (Ite K a) H1) ∨ (SqT K H1 a xs ∧ R (IteT K a) H1))
theorem pi_enumA {X : Cx} {e : Expr} {ta : TA} {p pos tpos : Pos} {elts : List Expr} {kk : Nat} (hg : Gl X "enumerate") (hm : X.mg "enumerate" = none) (ha : PA X [e] ta) (hs : starEach [e] X.env = [(false, eval e X.env)]) :
    PI X (.Tuple elts kk tpos) (.Call (.Name "enumerate" p) [e] [] pos) (iEnumA X.K ta) := by
  refine ⟨fun pins s σ H R I h => ?_⟩
  refine Call_ (ld_blt I hg hm boot_enumerate (PyProof.Rows.callWith_type1 (thn (ha.run pos pins s σ H _ I h) ?_) hs rfl))
  intro us s1 ⟨vs, H1, I1, r1, q1⟩
  obtain ⟨a, xs, rfl, q⟩ := q1
  rw [Vals.ref1 r1]
  have fresh2 : ∀ b ∈ [s1.heap.objs.size + 1, s1.heap.objs.size], FpOk X pins H1 b := by
    intro b hb
    have hle : s1.heap.objs.size ≤ b := by
      rcases (show b = s1.heap.objs.size + 1 ∨ b = s1.heap.objs.size by simpa using hb) with z | z <;> omega
    exact I1.fpOk hle (I1.hok.fresh hle)
  rcases q with ⟨hq, q⟩ | ⟨hq, q⟩
  · obtain ⟨its, rv, p', hz⟩ := I1.list hq
    refine call_enumerate_list p'.isList fun h' he hit hsz hk => wpAny_pyIter_enum he ?_
    have I2 : Inv X pins σ H1 { s1 with heap := h' } := I1.kept (t' := s1.toks) hk
    exact ⟨_, _, _, _, H1, rfl, I2, turn_enum a (s1.heap.objs.size + 1) s1.heap.objs.size, ⟨⟨.none, he⟩, hit, Nat.succ_ne_self _⟩, fresh2, q⟩
  · obtain ⟨its, rv, p', hz⟩ := I1.tuple hq
    refine enum_of_tup (its := its.toArray) p' fun h' he hit hk => wpAny_pyIter_enum he ?_
    have I2 : Inv X pins σ H1 { s1 with heap := h' } := I1.kept (t' := s1.toks) hk
    exact ⟨_, _, _, _, H1, rfl, I2, turn_enumT a (s1.heap.objs.size + 1) s1.heap.objs.size, ⟨⟨.none, he⟩, hit, Nat.succ_ne_self _⟩, fresh2, q⟩
section
variable {X : Cx} {fa : Fa} {ca : Nat → Option Addr} {μ : List Addr} {H : Hp} {a : Addr}
theorem it_ok_eT {i : Mk.It} (h : SqOk true (cfx X fa ca) a μ H i) : ItOk (cfx X fa ca) (IteT X.K a) μ H (.enum i) := by
  refine ⟨fun hid hk n μ' S' H' d e w' hd => ?_, fun hid hk n μ' S' H' e w' hd => ?_⟩
  · obtain ⟨xs, ds, h1, h2, h3⟩ := h hid hk μ' S' H' e w'
    rw [if_pos rfl] at h1
    replace hd : (i.at S' n).map (fun x => PyData.tuple [.int (n : Int), x]) = some d := hd
    obtain ⟨d', hd', rfl⟩ := Option.map_eq_some_iff.mp hd
    rw [h3] at hd'
    obtain ⟨v, hv, rv⟩ := h2.get hd'
    refine ⟨⟨xs, v, h1, hv⟩, fun x H'' ⟨T, y, e1, hT, e2, hy⟩ => ?_⟩
    subst e1 e2
    have := hy xs h1
    rw [hv] at this; cases this
    exact pair_ok w' hT (.int _) rv
  · obtain ⟨xs, ds, h1, h2, h3⟩ := h hid hk μ' S' H' e w'
    rw [if_pos rfl] at h1
    replace hd : (i.at S' n).map (fun x => PyData.tuple [.int (n : Int), x]) = none := hd
    rw [Option.map_eq_none_iff, h3] at hd
    refine ⟨xs, h1, ?_⟩
    rw [h2.length]
    exact List.getElem?_eq_none_iff.mp hd
end
end Mk

set_option Elab.async false
set_option linter.all false
set_option maxRecDepth 100000
/-! MkS8: iterables read; targets; comprehensions. -/
namespace Mk
open PySem PySem.Spec PyProof.Rows L2
section
variable {X : Cx} {fa : Fa} {ca : Nat → Option Addr} {W : WX} {tg : Expr}
/-- what an iterable's data is in the heap -/
theorem sq_of {μ : List Addr} {S : Store} {H : Hp} {d : PyData} {x : V} {i : Mk.It} (w : Wf X.K fa μ S H) (r : RelD X.K fa μ H d x) (h : itOf S d = some i) :
    (∃ a, x = .ref a ∧ (((∃ xs, SqL X.K H a xs) ∧ SqOk false (cfx X fa ca) a μ H i ∧ isSq true S d = false) ∨ ((∃ xs, SqT X.K H a xs) ∧ SqOk true (cfx X fa ca) a μ H i ∧ isSq false S d = false))) ∨ ∃ z, x = .str z ∧ d = .str z ∧ ItOk (cfx X fa ca) (Its z) μ H i := by
  cases r with
  | str z => cases h; exact .inr ⟨z, rfl, rfl, it_ok_s⟩
  | tup hq r1 => cases h; exact .inl ⟨_, rfl, .inr ⟨⟨_, hq⟩, sq_tup w hq r1, rfl⟩⟩
  | lst hl n hh r1 => cases h; exact .inl ⟨_, rfl, .inl ⟨⟨_, SqL.of hl⟩, sq_lst w (.inl ⟨.inl hl, n, hh⟩) r1, rfl⟩⟩
  | lk hl r1 =>
    cases h
    exact .inl ⟨_, rfl, .inl ⟨⟨_, hl.seq⟩, sq_lst w hl r1, rfl⟩⟩
  | cell hk =>
    rename_i k a
    have h' : (match S[k]? with
      | some (.lst _) => some (Mk.It.cell k)
      | _ => none) = some i := h
    split at h'
    · rename_i ds e
      cases h'
      obtain ⟨xs, e2, r1⟩ := w.cells _ _ _ hk e
      exact .inl ⟨a, rfl, .inl ⟨⟨xs, SqL.of e2⟩, sq_cell w hk e2, rfl⟩⟩
    · cases h'
  | _ => cases h
theorem ok_iter {l : Expr} {ev : EvE} (hl : PE X l (rdE (cfx X fa ca) W ev)) : PI X tg l (rdI (cfx X fa ca) W (iOf ev)) :=
  PI.mono (pi_any hl) fun σ H R ⟨μ, ρ, S, hw, hp⟩ => ⟨μ, ρ, S, hw, PostG.bind hp fun d S1 x H1 μ1 e1 w1 r1 p1 => by
    obtain ⟨i, ei, p2⟩ := PostG.ofO p1
    rcases sq_of (ca := ca) w1 r1 ei with ⟨a, rfl, ⟨h1, h2, _⟩ | ⟨h1, h2, _⟩⟩ | ⟨z, rfl, _, h2⟩
    · exact .inl ⟨a, rfl, .inl ⟨h1, PostG.here p2 w1 (it_ok_l h2)⟩⟩
    · exact .inl ⟨a, rfl, .inr ⟨h1, PostG.here p2 w1 (it_ok_t h2)⟩⟩
    · exact .inr ⟨z, rfl, PostG.here p2 w1 h2⟩⟩
theorem isSq_not {S : Store} {d : PyData} (h : isSq true S d = true) : isSq false S d = false := by
  cases d <;> first | rfl | cases h | skip
  · rename_i kvs
    revert h
    unfold isSq
    split <;> simp
theorem sq_l {μ : List Addr} {S : Store} {H : Hp} {d : PyData} {x : V} {i : Mk.It} (w : Wf X.K fa μ S H) (r : RelD X.K fa μ H d x) (h : itOf S d = some i) (hs : isSq false S d = true) : ∃ a, x = .ref a ∧ (∃ xs, SqL X.K H a xs) ∧ SqOk false (cfx X fa ca) a μ H i := by
  rcases sq_of (ca := ca) w r h with ⟨a, rfl, ⟨h1, h2, _⟩ | ⟨_, _, h3⟩⟩ | ⟨z, _, rfl, _⟩
  · exact ⟨a, rfl, h1, h2⟩
  · rw [hs] at h3; cases h3
  · cases hs
theorem sq_t {μ : List Addr} {S : Store} {H : Hp} {d : PyData} {x : V} {i : Mk.It} (w : Wf X.K fa μ S H) (r : RelD X.K fa μ H d x) (h : itOf S d = some i) (hs : isSq true S d = true) : ∃ a, x = .ref a ∧ (∃ xs, SqT X.K H a xs) ∧ SqOk true (cfx X fa ca) a μ H i := by
  rcases sq_of (ca := ca) w r h with ⟨a, rfl, ⟨_, _, h3⟩ | ⟨h1, h2, _⟩⟩ | ⟨z, _, rfl, _⟩
  · rw [hs] at h3; cases h3
  · exact ⟨a, rfl, h1, h2⟩
  · cases hs
theorem ok_enum {e : Expr} {ev : EvE} {p pos tpos : Pos} {elts : List Expr} {kk : Nat} (hg : Gl X "enumerate") (hm : X.mg "enumerate" = none) (hs : plainE e = true) (he : PE X e (rdE (cfx X fa ca) W ev)) :
    PI X (.Tuple elts kk tpos) (.Call (.Name "enumerate" p) [e] [] pos) (rdI (cfx X fa ca) W (iEnum ev)) :=
  PI.mono (pi_enumA hg hm (pa_cons he pa_nil (star_cons hs)) (star_cons hs)) fun σ H R ⟨μ, ρ, S, hw, hp⟩ => by
    show rdE (cfx X fa ca) W ev σ H _
    refine ⟨μ, ρ, S, hw, PostG.bind hp fun d S1 x H1 μ1 e1 w1 r1 p1 => ?_⟩
    obtain ⟨i, ei, p2⟩ := PostG.ofO p1
    split at ei
    · rename_i hq
      obtain ⟨j, ej, rfl⟩ := Option.map_eq_some_iff.mp ei
      cases hf : isSq false S1 d with
      | true =>
        obtain ⟨a, rfl, ⟨xs, h1⟩, h2⟩ := sq_l (ca := ca) w1 r1 ej hf
        exact ⟨a, xs, rfl, .inl ⟨h1, PostG.here p2 w1 (it_ok_e h2)⟩⟩
      | false =>
        rw [hf, Bool.false_or] at hq
        obtain ⟨a, rfl, ⟨xs, h1⟩, h2⟩ := sq_t (ca := ca) w1 r1 ej hq
        exact ⟨a, xs, rfl, .inr ⟨h1, PostG.here p2 w1 (it_ok_eT h2)⟩⟩
    · cases ei
theorem ok_zip {e f : Expr} {ea eb : EvE} {p pos tpos : Pos} {elts : List Expr} {kk : Nat} (hg : Gl X "zip") (hm : X.mg "zip" = none) (hs : plainE e = true) (hs2 : plainE f = true) (he : PE X e (rdE (cfx X fa ca) W ea)) (hf : PE X f (rdE (cfx X fa ca) W eb)) :
    PI X (.Tuple elts kk tpos) (.Call (.Name "zip" p) [e, f] [] pos) (rdI (cfx X fa ca) W (iZip ea eb)) :=
  PI.mono (RZ.pi_zipA hg hm (pa_cons he (pa_cons hf pa_nil (star_cons hs2)) (star_cons hs)) (star_cons hs) (star_none (by simp [hs2]))) fun σ H R ⟨μ, ρ, S, hw, hp⟩ => by
    show rdE (cfx X fa ca) W ea σ H fun x H1 => rdE (cfx X fa ca) W eb σ H1 fun y H2 => _
    refine ⟨μ, ρ, S, hw, PostG.bind hp fun d S1 x H1 μ1 e1 w1 r1 p1 => ?_⟩
    refine ⟨μ1, ρ, S1, hw.ext e1 w1, PostG.bind p1 fun d' S2 y H2 μ2 e2 w2 r2 p2 => ?_⟩
    obtain ⟨i, ei, p3⟩ := PostG.ofO p2
    split at ei
    · rename_i hq
      obtain ⟨i1, ei1, ei⟩ := Option.bind_eq_some_iff.mp ei
      obtain ⟨i2, ei2, rfl⟩ := Option.map_eq_some_iff.mp ei
      rw [Bool.or_eq_true, Bool.and_eq_true, Bool.and_eq_true] at hq
      rcases hq with hq | hq
      · obtain ⟨a, rfl, ⟨xs, h1⟩, h2⟩ := sq_l (ca := ca) w2 (r1.ext w1 e2) ei1 hq.1
        obtain ⟨b, rfl, ⟨ys, g1⟩, g2⟩ := sq_l (ca := ca) w2 r2 ei2 hq.2
        exact ⟨a, b, xs, ys, rfl, .inl ⟨h1, g1, PostG.here p3 w2 (it_ok_z h2 g2)⟩⟩
      · obtain ⟨a, rfl, ⟨xs, h1⟩, h2⟩ := sq_t (ca := ca) w2 (r1.ext w1 e2) ei1 hq.1
        obtain ⟨b, rfl, ⟨ys, g1⟩, g2⟩ := sq_t (ca := ca) w2 r2 ei2 hq.2
        exact ⟨a, b, xs, ys, rfl, .inr ⟨h1, g1, PostG.here p3 w2 (it_ok_zT h2 g2)⟩⟩
    · cases ei
theorem rng_some {x y : PyData} {i : Mk.It} (h : rngD x y = some i) : ∃ a b, x = .int a ∧ y = .int b ∧ i = .rng a (b - a).toNat ∧ -(2 ^ 62) ≤ a ∧ a < 2 ^ 62 ∧ -(2 ^ 62) ≤ b ∧ b < 2 ^ 62 := by
  unfold rngD at h
  split at h
  · split at h
    · rename_i hz
      cases h
      rw [Bool.and_eq_true, Bool.and_eq_true] at hz
      obtain ⟨h1, h2⟩ := fits_of hz.1.1
      obtain ⟨h3, h4⟩ := fits_of hz.1.2
      exact ⟨_, _, rfl, rfl, rfl, h1, h2, h3, h4⟩
    · cases h
  · cases h
theorem ok_rng1 {e : Expr} {ev : EvE} {p pos : Pos} (hg : Gl X "range") (hm : X.mg "range" = none) (hs : plainE e = true) (he : PE X e (rdE (cfx X fa ca) W ev)) :
    PI X tg (.Call (.Name "range" p) [e] [] pos) (rdI (cfx X fa ca) W (iRng (eCst (.int 0)) ev)) :=
  PI.mono (pi_range1 hg hm (pa_cons he pa_nil (star_cons hs)) (star_cons hs)) fun σ H R ⟨μ, ρ, S, hw, hp⟩ => by
    show rdE (cfx X fa ca) W ev σ H _
    replace hp : PostI (cfx X fa ca) W σ μ H R ((ev ρ S).bind fun y S2 => ofO (rngD (.int 0) y) S2) := hp
    refine ⟨μ, ρ, S, hw, PostG.bind hp fun d S1 x H1 μ1 e1 w1 r1 p1 => ?_⟩
    obtain ⟨i, ei, p2⟩ := PostG.ofO p1
    obtain ⟨a, b, ea, rfl, rfl, h1, h2, h3, h4⟩ := rng_some ei
    cases ea
    cases r1
    rw [Int.sub_zero] at p2
    exact ⟨b, rfl, h3, h4, PostG.here p2 w1 it_ok_r⟩
theorem ok_rng2 {e f : Expr} {ea eb : EvE} {p pos : Pos} (hg : Gl X "range") (hm : X.mg "range" = none) (hs : plainE e = true) (hs2 : plainE f = true) (he : PE X e (rdE (cfx X fa ca) W ea)) (hf : PE X f (rdE (cfx X fa ca) W eb)) :
    PI X tg (.Call (.Name "range" p) [e, f] [] pos) (rdI (cfx X fa ca) W (iRng ea eb)) :=
  PI.mono (pi_range2 hg hm (pa_cons he (pa_cons hf pa_nil (star_cons hs2)) (star_cons hs)) (by rw [star_cons hs, star_cons hs2]; rfl) (star_cons hs2)) fun σ H R ⟨μ, ρ, S, hw, hp⟩ => by
    show rdE (cfx X fa ca) W ea σ H fun x H1 => rdE (cfx X fa ca) W eb σ H1 fun y H2 => _
    refine ⟨μ, ρ, S, hw, PostG.bind hp fun d S1 x H1 μ1 e1 w1 r1 p1 => ?_⟩
    refine ⟨μ1, ρ, S1, hw.ext e1 w1, PostG.bind p1 fun d' S2 y H2 μ2 e2 w2 r2 p2 => ?_⟩
    obtain ⟨i, ei, p3⟩ := PostG.ofO p2
    obtain ⟨a, b, rfl, rfl, rfl, h1, h2, h3, h4⟩ := rng_some ei
    cases r1; cases r2
    exact ⟨a, b, rfl, ⟨h1, h2, h3, h4⟩, PostG.here p3 w2 it_ok_r⟩

/-! ### targets -/
/-- only the slots vs are written -/
def Only (vs : List Nat) (σ σ' : St) : Prop := σ'.length = σ.length ∧ ∀ j, j ∉ vs → σ'[j]? = σ[j]?
theorem Only.refl {vs : List Nat} {σ : St} : Only vs σ σ := ⟨rfl, fun _ _ => rfl⟩
theorem Only.trans {vs : List Nat} {a b c : St} (h : Only vs a b) (k : Only vs b c) : Only vs a c := ⟨k.1.trans h.1, fun j hj => (k.2 j hj).trans (h.2 j hj)⟩
theorem Only.mono {vs ws : List Nat} {a b : St} (h : Only vs a b) (k : ∀ j ∈ vs, j ∈ ws) : Only ws a b := ⟨h.1, fun j hj => h.2 j fun z => hj (k j z)⟩
def rdG (C : Cf) (vs : List Nat) (p : Bnd) : TG := fun v σ H Q => ∃ μ ρ S d ρ', SW C.K C.fa μ ρ S σ H ∧ RelD C.K C.fa μ H d v ∧ p S d ρ = some ρ' ∧ ∀ σ', SW C.K C.fa μ ρ' S σ' H → Only vs σ σ' → Q σ' H
def rdGs (C : Cf) (vs : List Nat) (p : Bnds) : TGs := fun us σ H Q => ∃ μ ρ S ds ρ', SW C.K C.fa μ ρ S σ H ∧ RelDs C.K C.fa μ H ds us ∧ p S ds ρ = some ρ' ∧ ∀ σ', SW C.K C.fa μ ρ' S σ' H → Only vs σ σ' → Q σ' H
theorem PG.mono {e : Expr} {t t' : TG} (h : PG X e t) (i : ∀ v σ H Q, t' v σ H Q → t v σ H Q) : PG X e t' := ⟨fun pins s σ H v u Q I r hw => h.run pins s σ H v u Q I r (i _ _ _ _ hw)⟩
theorem PGs.mono {es : List Expr} {t t' : TGs} (h : PGs X es t) (i : ∀ v σ H Q, t' v σ H Q → t v σ H Q) : PGs X es t' := ⟨fun pins s σ H v u Q I r hw => h.run pins s σ H v u Q I r (i _ _ _ _ hw)⟩
theorem only_set {i : Nat} {vs : List Nat} {σ : St} {v : Option V} (h : i ∈ vs) : Only vs σ (σ.set i v) :=
  ⟨List.length_set, fun j hj => List.getElem?_set_ne (fun z : i = j => hj (z ▸ h))⟩
theorem ok_pvar {i : Nat} {x : Str} {vs : List Nat} {pos : Pos} (hN : X.N.Nodup) (hi : X.N[i]? = some x) (hx : Loc X.env.scope x) (hf : X.fn x = true ∨ X.env.scope.names.lookup x = some .local) (hv : i ∈ vs) : PG X (.Name x pos) (rdG (cfx X fa ca) vs (pVar i)) :=
  PG.mono (pg_name hN hi hx hf) fun v σ H Q ⟨μ, ρ, S, d, ρ', hw, hr, hp, hq⟩ => hq _ (hw.setV hr hp) (only_set hv)
theorem ok_pnil {vs : List Nat} : PGs X [] (rdGs (cfx X fa ca) vs psNil) :=
  PGs.mono pgs_nil fun us σ H Q ⟨μ, ρ, S, ds, ρ', hw, hr, hp, hq⟩ => by
    cases hr with
    | nil => cases hp; exact ⟨rfl, hq _ hw .refl⟩
    | cons => cases hp
theorem ok_pcons {e : Expr} {es : List Expr} {vs : List Nat} {p : Bnd} {ps : Bnds} (h : PG X e (rdG (cfx X fa ca) vs p)) (k : PGs X es (rdGs (cfx X fa ca) vs ps))
    (hs : (assignEach (e :: es) X.env).map (·.2) = assign e X.env :: (assignEach es X.env).map (·.2)) : PGs X (e :: es) (rdGs (cfx X fa ca) vs (psCons p ps)) :=
  PGs.mono (pgs_cons h k hs) fun us σ H Q ⟨μ, ρ, S, ds, ρ', hw, hr, hp, hq⟩ => by
    cases hr with
    | nil => cases hp
    | cons hd ht =>
      obtain ⟨ρ1, h1, h2⟩ := Option.bind_eq_some_iff.mp hp
      exact ⟨_, _, rfl, μ, ρ, S, _, ρ1, hw, hd, h1, fun σ1 w1 o1 => ⟨μ, ρ1, S, _, ρ', w1, ht, h2, fun σ2 w2 o2 => hq σ2 w2 (o1.trans o2)⟩⟩
theorem psCons_len : ∀ {ps : List Bnd} {S : Store} {ds : List PyData} {ρ ρ' : Env}, (ps.foldr psCons psNil) S ds ρ = some ρ' → ds.length = ps.length
  | [], _, [], _, _, _ => rfl
  | [], _, _ :: _, _, _, h => by cases h
  | p :: ps, _, [], _, _, h => by cases h
  | p :: ps, S, d :: ds, ρ, ρ', h => by
    obtain ⟨ρ1, _, h2⟩ := Option.bind_eq_some_iff.mp (show (p S d ρ).bind (fun ρ1 => (ps.foldr psCons psNil) S ds ρ1) = some ρ' from h)
    rw [List.length_cons, List.length_cons, psCons_len h2]
/-- ps takes n items -/
def Takesn (ps : Bnds) (n : Nat) : Prop := ∀ S ds ρ ρ', ps S ds ρ = some ρ' → ds.length = n
theorem takes_nil : Takesn psNil 0 := fun S ds ρ ρ' h => by
  cases ds with
  | nil => rfl
  | cons => cases h
theorem takes_cons {p : Bnd} {ps : Bnds} {n : Nat} (h : Takesn ps n) : Takesn (psCons p ps) (n + 1) := fun S ds ρ ρ' e => by
  cases ds with
  | nil => cases e
  | cons d ds =>
    obtain ⟨ρ1, _, h2⟩ := Option.bind_eq_some_iff.mp (show (p S d ρ).bind (fun ρ1 => ps S ds ρ1) = some ρ' from e)
    rw [List.length_cons, h S ds ρ1 ρ' h2]
theorem pg_seq {es : List Expr} {k : Nat} {t : TGs} {n : Nat} {pos : Pos} (hc : X.calm = true) (h : PGs X es t) (hn : (assignEach es X.env).length = n) (hst : (assignEach es X.env).findIdx? (·.1) = none) :
    PG X (.Tuple es k pos) (fun v σ H Q => gTup X.K n t v σ H Q ∨ gLst X.K n t v σ H Q) :=
  ⟨fun pins s σ H v u Q I r q => q.elim (fun q => (pg_tup hc h hn hst).run pins s σ H v u Q I r q) fun q => (pg_lst hc h hn hst).run pins s σ H v u Q I r q⟩
theorem ok_ptup {es : List Expr} {k n : Nat} {vs : List Nat} {ps : Bnds} {pos : Pos} (hc : X.calm = true) (h : PGs X es (rdGs (cfx X fa ca) vs ps)) (hn : (assignEach es X.env).length = n) (ht : Takesn ps n) (hst : (assignEach es X.env).findIdx? (·.1) = none) : PG X (.Tuple es k pos) (rdG (cfx X fa ca) vs (pTup ps)) :=
  PG.mono (pg_seq hc h hn hst) fun v σ H Q ⟨μ, ρ, S, d, ρ', hw, hr, hp, hq⟩ => by
    unfold pTup at hp
    split at hp
    · rename_i ds hi
      obtain ⟨a, xs, rfl, r1, q | q⟩ := items_ok hw.wf hr hi
      · exact .inr ⟨_, _, rfl, SqL.of q.1, by rw [r1.length]; exact ht _ _ _ _ hp, μ, ρ, S, _, ρ', hw, r1, hp, hq⟩
      · exact .inl ⟨_, _, rfl, q.1, by rw [r1.length]; exact ht _ _ _ _ hp, μ, ρ, S, _, ρ', hw, r1, hp, hq⟩
    · cases hp
end
end Mk

set_option Elab.async false
set_option linter.all false
set_option maxRecDepth 100000
/-! MkS9: list comprehensions. -/
namespace Mk
open PySem PySem.Spec PyProof.Rows L2
def del (H : Hp) (D : Addr) : Hp := fun b => if b = D then none else H b
theorem del_same {H : Hp} {D : Addr} : del H D D = none := if_pos rfl
theorem del_ne {H : Hp} {D b : Addr} (h : b ≠ D) : del H D b = H b := if_neg h
theorem del_some {H : Hp} {D b : Addr} {o : HO} (h : del H D b = some o) : b ≠ D ∧ H b = some o := by
  by_cases e : b = D
  · subst e; rw [del_same] at h; cases h
  · rw [del_ne e] at h; exact ⟨e, h⟩
theorem del_upd {H : Hp} {D : Addr} {o : HO} : del (upd H D o) D = del H D := by
  funext b
  by_cases e : b = D
  · subst e; rw [del_same, del_same]
  · rw [del_ne e, del_ne e, upd_ne e]
theorem upd_del {H : Hp} {D : Addr} {o : HO} (h : H D = some o) : upd (del H D) D o = H := by
  funext b
  by_cases e : b = D
  · subst e; rw [upd_same, h]
  · rw [upd_ne e, del_ne e]
theorem del_none {H : Hp} {D : Addr} (h : H D = none) : del H D = H := by
  funext b
  by_cases e : b = D
  · subst e; rw [del_same, h]
  · rw [del_ne e]
/-- .. and D -/
abbrev Fa.and (fa : Fa) (D : Addr) : Fa := fa.hide fun b => fa.hid b ∨ b = D
def W0 : WX := fun _ _ _ _ => False
section
variable {K : PySem.W.Frag} {fa : Fa} {μ μ' μ1 : List Addr} {H H' H1 : Hp} {S S' : Store} {D : Addr} {vs : List V}
theorem SqT.del (h : H D = some (.lst vs)) {a : Addr} {xs : List V} (q : SqT K H a xs) : SqT K (Mk.del H D) a xs := by
  rcases q with (q | ⟨o, q⟩) | q
  · exact .inl (.inl (by rw [del_ne (fun e => by rw [e, h] at q; cases q)]; exact q))
  · exact .inl (.inr ⟨o, by rw [del_ne (fun e => by rw [e, h] at q; cases q)]; exact q⟩)
  · exact .inr q
mutual
theorem RelD.del (h : H D = some (.lst vs)) : ∀ {d : PyData} {v : V}, RelD K (fa.and D) μ H d v → RelD K fa μ (Mk.del H D) d v
  | _, _, .non => .non
  | _, _, .bl b => .bl b
  | _, _, .int i => .int i
  | _, _, .str x => .str x
  | _, _, .tup q r => .tup (SqT.del h q) (RelDs.del h r)
  | _, _, .lst q n hh r => .lst (by rw [del_ne (fun e => hh (.inr e))]; exact q) n (fun z => hh (.inl z)) (RelDs.del h r)
  | _, _, .cell q => .cell q
  | _, _, .fn q => .fn q
  | _, _, .lk q r => .lk (q.imp (fun ⟨q, n, hh⟩ => ⟨by
      have ne := fun e => hh (.inr e)
      rcases q with q | ⟨o, q⟩
      · exact .inl (by rw [del_ne ne]; exact q)
      · exact .inr ⟨o, by rw [del_ne ne]; exact q⟩, n, fun z => hh (.inl z)⟩) id) (RelDs.del h r)
theorem RelDs.del (h : H D = some (.lst vs)) : ∀ {ds : List PyData} {us : List V}, RelDs K (fa.and D) μ H ds us → RelDs K fa μ (Mk.del H D) ds us
  | _, _, .nil => .nil
  | _, _, .cons q t => .cons (RelD.del h q) (RelDs.del h t)
end
theorem Wf.del (w : Wf K (fa.and D) μ S H) (h : H D = some (.lst vs)) (hn : ¬ fa.hid D) : Wf K fa μ S (Mk.del H D) := by
  have hD : D ∉ μ := (w.hd D (.inr rfl)).1
  refine ⟨w.len, w.nd, fun k a c h1 h2 => ?_, fun b hb => ⟨(w.hd b (.inl hb)).1, ?_⟩⟩
  · have ha : a ≠ D := fun e => hD (e ▸ List.mem_of_getElem? h1)
    have ok := w.cells k a c h1 h2
    cases c with
    | lst ds => obtain ⟨xs, e, r⟩ := ok; exact ⟨xs, by rw [del_ne ha]; exact e, r.del h⟩
    | dct t ks vs =>
      cases t with
      | false => obtain ⟨kvs, e, e2, r⟩ := ok; exact ⟨kvs, by rw [del_ne ha]; exact e, e2, r.del h⟩
      | true => obtain ⟨ob, kvs, e, e2, r⟩ := ok; exact ⟨ob, kvs, by rw [del_ne ha]; exact e, e2, r.del h⟩
  · obtain ⟨_, o, e⟩ := w.hd b (.inl hb)
    exact ⟨o, by rw [del_ne (fun z : b = D => hn (z ▸ hb))]; exact e⟩
/-- the new list is laid -/
theorem wf_start (w : Wf K fa μ S H) (hD : H D = none) : Wf K (fa.and D) μ S (upd H D (.lst [])) := by
  have w2 : Wf K fa μ S (upd H D (.lst [])) := w.new hD
  refine ⟨w2.len, w2.nd, fun k a c h1 h2 => ?_, fun b hb => ?_⟩
  · have := ((w.cells k a c h1 h2).hide (hid := fun b => fa.hid b ∨ b = D) fun b hb => hb.imp id fun e => e ▸ hD)
    have wh : ∀ {a : Addr} {o : HO}, H a = some o → isC o = false → a ∉ μ := fun h n => w.notIn h n
    have ha : upd H D (.lst []) a = H a := upd_ne fun z => w.notNone hD (z ▸ List.mem_of_getElem? h1)
    cases c with
    | lst ds => obtain ⟨xs, e, r⟩ := this; exact ⟨xs, ha.trans e, r.ext0 wh (Ext.new hD)⟩
    | dct t ks vs =>
      cases t with
      | false => obtain ⟨kvs, e, e2, r⟩ := this; exact ⟨kvs, ha.trans e, e2, r.ext0 wh (Ext.new hD)⟩
      | true => obtain ⟨ob, kvs, e, e2, r⟩ := this; exact ⟨ob, kvs, ha.trans e, e2, r.ext0 wh (Ext.new hD)⟩
  · rcases hb with hb | hb
    · obtain ⟨h1, o, h2⟩ := w.hd b hb
      exact ⟨h1, o, by rw [upd_ne (fun z => by rw [z, hD] at h2; cases h2)]; exact h2⟩
    · subst hb
      exact ⟨w.notNone hD, _, upd_same⟩
/-- across a step that keeps the list under construction -/
theorem Ext.step {fb fc : Fa} (e1 : Ext fa μ1 H1 μ (Mk.del H D)) (hD1 : H1 D = none) (e : Ext fb μ H μ' H') (h : H D = some (.lst vs)) (hm : D ∉ μ) : H' D = some (.lst vs) ∧ Ext fa μ1 H1 μ' (Mk.del H' D) := by
  have h' : H' D = some (.lst vs) := e.keep _ _ h hm
  refine ⟨h', ?_⟩
  have e2 : Ext fa μ (Mk.del H D) μ' (Mk.del H' D) := by
    obtain ⟨ν, r, f⟩ := e.pre
    refine ⟨⟨ν, r, fun b hb => ?_⟩, fun b o q n => ?_, fun b o q => ?_⟩
    · have := f b hb
      by_cases z : b = D
      · subst z; exact del_same
      · rw [del_ne z]; exact this
    · obtain ⟨z, q⟩ := del_some q
      rw [del_ne z]; exact e.keep b o q n
    · obtain ⟨z, q⟩ := del_some q
      rw [del_ne z]; exact e.there b o q
  exact e1.trans e2
/-- as the iterables see it -/
theorem Ext.toD {fb : Fa} (e : Ext fa μ1 H1 μ (Mk.del H D)) : ExtH fb μ1 H1 μ H :=
  ⟨e.pre, fun b o h n _ => (del_some (e.keep b o h n)).2, fun b o h => by
    obtain ⟨o', z, k⟩ := e.there b o h
    exact ⟨o', (del_some z).2, k⟩⟩
/-- one more item -/
theorem wf_app (w : Wf K (fa.and D) μ S H) (h : H D = some (.lst vs)) {xs : List V} : Wf K (fa.and D) μ S (upd H D (.lst xs)) ∧ ∀ {d : PyData} {v : V}, RelD K (fa.and D) μ H d v → RelD K (fa.and D) μ (upd H D (.lst xs)) d v := by
  have hD : D ∉ μ := (w.hd D (.inr rfl)).1
  have eH : ExtH (fa.and D) μ H μ (upd H D (.lst xs)) := by
    refine ⟨⟨[], by simp, fun _ z => nomatch z⟩, fun b o q n hh => ?_, fun b o q => ?_⟩
    · have hb : b ≠ D := fun z => by
        subst z; rw [h] at q; cases q
        exact hh rfl (.inr rfl)
      rw [upd_ne hb]; exact q
    · by_cases hb : b = D
      · subst hb; rw [h] at q; cases q; exact ⟨_, upd_same, rfl, fun z => nomatch z⟩
      · exact ⟨o, by rw [upd_ne hb]; exact q, .rf⟩
  have wh : ∀ {a : Addr} {o : HO}, H a = some o → isC o = false → a ∉ μ := fun h n => w.notIn h n
  refine ⟨⟨w.len, w.nd, fun k a c h1 h2 => ?_, fun b hb => ⟨(w.hd b hb).1, ?_⟩⟩, fun r => r.extH wh eH⟩
  · have ha : upd H D (.lst xs) a = H a := upd_ne fun z => hD (z ▸ List.mem_of_getElem? h1)
    have ok := w.cells k a c h1 h2
    cases c with
    | lst ds => obtain ⟨xs, e, r⟩ := ok; exact ⟨xs, ha.trans e, r.extH wh eH⟩
    | dct t ks vs =>
      cases t with
      | false => obtain ⟨kvs, e, e2, r⟩ := ok; exact ⟨kvs, ha.trans e, e2, r.extH wh eH⟩
      | true => obtain ⟨ob, kvs, e, e2, r⟩ := ok; exact ⟨ob, kvs, ha.trans e, e2, r.extH wh eH⟩
  · obtain ⟨_, o, e⟩ := w.hd b hb
    obtain ⟨o', e', _⟩ := eH.there b o e
    exact ⟨o', e'⟩
theorem relDs_of {fb fc : Fa} {μ' : List Addr} {H' : Hp} (f : ∀ {d : PyData} {v : V}, RelD K fb μ H d v → RelD K fc μ' H' d v) : ∀ {ds : List PyData} {us : List V}, RelDs K fb μ H ds us → RelDs K fc μ' H' ds us
  | _, _, .nil => .nil
  | _, _, .cons q t => .cons (f q) (relDs_of f t)
/-! names forgotten -/
theorem wipeE_length (ρ : Env) : ∀ vs : List Nat, (wipeE ρ vs).length = ρ.length
  | [] => rfl
  | v :: vs => by unfold wipeE; rw [List.length_set, wipeE_length ρ vs]
theorem wipeE_some {ρ : Env} {i : Nat} {d : PyData} : ∀ {vs : List Nat}, (wipeE ρ vs)[i]? = some (some d) → ρ[i]? = some (some d) ∧ i ∉ vs
  | [], h => ⟨h, by simp⟩
  | v :: vs, h => by
    unfold wipeE at h
    by_cases e : v = i
    · subst e
      by_cases hl : v < (wipeE ρ vs).length
      · rw [List.getElem?_set_self hl] at h; cases h
      · rw [List.getElem?_eq_none (by rw [List.length_set]; omega)] at h; cases h
    · rw [List.getElem?_set_ne e] at h
      obtain ⟨h1, h2⟩ := wipeE_some h
      exact ⟨h1, fun m => (List.mem_cons.mp m).elim (fun z => e z.symm) h2⟩
theorem wipe_keep {σ : St} {i : Nat} {x : V} : ∀ {vs : List Nat}, σ[i]? = some (some x) → i ∉ vs → (wipe σ vs)[i]? = some (some x)
  | [], h, _ => h
  | v :: vs, h, n => by
    have h1 : v ≠ i := fun e => n (by rw [e]; exact List.mem_cons_self)
    unfold wipe
    rw [List.getElem?_set_ne h1]
    exact wipe_keep h fun m => n (List.mem_cons_of_mem _ m)
theorem SW.less {ρ : Env} {σ : St} (s : SW K fa μ ρ S σ H) (vs : List Nat) : SW K fa μ (wipeE ρ vs) S σ H :=
  ⟨s.wf, by rw [wipeE_length]; exact s.len, fun i d h => s.env i d (wipeE_some h).1⟩
theorem SW.wipe {ρ : Env} {σ : St} (s : SW K fa μ ρ S σ H) (vs : List Nat) : SW K fa μ (wipeE ρ vs) S (L2.wipe σ vs) H :=
  ⟨s.wf, by rw [wipeE_length, wipe_length]; exact s.len, fun i d h => by
    obtain ⟨h1, h2⟩ := wipeE_some h
    obtain ⟨v, q, r⟩ := s.env i d h1
    exact ⟨v, wipe_keep q h2, r⟩⟩
theorem wipe_get {σ σ' : St} {vs : List Nat} (ho : Only vs σ σ') : ∀ {ws : List Nat}, (∀ j ∈ vs, j ∈ ws) → L2.wipe σ' ws = L2.wipe σ ws := by
  have gen : ∀ (ws : List Nat) (i : Nat), (i ∈ ws → (L2.wipe σ' ws)[i]? = (L2.wipe σ ws)[i]?) ∧ (σ'[i]? = σ[i]? → (L2.wipe σ' ws)[i]? = (L2.wipe σ ws)[i]?) := by
    intro ws
    induction ws with
    | nil => exact fun i => ⟨fun h => absurd h (by simp), fun h => h⟩
    | cons w ws ih =>
      intro i
      have hl : (L2.wipe σ' ws).length = (L2.wipe σ ws).length := by rw [wipe_length, wipe_length]; exact ho.1
      unfold L2.wipe
      by_cases e : w = i
      · subst e
        have : ((L2.wipe σ' ws).set w none)[w]? = ((L2.wipe σ ws).set w none)[w]? := by
          by_cases hw : w < (L2.wipe σ ws).length
          · rw [List.getElem?_set_self hw, List.getElem?_set_self (by rw [hl]; exact hw)]
          · rw [List.getElem?_eq_none (by rw [List.length_set]; omega), List.getElem?_eq_none (by rw [List.length_set]; omega)]
        exact ⟨fun _ => this, fun _ => this⟩
      · refine ⟨fun h => ?_, fun h => ?_⟩
        · rw [List.getElem?_set_ne e, List.getElem?_set_ne e]
          exact (ih i).1 ((List.mem_cons.mp h).resolve_left fun z => e z.symm)
        · rw [List.getElem?_set_ne e, List.getElem?_set_ne e]
          exact (ih i).2 h
  intro ws hs
  refine List.ext_getElem? fun i => ?_
  by_cases hi : i ∈ ws
  · exact (gen ws i).1 hi
  · exact (gen ws i).2 (ho.2 i fun z => hi (hs i z))
end

/-! ### readings that hold whatever is being made -/
theorem PE.ex {X : Cx} {e : Expr} {C : Cf} {W : WX} {ev : EvE} (h : ∀ hid, PE X e (rdE (C.hide hid) W ev)) : PE X e (fun σ H Q => ∃ hid, rdE (C.hide hid) W ev σ H Q) := ⟨fun pins s σ H Q I ⟨hid, hw⟩ => (h hid).run pins s σ H Q I hw⟩
theorem PG.ex {X : Cx} {e : Expr} {C : Cf} {vs : List Nat} {p : Bnd} (h : ∀ hid, PG X e (rdG (C.hide hid) vs p)) : PG X e (fun v σ H Q => ∃ hid, rdG (C.hide hid) vs p v σ H Q) := ⟨fun pins s σ H v u Q I r ⟨hid, hw⟩ => (h hid).run pins s σ H v u Q I r hw⟩
theorem PTs.ex {X : Cx} {e : List Expr} {C : Cf} {W : WX} {ev : EvB} (h : ∀ hid, PTs X e (rdB (C.hide hid) W ev)) : PTs X e (fun σ H Q => ∃ hid, rdB (C.hide hid) W ev σ H Q) := ⟨fun pins s σ H Q I ⟨hid, hw⟩ => (h hid).run pins s σ H Q I hw⟩
theorem PI.ex {X : Cx} {tg e : Expr} {C : Cf} {W : WX} {ev : EvI} (h : ∀ hid, PI X tg e (rdI (C.hide hid) W ev)) : PI X tg e (fun σ H R => ∃ hid, rdI (C.hide hid) W ev σ H R) := ⟨fun pins s σ H R I ⟨hid, hw⟩ => (h hid).run pins s σ H R I hw⟩
theorem ok_noifs {X : Cx} {C : Cf} {W : WX} : PTs X [] (rdB C W bYes) := ⟨fun pins s σ H Q I ⟨μ, ρ, S, hw, hp⟩ => pts_nil.run pins s σ H Q I (PostG.here hp hw.wf rfl)⟩

/-- a result that is no exception -/
def Fin (C : Cf) (D : Addr) (μ1 : List Addr) (H1 : Hp) (Q : VK) : R (List PyData) → Prop
  | .ok acc S' => ∀ vs H2 μ2, Ext C.fa μ1 H1 μ2 H2 → Wf C.K C.fa μ2 S' H2 → RelDs C.K C.fa μ2 H2 acc vs → H2 D = none → Q (.ref D) (upd H2 D (.lst vs))
  | _ => False
theorem fin_bind {C C' : Cf} {D : Addr} {μ1 μ : List Addr} {H1 H : Hp} {σ : St} {Q : VK} {α γ : Type} {Ra : List Addr → Hp → α → γ → Prop} {Q1 : γ → Hp → Prop} {x : R α} {f : α → Store → R (List PyData)} (P : R (List PyData) → Prop) (hP : ∀ r, P r → ∀ c S, r ≠ .exc c S) (hS : ¬ P .stuck) (h : P (x.bind f))
    (k : ∀ a S1 v H2 μ2, Ext C'.fa μ H μ2 H2 → Wf C'.K C'.fa μ2 S1 H2 → Ra μ2 H2 a v → P (f a S1) → Q1 v H2) : PostG C' Ra W0 σ μ H Q1 x := by
  cases x with
  | ok a S1 => exact fun v H2 μ2 e w r => k a S1 v H2 μ2 e w r h
  | exc c S1 => exact absurd rfl (hP _ h c S1)
  | stuck => exact absurd h hS
section
variable {X : Cx} {fa : Fa} {ca : Nat → Option Addr} {W : WX}
/-- the state of a comprehension's loop -/
structure Mid (X : Cx) (fa : Fa) (D : Addr) (μ1 : List Addr) (H1 : Hp) (ρ : Env) (σ : St) (μ : List Addr) (S : Store) (H : Hp) (acc : List PyData) (vs : List V) : Prop where
  sw : SW X.K (fa.and D) μ ρ S σ H
  rel : RelDs X.K (fa.and D) μ H acc vs
  at_ : H D = some (.lst vs)
  ext : Ext fa μ1 H1 μ (del H D)
theorem Mid.out {D : Addr} {μ1 : List Addr} {H1 : Hp} {ρ : Env} {σ : St} {μ : List Addr} {S : Store} {H : Hp} {acc : List PyData} {vs : List V} {Q : VK} (m : Mid X fa D μ1 H1 ρ σ μ S H acc vs) (hn : ¬ fa.hid D) (h : Fin (cfx X fa ca) D μ1 H1 Q (.ok acc S)) : Q (.ref D) H := by
  have := h vs (del H D) μ m.ext (m.sw.wf.del m.at_ hn) (m.rel.del m.at_) del_same
  rwa [upd_del m.at_] at this
theorem Mid.next {D : Addr} {μ1 : List Addr} {H1 : Hp} {ρ ρ' : Env} {σ σ' : St} {μ μ' : List Addr} {S S' : Store} {H H' : Hp} {acc : List PyData} {vs : List V} {fb : Fa} (m : Mid X fa D μ1 H1 ρ σ μ S H acc vs) (hD : H1 D = none) (e : Ext fb μ H μ' H') (sw : SW X.K (fa.and D) μ' ρ' S' σ' H') : Mid X fa D μ1 H1 ρ' σ' μ' S' H' acc vs := by
  have hm : D ∉ μ := (m.sw.wf.hd D (.inr rfl)).1
  obtain ⟨h1, h2⟩ := Ext.step (fc := fa) m.ext hD e m.at_ hm
  exact ⟨sw, m.rel.ext m.sw.wf ⟨e.pre, e.keep, e.there⟩, h1, h2⟩
theorem Mid.app {D : Addr} {μ1 : List Addr} {H1 : Hp} {ρ : Env} {σ : St} {μ : List Addr} {S : Store} {H : Hp} {acc : List PyData} {vs : List V} {d : PyData} {v : V} (m : Mid X fa D μ1 H1 ρ σ μ S H acc vs) (r : RelD X.K (fa.and D) μ H d v) : Mid X fa D μ1 H1 ρ σ μ S (upd H D (.lst (vs ++ [v]))) (acc ++ [d]) (vs ++ [v]) := by
  obtain ⟨w, f⟩ := wf_app (xs := vs ++ [v]) m.sw.wf m.at_
  refine ⟨⟨w, m.sw.len, fun i d h => ?_⟩, (relDs_of f m.rel).append (.cons (f r) .nil), upd_same, ?_⟩
  · obtain ⟨v, q, r⟩ := m.sw.env i d h
    exact ⟨v, q, f r⟩
  · rw [del_upd]; exact m.ext
theorem Mid.start {D : Addr} {μ1 : List Addr} {H1 : Hp} {ρ : Env} {σ : St} {S : Store} (sw : SW X.K fa μ1 ρ S σ H1) (hD : H1 D = none) : Mid X fa D μ1 H1 ρ σ μ1 S (upd H1 D (.lst [])) [] [] := by
  refine ⟨⟨wf_start sw.wf hD, sw.len, fun i d h => ?_⟩, .nil, upd_same, ?_⟩
  · obtain ⟨v, q, r⟩ := sw.env i d h
    exact ⟨v, q, (r.hide (hid := fun b => fa.hid b ∨ b = D) fun b hb => hb.imp id fun e => e ▸ hD).ext0 (fun h n => sw.wf.notIn h n) (Ext.new hD)⟩
  · rw [del_upd, del_none hD]; exact .refl
theorem fin_noX {C : Cf} {D : Addr} {μ1 : List Addr} {H1 : Hp} {Q : VK} {σ : St} {r : R (List PyData)} (h : PostF C W σ μ1 H1 Q ((noX r).bind fun xs S1 => .ok (.list xs) S1)) : Fin C D μ1 H1 Q r := by
  cases r with
  | ok acc S => exact fun vs H2 μ2 e w rr hn => h vs D H2 μ2 e w rr hn
  | exc c S => exact h.elim
  | stuck => exact h.elim
theorem fin_noXB {C : Cf} {D : Addr} {μ1 : List Addr} {H1 : Hp} {Q : VK} {α : Type} {x : R α} {r : α → Store → R (List PyData)} {K : List PyData → Store → R (List PyData)} (h : Fin C D μ1 H1 Q (x.bind fun a S => (noX (r a S)).bind K)) : Fin C D μ1 H1 Q (x.bind fun a S => (r a S).bind K) := by
  cases x with
  | ok a S =>
    have h : Fin C D μ1 H1 Q ((noX (r a S)).bind K) := h
    show Fin C D μ1 H1 Q ((r a S).bind K)
    cases hr : r a S with
    | ok b S' => rw [hr] at h; exact h
    | exc c S' => rw [hr] at h; exact h.elim
    | stuck => rw [hr] at h; exact h.elim
  | exc c S => exact h
  | stuck => exact h
theorem fin_exc {C : Cf} {D : Addr} {μ1 : List Addr} {H1 : Hp} {Q : VK} : ∀ r, Fin C D μ1 H1 Q r → ∀ c S, r ≠ .exc c S := fun r h c S e => by subst e; exact h.elim
abbrev blk (X : Cx) (scope : Scope) (s : Shared) (H : Hp) (C : Addr) (cl : List (Str × Addr)) (fp : List Addr) : Cx := X.blk s H scope (compEnvC scope cl C X.env) fp
theorem lc_law {elt tg iter : Expr} {own vs0 : List Nat} {evI : EvI} {p : Bnd} {c : EvB} {ev : EvE} (hv : ∀ i ∈ vs0, i ∈ own) (σ : St) (H : Hp) (Q : VK)
    (h : rdF (cfx X fa ca) W (eComp own (gCons vs0 p evI c gNil) ev) σ H Q) :
    tLc (rdI (cfx X fa ca) W evI) (fun v σ H Q => ∃ hid, rdG ((cfx X fa ca).hide hid) vs0 p v σ H Q) (fun σ H Q => ∃ hid, rdB ((cfx X fa ca).hide hid) W0 c σ H Q) (fun σ H Q => ∃ hid, rdE ((cfx X fa ca).hide hid) W0 ev σ H Q) own σ H Q := by
  obtain ⟨μ, ρ, S, hw, hp⟩ := h
  refine ⟨μ, wipeE ρ own, S, hw.less own, ?_⟩
  replace hp : PostF (cfx X fa ca) W σ μ H Q (((evI (wipeE ρ own) S).bind fun i S1 => noX (loopC i p c (gNil ev) (wipeE (wipeE ρ own) vs0) (i.len S1) 0 S1 [])).bind fun xs S1 => .ok (.list xs) S1) := hp
  cases e : evI (wipeE ρ own) S with
  | exc c S1 => rw [e] at hp; exact hp
  | stuck => rw [e] at hp; exact hp.elim
  | ok i S1 =>
    rw [e] at hp
    intro J H1 μ1 e1 w1 io D hD
    have fin : Fin (cfx X fa ca) D μ1 H1 Q (loopC i p c (gNil ev) (wipeE (wipeE ρ own) vs0) (i.len S1) 0 S1 []) := fin_noX (PostF.ext e1 hp)
    have sw1 : SW X.K fa μ1 (wipeE (wipeE ρ own) vs0) S1 (wipe σ own) H1 := ((hw.ext e1 w1).wipe own).less vs0
    have hn : ¬ fa.hid D := w1.notHid hD
    have hk : HidOk fa (fun b => fa.hid b ∨ b = D) H1 := fun b hb => by
      rcases hb with h | h
      · exact .inl h
      · exact .inr (by rw [h]; exact hD)
    refine ⟨fun n m H => ∃ μ S acc vs, Mid X fa D μ1 H1 (wipeE (wipeE ρ own) vs0) (wipe σ own) μ S H acc vs ∧ Fin (cfx X fa ca) D μ1 H1 Q (loopC i p c (gNil ev) (wipeE (wipeE ρ own) vs0) m n S acc), ⟨_, μ1, S1, [], [], .start sw1 hD, fin⟩, ?_⟩
    rintro n m H2 ⟨μ2, S2, acc, vs, md, fn⟩
    cases ha : i.at S2 n with
    | none =>
      refine .inl ⟨io.stop _ hk n μ2 S2 H2 md.ext.toD md.sw.wf ha, ?_⟩
      cases m with
      | zero => unfold loopC at fn; rw [ha] at fn; exact md.out hn fn
      | succ m => unfold loopC at fn; rw [ha] at fn; exact md.out hn fn
    | some d =>
      obtain ⟨g1, g2⟩ := io.go _ hk n μ2 S2 H2 d md.ext.toD md.sw.wf ha
      refine .inr ⟨g1, ?_⟩
      cases m with
      | zero => unfold loopC at fn; rw [ha] at fn; exact fn.elim
      | succ m =>
        unfold loopC at fn
        rw [ha] at fn
        dsimp only at fn
        refine ⟨fun H' => ∃ μ S acc vs, Mid X fa D μ1 H1 (wipeE (wipeE ρ own) vs0) (wipe σ own) μ S H' acc vs ∧ Fin (cfx X fa ca) D μ1 H1 Q (loopC i p c (gNil ev) (wipeE (wipeE ρ own) vs0) m (n + 1) S acc), fun H' h => ⟨m, Nat.lt_succ_self m, h⟩, fun x H3 hy => ?_⟩
        obtain ⟨e3, w3, r3⟩ := g2 x H3 hy
        have md3 := md.next hD e3 (md.sw.ext (fa := fa.and D) e3 w3)
        cases hp1 : p S2 d (wipeE (wipeE ρ own) vs0) with
        | none => rw [hp1] at fn; exact fn.elim
        | some ρ1 =>
          rw [hp1] at fn
          dsimp only at fn
          refine ⟨fun b => fa.hid b ∨ b = D, μ2, _, S2, d, ρ1, md3.sw, r3, hp1, fun σ2 sw2 ho => ⟨wipe_get ho hv |>.trans ?_, ?_⟩⟩
          · have wi : ∀ (ws : List Nat), wipe (wipe σ ws) ws = wipe σ ws := fun ws => wipe_get (σ := σ) (σ' := wipe σ ws) (vs := ws) ⟨wipe_length σ ws, fun j hj => L2.wipe_out hj⟩ (fun _ h => h)
            exact wi own
          · refine ⟨fun b => fa.hid b ∨ b = D, μ2, ρ1, S2, sw2, fin_bind (C := cfx X fa ca) (D := D) (μ1 := μ1) (H1 := H1) (Q := Q) (Fin (cfx X fa ca) D μ1 H1 Q) fin_exc (fun z => z) fn fun t S4 k H4 μ4 e4 w4 rk fn4 => ?_⟩
            subst rk
            have md4 := md3.next hD e4 (md3.sw.ext (fa := fa.and D) e4 w4)
            cases k with
            | false => exact ⟨μ4, S4, acc, vs, md4, fn4⟩
            | true =>
              refine ⟨fun b => fa.hid b ∨ b = D, μ4, ρ1, S4, sw2.ext (fa := fa.and D) e4 w4, ?_⟩
              replace fn4 : Fin (cfx X fa ca) D μ1 H1 Q ((ev ρ1 S4).bind fun x S5 => (guard' (lenOk (acc.length + 1)) (.ok (acc ++ [x]) S5)).bind fun acc' S6 => loopC i p c (gNil ev) (wipeE (wipeE ρ own) vs0) m (n + 1) S6 acc') := by
                have : ((gNil ev ρ1 S4 acc).bind fun acc' S2 => loopC i p c (gNil ev) (wipeE (wipeE ρ own) vs0) m (n + 1) S2 acc') = ((ev ρ1 S4).bind fun x S5 => (guard' (lenOk (acc.length + 1)) (.ok (acc ++ [x]) S5)).bind fun acc' S6 => loopC i p c (gNil ev) (wipeE (wipeE ρ own) vs0) m (n + 1) S6 acc') := by
                  unfold gNil
                  cases ev ρ1 S4 <;> rfl
                rw [← this]; exact fn4
              refine fin_bind (C := cfx X fa ca) (D := D) (μ1 := μ1) (H1 := H1) (Q := Q) (Fin (cfx X fa ca) D μ1 H1 Q) fin_exc (fun z => z) fn4 fun y S5 v H5 μ5 e5 w5 r5 fn5 => ?_
              have md5 := md4.next hD e5 (md4.sw.ext (fa := fa.and D) e5 w5)
              cases hl : lenOk (acc.length + 1) with
              | false => rw [hl] at fn5; exact fn5.elim
              | true =>
                rw [hl] at fn5
                have hlen := lenOk_le hl
                exact ⟨vs, md5.at_, by rw [md5.rel.length]; omega, μ5, S5, _, _, md5.app r5, fn5⟩
theorem ok_lc {elt tg iter : Expr} {ifs : List Expr} {scope : Scope} {own : List (Str × Nat)} {pos : Pos} {vs0 : List Nat} {evI : EvI} {p : Bnd} {c : EvB} {ev : EvE} (hc : X.calm = true) (hN : X.N.Nodup) (hi : PI X tg iter (rdI (cfx X fa ca) W evI)) (ok : BlkOk X.N X.env.scope scope own) (hv : ∀ i ∈ vs0, i ∈ own.map (·.2))
    (hg : ∀ hid s H C cl fp, PG (blk X scope s H C cl fp) tg (rdG ((cfx X fa ca).hide hid) vs0 p)) (ht : ∀ hid s H C cl fp, PTs (blk X scope s H C cl fp) ifs (rdB ((cfx X fa ca).hide hid) W0 c)) (he : ∀ hid s H C cl fp, PE (blk X scope s H C cl fp) elt (rdE ((cfx X fa ca).hide hid) W0 ev)) (hs : ∀ x, foldedSetIterable iter X.env x = pure x) :
    PE X (.ListComp elt [⟨tg, iter, ifs, 0⟩] scope pos) (rdF (cfx X fa ca) W (eComp (own.map (·.2)) (gCons vs0 p evI c gNil) ev)) :=
  PE.mono (pe_lc hc hN hi ok (fun s H C cl fp => PG.ex fun hid => hg hid s H C cl fp) (fun s H C cl fp => PTs.ex fun hid => ht hid s H C cl fp) (fun s H C cl fp => PE.ex fun hid => he hid s H C cl fp) hs) fun σ H Q h => lc_law (elt := elt) (tg := tg) (iter := iter) hv σ H Q h
theorem ok_setLc {i : Nat} {y : Str} {py : Pos} {elt tg iter : Expr} {ifs : List Expr} {scope : Scope} {own : List (Str × Nat)} {pos spos : Pos} {vs0 : List Nat} {evI : EvI} {p : Bnd} {c : EvB} {ev : EvE} (hc : X.calm = true) (hN : X.N.Nodup) (hy : X.N[i]? = some y) (hyl : X.env.scope.names.lookup y = some .local)
    (hsw : swapsWith (.ListComp elt [⟨tg, iter, ifs, 0⟩] scope pos) (some (.Name y py)) spos.line X.env = pure true) (hi : PI X tg iter (rdI (cfx X fa ca) W evI)) (ok : BlkOk X.N X.env.scope scope own) (hv : ∀ i ∈ vs0, i ∈ own.map (·.2))
    (hg : ∀ hid s H C cl fp, PG (blk X scope s H C cl fp) tg (rdG ((cfx X fa ca).hide hid) vs0 p)) (ht : ∀ hid s H C cl fp, PTs (blk X scope s H C cl fp) ifs (rdB ((cfx X fa ca).hide hid) W0 c)) (he : ∀ hid s H C cl fp, PE (blk X scope s H C cl fp) elt (rdE ((cfx X fa ca).hide hid) W0 ev)) (hs : ∀ x, foldedSetIterable iter X.env x = pure x) :
    PS X (.Assign [.Name y py] (.ListComp elt [⟨tg, iter, ifs, 0⟩] scope pos) spos) (tAsg (rdF (cfx X fa ca) W (eComp (own.map (·.2)) (gCons vs0 p evI c gNil) ev)) (gName i)) :=
  PS.mono (ps_setLc hc hN hy hyl hsw hi ok (fun s H C cl fp => PG.ex fun hid => hg hid s H C cl fp) (fun s H C cl fp => PTs.ex fun hid => ht hid s H C cl fp) (fun s H C cl fp => PE.ex fun hid => he hid s H C cl fp) hs) fun D σ H h => lc_law (elt := elt) (tg := tg) (iter := iter) hv σ H _ h
end
end Mk

set_option Elab.async false
set_option linter.all false
set_option maxRecDepth 100000
/-! MkS10: statements. -/
namespace Mk
open PySem PySem.Spec PyProof.Rows L2
def PostS (C : Cf) (W : WX) (D : Ends) (μ : List Addr) (H : Hp) : SR → Prop
  | .nx ρ' S' => ∀ μ' σ' H', Ext C.fa μ H μ' H' → SW C.K C.fa μ' ρ' S' σ' H' → D.nx σ' H'
  | .rt d S' => ∀ v μ' H', Ext C.fa μ H μ' H' → Wf C.K C.fa μ' S' H' → RelD C.K C.fa μ' H' d v → D.rt v H'
  | .bk ρ' S' => ∀ μ' σ' H', Ext C.fa μ H μ' H' → SW C.K C.fa μ' ρ' S' σ' H' → D.bk σ' H'
  | .ct ρ' S' => ∀ μ' σ' H', Ext C.fa μ H μ' H' → SW C.K C.fa μ' ρ' S' σ' H' → D.ct σ' H'
  | .exc c ρ' S' => ∀ cls dx μ' σ' H', Ext C.fa μ H μ' H' → SW C.K C.fa μ' ρ' S' σ' H' → ExR C.ca c cls dx H' → W cls dx σ' H'
  | .stuck => False
def rdS (C : Cf) (W : WX) (ev : EvS) : TS := fun D σ H => ∃ μ ρ S, SW C.K C.fa μ ρ S σ H ∧ PostS C W D μ H (ev ρ S)
section
variable {C : Cf} {W : WX} {D : Ends} {μ μ1 : List Addr} {H H1 : Hp} {σ : St} {ρ : Env} {S : Store} {α γ : Type} {Ra : List Addr → Hp → α → γ → Prop}
theorem PostS.ext {r : SR} (e : Ext C.fa μ H μ1 H1) (h : PostS C W D μ H r) : PostS C W D μ1 H1 r := by
  cases r with
  | nx ρ' S' => exact fun μ' σ' H' e' => h μ' σ' H' (e.trans e')
  | rt d S' => exact fun v μ' H' e' => h v μ' H' (e.trans e')
  | bk ρ' S' => exact fun μ' σ' H' e' => h μ' σ' H' (e.trans e')
  | ct ρ' S' => exact fun μ' σ' H' e' => h μ' σ' H' (e.trans e')
  | exc c ρ' S' => exact fun cls dx μ' σ' H' e' => h cls dx μ' σ' H' (e.trans e')
  | stuck => exact h
theorem PostS.bind {x : R α} {k : α → Store → SR} {Q1 : γ → Hp → Prop} (sw : SW C.K C.fa μ ρ S σ H) (h : PostS C W D μ H (x.toS ρ k))
    (f : ∀ a S1 v H1 μ1, Ext C.fa μ H μ1 H1 → SW C.K C.fa μ1 ρ S1 σ H1 → Ra μ1 H1 a v → PostS C W D μ1 H1 (k a S1) → Q1 v H1) : PostG C Ra W σ μ H Q1 x := by
  cases x with
  | ok a S1 => exact fun v H1 μ1 e w r => f a S1 v H1 μ1 e (sw.ext e w) r (PostS.ext e h)
  | exc c S1 => exact fun cls dx H' μ' e w x => h cls dx μ' σ H' e (sw.ext e w) x
  | stuck => exact h
theorem PostS.here {σ' : St} {ρ' : Env} (h : PostS C W D μ H (.nx ρ' S)) (sw : SW C.K C.fa μ ρ' S σ' H) : D.nx σ' H := h μ σ' H .refl sw
theorem PostS.seq {x : SR} {k : Env → Store → SR} (h : PostS C W D μ H (x.seq k)) : PostS C W { D with nx := rdS C W k D } μ H x := by
  cases x with
  | nx ρ' S' => exact fun μ' σ' H' e sw => ⟨μ', ρ', S', sw, PostS.ext e h⟩
  | _ => exact h
end
section
variable {X : Cx} {fa : Fa} {ca : Nat → Option Addr} {W : WX}
theorem ok_pass {pos : Pos} : PS X (.Pass pos) (rdS (cfx X fa ca) W sPass) := PS.mono ps_pass fun D σ H ⟨μ, ρ, S, sw, hp⟩ => PostS.here hp sw
theorem ok_doc {x : Str} {j : Nat} {pos pos' : Pos} : PS X (.Expr (.Constant (.str x) j pos) pos') (rdS (cfx X fa ca) W sPass) := PS.mono ps_doc fun D σ H ⟨μ, ρ, S, sw, hp⟩ => PostS.here hp sw
theorem ok_brk {pos : Pos} : PS X (.Break pos) (rdS (cfx X fa ca) W sBrk) := PS.mono ps_break fun D σ H ⟨μ, ρ, S, sw, hp⟩ => hp μ σ H .refl sw
theorem ok_cnt {pos : Pos} : PS X (.Continue pos) (rdS (cfx X fa ca) W sCnt) := PS.mono ps_continue fun D σ H ⟨μ, ρ, S, sw, hp⟩ => hp μ σ H .refl sw
theorem ok_retN {pos : Pos} : PS X (.Return none pos) (rdS (cfx X fa ca) W sRetN) := PS.mono ps_retN fun D σ H ⟨μ, ρ, S, sw, hp⟩ => hp .non μ H .refl sw.wf .non
theorem ok_ret {e : Expr} {ev : EvE} {pos : Pos} (he : PE X e (rdE (cfx X fa ca) W ev)) : PS X (.Return (some e) pos) (rdS (cfx X fa ca) W (sRet ev)) :=
  PS.mono (ps_ret he) fun D σ H ⟨μ, ρ, S, sw, hp⟩ => ⟨μ, ρ, S, sw, PostS.bind sw hp fun d S1 v H1 μ1 e1 sw1 r1 p1 => p1 v μ1 H1 .refl sw1.wf r1⟩
theorem ok_expr {e : Expr} {ev : EvE} {pos : Pos} (he : PE X e (rdE (cfx X fa ca) W ev)) (hs : swapsWith e none pos.line X.env = pure false) : PS X (.Expr e pos) (rdS (cfx X fa ca) W (sExpr ev)) :=
  PS.mono (ps_expr he hs) fun D σ H ⟨μ, ρ, S, sw, hp⟩ => ⟨μ, ρ, S, sw, PostS.bind sw hp fun d S1 v H1 μ1 e1 sw1 r1 p1 => PostS.here p1 sw1⟩
theorem ok_if {c : Expr} {a b : List Stmt} {ec : EvB} {ea eb : EvS} {pos : Pos} (hc : PT X c (rdB (cfx X fa ca) W ec)) (ha : PSs X a (rdS (cfx X fa ca) W ea)) (hb : PSs X b (rdS (cfx X fa ca) W eb)) : PS X (.If c a b pos) (rdS (cfx X fa ca) W (sIf ec ea eb)) :=
  PS.mono (ps_if hc ha hb) fun D σ H ⟨μ, ρ, S, sw, hp⟩ => ⟨μ, ρ, S, sw, PostS.bind sw hp fun t S1 v H1 μ1 e1 sw1 r1 p1 => by
    cases r1
    cases t with
    | true => exact ⟨μ1, ρ, S1, sw1, p1⟩
    | false => exact ⟨μ1, ρ, S1, sw1, p1⟩⟩
theorem PSs.mono {X : Cx} {e : List Stmt} {t t' : TS} (h : PSs X e t) (i : ∀ D σ H, t' D σ H → t D σ H) : PSs X e t' := ⟨fun pins s σ H D I hw => h.run pins s σ H D I (i _ _ _ hw)⟩
theorem oks_nilS : PSs X [] (rdS (cfx X fa ca) W sPass) := PSs.mono pss_nil fun D σ H ⟨μ, ρ, S, sw, hp⟩ => PostS.here hp sw
theorem oks_consS {a : Stmt} {b : List Stmt} {ea eb : EvS} (ha : PS X a (rdS (cfx X fa ca) W ea)) (hb : PSs X b (rdS (cfx X fa ca) W eb)) : PSs X (a :: b) (rdS (cfx X fa ca) W (sSeq ea eb)) :=
  PSs.mono (pss_cons ha hb) fun D σ H ⟨μ, ρ, S, sw, hp⟩ => ⟨μ, ρ, S, sw, PostS.seq hp⟩
theorem ok_while {c : Expr} {body : List Stmt} {ec : EvB} {eb : EvS} {wf : Nat} {pos : Pos} (hp : PassesOwn (model X.prog X.w) X.A X.env X.xe) (hc : PT X c (rdB (cfx X fa ca) W ec)) (hb : PSs X body (rdS (cfx X fa ca) W eb)) : PS X (.While c body [] pos) (rdS (cfx X fa ca) W (sWhile wf ec eb)) :=
  PS.mono (ps_while hp hc hb) fun D σ H ⟨μ, ρ, S, sw, hp⟩ => by
    refine ⟨fun m σ H => ∃ μ ρ S, SW X.K fa μ ρ S σ H ∧ PostS (cfx X fa ca) W D μ H (loopW ec eb m ρ S), ⟨wf, μ, ρ, S, sw, hp⟩, ?_⟩
    rintro m σ1 H1 ⟨μ1, ρ1, S1, sw1, h1⟩
    cases m with
    | zero => exact h1.elim
    | succ m =>
      refine ⟨μ1, ρ1, S1, sw1, ?_⟩
      unfold loopW at h1
      cases hc1 : ec ρ1 S1 with
      | stuck => rw [hc1] at h1; exact h1.elim
      | exc c S2 =>
        rw [hc1] at h1
        exact fun cls dx H' μ' e w x => h1 cls dx μ' σ1 H' e (sw1.ext e w) x
      | ok t S2 =>
        rw [hc1] at h1
        intro k H2 μ2 e2 w2 rk
        cases rk
        have sw2 := sw1.ext e2 w2
        cases t with
        | false =>
          rw [if_neg Bool.false_ne_true]
          exact PostS.here (PostS.ext e2 h1) sw2
        | true =>
          rw [if_pos rfl]
          dsimp only at h1
          refine ⟨fun σ' H' => ∃ μ ρ S, SW X.K fa μ ρ S σ' H' ∧ PostS (cfx X fa ca) W D μ H' (loopW ec eb m ρ S), fun σ' H' h => ⟨m, Nat.lt_succ_self m, h⟩, μ2, ρ1, S2, sw2, ?_⟩
          cases hb1 : eb ρ1 S2 with
          | nx ρ2 S3 =>
            rw [hb1] at h1
            exact fun μ' σ' H' e sw' => ⟨μ', ρ2, S3, sw', PostS.ext (e2.trans e) h1⟩
          | ct ρ2 S3 =>
            rw [hb1] at h1
            exact fun μ' σ' H' e sw' => ⟨μ', ρ2, S3, sw', PostS.ext (e2.trans e) h1⟩
          | bk ρ2 S3 =>
            rw [hb1] at h1
            exact fun μ' σ' H' e sw' => h1 μ' σ' H' (e2.trans e) sw'
          | rt d S3 =>
            rw [hb1] at h1
            exact fun v μ' H' e => h1 v μ' H' (e2.trans e)
          | exc c ρ2 S3 =>
            rw [hb1] at h1
            exact fun cls dx μ' σ' H' e => h1 cls dx μ' σ' H' (e2.trans e)
          | stuck => rw [hb1] at h1; exact h1.elim
theorem ok_for {tg iter : Expr} {body : List Stmt} {vs : List Nat} {p : Bnd} {ei : EvI} {eb : EvS} {pos : Pos} (hp : PassesOwn (model X.prog X.w) X.A X.env X.xe) (hc : X.calm = true) (hi : PI X tg iter (rdI (cfx X fa ca) W ei)) (hg : PG X tg (rdG (cfx X fa ca) vs p)) (hb : PSs X body (rdS (cfx X fa ca) W eb))
    (hs : ∀ x, foldedSetIterable iter X.env x = pure x) : PS X (.For tg iter body [] pos) (rdS (cfx X fa ca) W (sFor p ei eb)) :=
  PS.mono (ps_for hp hc hi hg hb hs) fun D σ H ⟨μ, ρ, S, sw, hp⟩ => by
    refine ⟨μ, ρ, S, sw, PostS.bind sw hp fun i S1 J H1 μ1 e1 sw1 io p1 => ?_⟩
    refine ⟨fun n m σ H => ∃ μ ρ S, SW X.K fa μ ρ S σ H ∧ Ext fa μ1 H1 μ H ∧ PostS (cfx X fa ca) W D μ H (loopF i p eb m n ρ S), ⟨_, μ1, ρ, S1, sw1, .refl, p1⟩, ?_⟩
    rintro n m σ2 H2 ⟨μ2, ρ2, S2, sw2, e2, h2⟩
    have hk : HidOk fa fa.hid H1 := fun b hb => .inl hb
    cases ha : i.at S2 n with
    | none =>
      refine .inl ⟨io.stop fa.hid hk n μ2 S2 H2 e2.toH sw2.wf ha, ?_⟩
      cases m with
      | zero => unfold loopF at h2; rw [ha] at h2; exact PostS.here h2 sw2
      | succ m => unfold loopF at h2; rw [ha] at h2; exact PostS.here h2 sw2
    | some d =>
      obtain ⟨g1, g2⟩ := io.go fa.hid hk n μ2 S2 H2 d e2.toH sw2.wf ha
      refine .inr ⟨g1, ?_⟩
      cases m with
      | zero => unfold loopF at h2; rw [ha] at h2; exact h2.elim
      | succ m =>
        unfold loopF at h2
        rw [ha] at h2
        dsimp only at h2
        refine ⟨fun σ H => ∃ μ ρ S, SW X.K fa μ ρ S σ H ∧ Ext fa μ1 H1 μ H ∧ PostS (cfx X fa ca) W D μ H (loopF i p eb m (n + 1) ρ S), fun σ' H' h => ⟨m, Nat.lt_succ_self m, h⟩, fun x H3 hy => ?_⟩
        obtain ⟨e3, w3, r3⟩ := g2 x H3 hy
        have sw3 := sw2.ext e3 w3
        cases hp1 : p S2 d ρ2 with
        | none => rw [hp1] at h2; exact h2.elim
        | some ρ3 =>
          rw [hp1] at h2
          dsimp only at h2
          refine ⟨μ2, ρ2, S2, d, ρ3, sw3, r3, hp1, fun σ4 sw4 _ => ⟨μ2, ρ3, S2, sw4, ?_⟩⟩
          have e13 := e2.trans e3
          cases hb1 : eb ρ3 S2 with
          | nx ρ5 S5 =>
            rw [hb1] at h2
            exact fun μ' σ' H' e sw' => ⟨μ', ρ5, S5, sw', e13.trans e, PostS.ext (Ext.trans e3 e) h2⟩
          | ct ρ5 S5 =>
            rw [hb1] at h2
            exact fun μ' σ' H' e sw' => ⟨μ', ρ5, S5, sw', e13.trans e, PostS.ext (Ext.trans e3 e) h2⟩
          | bk ρ5 S5 =>
            rw [hb1] at h2
            exact fun μ' σ' H' e sw' => h2 μ' σ' H' (Ext.trans e3 e) sw'
          | rt d S5 =>
            rw [hb1] at h2
            exact fun v μ' H' e => h2 v μ' H' (Ext.trans e3 e)
          | exc c ρ5 S5 =>
            rw [hb1] at h2
            exact fun cls dx μ' σ' H' e => h2 cls dx μ' σ' H' (Ext.trans e3 e)
          | stuck => rw [hb1] at h2; exact h2.elim

/-! ### stores -/
theorem ok_asg {tg e : Expr} {vs : List Nat} {p : Bnd} {ev : EvE} {pos : Pos} (he : PE X e (rdE (cfx X fa ca) W ev)) (hg : PG X tg (rdG (cfx X fa ca) vs p)) (hs : swapsWithSole [tg] e pos.line X.env = pure false) (hw : swappedStores [tg] e X.env = pure none) (h1 : (assignEach [tg] X.env).map (·.2) = [assign tg X.env]) :
    PS X (.Assign [tg] e pos) (rdS (cfx X fa ca) W (sAsg p ev)) :=
  PS.mono (ps_asg he hg hs hw h1) fun D σ H ⟨μ, ρ, S, sw, hp⟩ => ⟨μ, ρ, S, sw, PostS.bind sw hp fun d S1 v H1 μ1 e1 sw1 r1 p1 => by
    cases hq : p S1 d ρ with
    | none => rw [hq] at p1; exact p1.elim
    | some ρ' =>
      rw [hq] at p1
      exact ⟨μ1, ρ, S1, d, ρ', sw1, r1, hq, fun σ' sw' _ => PostS.here p1 sw'⟩⟩
/-- name = .. -/
theorem rd_set {i : Nat} {ev : EvE} {D : Ends} {σ : St} {H : Hp} (h : rdS (cfx X fa ca) W (sAsg (pVar i) ev) D σ H) : rdE (cfx X fa ca) W ev σ H fun x H1 => D.nx (σ.set i (some x)) H1 := by
  obtain ⟨μ, ρ, S, sw, hp⟩ := h
  refine ⟨μ, ρ, S, sw, PostS.bind sw hp fun d S1 v H1 μ1 e1 sw1 r1 p1 => ?_⟩
  cases hq : setV ρ i d with
  | none => rw [show pVar i S1 d ρ = none from hq] at p1; exact p1.elim
  | some ρ' =>
    rw [show pVar i S1 d ρ = some ρ' from hq] at p1
    exact PostS.here p1 (sw1.setV r1 hq)
theorem ok_set {i : Nat} {x : Str} {e : Expr} {ev : EvE} {pos pos' : Pos} (hN : X.N.Nodup) (hi : X.N[i]? = some x) (hx : Loc X.env.scope x) (he : PE X e (rdE (cfx X fa ca) W ev)) (hs : swapsWith e (some (.Name x pos')) pos.line X.env = pure false) (hf : X.fn x = true ∨ X.env.scope.names.lookup x = some .local) :
    PS X (.Assign [.Name x pos'] e pos) (rdS (cfx X fa ca) W (sAsg (pVar i) ev)) :=
  PS.mono (ps_set hN hi hx he hs hf) fun D σ H h => rd_set h
theorem rdF_of {ev : EvE} {σ : St} {H : Hp} {Q : VK} (h : rdE (cfx X fa ca) W ev σ H Q) : rdF (cfx X fa ca) W ev σ H Q := let ⟨μ, ρ, S, sw, hp⟩ := h; ⟨μ, ρ, S, sw, .of hp⟩
theorem rdF_thaw {ev : EvE} {σ : St} {H : Hp} {Q : VK} (h : rdE (cfx X fa ca) W (eThaw ev) σ H Q) : rdF (cfx X fa ca) W ev σ H Q := let ⟨μ, ρ, S, sw, hp⟩ := h; ⟨μ, ρ, S, sw, .thaw hp⟩
theorem PostS.ofE {D : Ends} {μ : List Addr} {H : Hp} {o : Option Env} {S : Store} (h : PostS (cfx X fa ca) W D μ H (Mk.ofE o S)) : ∃ ρ', o = some ρ' ∧ PostS (cfx X fa ca) W D μ H (.nx ρ' S) := by
  cases o with
  | none => exact h.elim
  | some ρ' => exact ⟨ρ', rfl, h⟩
theorem two_names {i j : Nat} {S : Store} {ds : List PyData} {ρ ρ' : Env} (h : psCons (pVar i) (psCons (pVar j) psNil) S ds ρ = some ρ') : ∃ d1 d2 ρ1, ds = [d1, d2] ∧ setV ρ i d1 = some ρ1 ∧ setV ρ1 j d2 = some ρ' := by
  cases ds with
  | nil => cases h
  | cons d1 ds =>
    obtain ⟨ρ1, h1, h⟩ := Option.bind_eq_some_iff.mp (show (setV ρ i d1).bind (fun ρ1 => psCons (pVar j) psNil S ds ρ1) = some ρ' from h)
    cases ds with
    | nil => cases h
    | cons d2 ds =>
      obtain ⟨ρ2, h2, h⟩ := Option.bind_eq_some_iff.mp (show (setV ρ1 j d2).bind (fun ρ2 => psNil S ds ρ2) = some ρ' from h)
      cases ds with
      | nil => cases h; exact ⟨d1, d2, ρ1, rfl, h1, h2⟩
      | cons => cases h
theorem three_names {i j l : Nat} {S : Store} {ds : List PyData} {ρ ρ' : Env} (h : psCons (pVar i) (psCons (pVar j) (psCons (pVar l) psNil)) S ds ρ = some ρ') : ∃ d1 d2 d3 ρ1 ρ2, ds = [d1, d2, d3] ∧ setV ρ i d1 = some ρ1 ∧ setV ρ1 j d2 = some ρ2 ∧ setV ρ2 l d3 = some ρ' := by
  cases ds with
  | nil => cases h
  | cons d1 ds =>
    obtain ⟨ρ1, h1, h⟩ := Option.bind_eq_some_iff.mp (show (setV ρ i d1).bind (fun ρ1 => psCons (pVar j) (psCons (pVar l) psNil) S ds ρ1) = some ρ' from h)
    obtain ⟨d2, d3, ρ2, rfl, h2, h3⟩ := two_names h
    exact ⟨d1, d2, d3, ρ1, ρ2, rfl, h1, h2, h3⟩
theorem rd_two_names {i j : Nat} {ev : EvEs} {D : Ends} {σ : St} {H : Hp} (h : rdS (cfx X fa ca) W (sPar (psCons (pVar i) (psCons (pVar j) psNil)) ev) D σ H) : tPar i j (rdEs (cfx X fa ca) W ev) D σ H := by
  obtain ⟨μ, ρ, S, sw, hp⟩ := h
  refine ⟨μ, ρ, S, sw, PostS.bind sw hp fun ds S1 vs H1 μ1 e1 sw1 r1 p1 => ?_⟩
  obtain ⟨ρ', ho, p2⟩ := PostS.ofE p1
  obtain ⟨d1, d2, ρ1, rfl, h1, h2⟩ := two_names ho
  cases r1 with
  | cons q1 r1 =>
    obtain ⟨y, rfl, q2⟩ := rels1 r1
    exact ⟨_, _, rfl, PostS.here p2 ((sw1.setV q1 h1).setV q2 h2)⟩
theorem rd_three_names {i j l : Nat} {ev : EvEs} {D : Ends} {σ : St} {H : Hp} (h : rdS (cfx X fa ca) W (sPar (psCons (pVar i) (psCons (pVar j) (psCons (pVar l) psNil))) ev) D σ H) : tPar3 i j l (rdEs (cfx X fa ca) W ev) D σ H := by
  obtain ⟨μ, ρ, S, sw, hp⟩ := h
  refine ⟨μ, ρ, S, sw, PostS.bind sw hp fun ds S1 vs H1 μ1 e1 sw1 r1 p1 => ?_⟩
  obtain ⟨ρ', ho, p2⟩ := PostS.ofE p1
  obtain ⟨d1, d2, d3, ρ1, ρ2, rfl, h1, h2, h3⟩ := three_names ho
  cases r1 with
  | cons q1 r1 =>
    obtain ⟨y, z, rfl, q2, q3⟩ := rels2 r1
    exact ⟨_, _, _, rfl, PostS.here p2 (((sw1.setV q1 h1).setV q2 h2).setV q3 h3)⟩
theorem ok_par3 {i j l : Nat} {x y z : Str} {a b c : Expr} {ev : EvEs} {px py pz pt pos : Pos} {kt k2 pt2} (hc : X.calm = true) (hN : X.N.Nodup) (hi : X.N[i]? = some x) (hj : X.N[j]? = some y) (hl : X.N[l]? = some z) (hij : i ≠ j) (hil : i ≠ l) (hjl : j ≠ l)
    (hx : X.env.scope.names.lookup x = some .local) (hy : X.env.scope.names.lookup y = some .local) (hz : X.env.scope.names.lookup z = some .local) (ha : PA X [a, b, c] (rdEs (cfx X fa ca) W ev))
    (hw : swappedStores [.Tuple [.Name x px, .Name y py, .Name z pz] kt pt] (.Tuple [a, b, c] k2 pt2) X.env = pure (some [x, y, z])) :
    PS X (.Assign [.Tuple [.Name x px, .Name y py, .Name z pz] kt pt] (.Tuple [a, b, c] k2 pt2) pos) (rdS (cfx X fa ca) W (sPar (psCons (pVar i) (psCons (pVar j) (psCons (pVar l) psNil))) ev)) :=
  PS.mono (ps_par3 hc hN hi hj hl hij hil hjl hx hy hz ha hw rfl) fun D σ H h => rd_three_names h
theorem ok_par {i j : Nat} {x y : Str} {a b : Expr} {ev : EvEs} {px py pt pos : Pos} {kt k2 pt2} (hc : X.calm = true) (hN : X.N.Nodup) (hi : X.N[i]? = some x) (hj : X.N[j]? = some y) (hij : i ≠ j)
    (hx : X.env.scope.names.lookup x = some .local) (hy : X.env.scope.names.lookup y = some .local) (ha : PA X [a, b] (rdEs (cfx X fa ca) W ev))
    (hw : swappedStores [.Tuple [.Name x px, .Name y py] kt pt] (.Tuple [a, b] k2 pt2) X.env = pure (some [x, y])) :
    PS X (.Assign [.Tuple [.Name x px, .Name y py] kt pt] (.Tuple [a, b] k2 pt2) pos) (rdS (cfx X fa ca) W (sPar (psCons (pVar i) (psCons (pVar j) psNil)) ev)) :=
  PS.mono (ps_par hc hN hi hj hij hx hy ha hw rfl) fun D σ H h => rd_two_names h
theorem rd_aug {i : Nat} {ev : EvE} {D : Ends} {σ : St} {H : Hp} (h : rdS (cfx X fa ca) W (sAug i .add ev) D σ H) : tAug i (rdE (cfx X fa ca) W ev) (ipI fun i j => i + j) D σ H := by
  obtain ⟨μ, ρ, S, sw, hp⟩ := h
  unfold sAug eVar at hp
  cases he : ρ[i]? with
  | none => rw [he] at hp; exact hp.elim
  | some o =>
    cases o with
    | none => rw [he] at hp; exact hp.elim
    | some d =>
      rw [he] at hp
      obtain ⟨x, h1, h2⟩ := sw.env i d he
      refine ⟨x, h1, μ, ρ, S, sw, PostS.bind sw hp fun d2 S1 v H1 μ1 e1 sw1 r1 p1 => ?_⟩
      split at p1
      · rename_i q1 q2 q3 a b _
        have r0 := h2.ext sw.wf e1
        cases r0; cases r1
        cases hq : setV ρ i (.int (a + b)) with
        | none => rw [hq] at p1; exact p1.elim
        | some ρ' =>
          rw [hq] at p1
          exact ⟨a, b, rfl, rfl, PostS.here p1 (sw1.setV (.int _) hq)⟩
      · rename_i h; cases h
      · exact p1.elim
theorem ok_aug {i : Nat} {x : Str} {e : Expr} {ev : EvE} {pos pos' : Pos} (hN : X.N.Nodup) (hi : X.N[i]? = some x) (hx : Loc X.env.scope x) (he : PE X e (rdE (cfx X fa ca) W ev)) (hf : X.fn x = true ∨ X.env.scope.names.lookup x = some .local) :
    PS X (.AugAssign (.Name x pos') .Add e pos) (rdS (cfx X fa ca) W (sAug i .add ev)) := PS.mono (ps_aug hN hi hx he ip_add hf) fun D σ H h => rd_aug h
end
end Mk

set_option Elab.async false
set_option linter.all false
set_option maxRecDepth 100000
/-! MkS11: stores into cells, appends, dict displays, raise, try. -/
namespace Mk
open PySem PySem.Spec PyProof.Rows L2
section
variable {X : Cx} {fa : Fa} {ca : Nat → Option Addr} {W : WX}

/-! ### a dict's new entry -/
theorem any_keyD (k : Key) : ∀ kvs : List (Key × V), (kvs.map fun p => keyD p.1).any (keyEq · (keyD k)) = kvs.any fun kv => decide (kv.1 = k)
  | [] => rfl
  | p :: r => by
    rw [List.map_cons, List.any_cons, List.any_cons, any_keyD k r]
    show (PyData.eqv (keyD p.1) (keyD k) || _) = _
    rw [keyD_eqv]
theorem putV_rel {K : PySem.W.Frag} {μ : List Addr} {H : Hp} {k : Key} {d : PyData} {v : V} (rv : RelD K fa μ H d v) : ∀ {kvs : List (Key × V)} {vs : List PyData}, RelDs K fa μ H vs (kvs.map (·.2)) →
    RelDs K fa μ H (putV (keyD k) d (kvs.map fun p => keyD p.1) vs) ((kvs.map (fun kv => if kv.1 = k then (kv.1, v) else kv)).map (·.2))
  | [], _, .nil => .nil
  | (x, y) :: kvs, _, .cons (d := e) (ds := vs) h t => by
    show RelDs K fa μ H ((if PyData.eqv (keyD x) (keyD k) = true then d else e) :: putV (keyD k) d (kvs.map fun p => keyD p.1) vs) ((if x = k then (x, v) else (x, y)).2 :: _)
    refine .cons ?_ (putV_rel rv t)
    rw [keyD_eqv]
    by_cases e : x = k
    · rw [if_pos (decide_eq_true e), if_pos e]; exact rv
    · rw [if_neg (by simpa using e), if_neg e]; exact h
theorem put_rel {K : PySem.W.Frag} {μ : List Addr} {H : Hp} {k : Key} {d : PyData} {v : V} (rv : RelD K fa μ H d v) {kvs : List (Key × V)} {vs : List PyData} (h : RelDs K fa μ H vs (kvs.map (·.2))) :
    (Mk.putK (keyD k) d (kvs.map fun p => keyD p.1) vs).1 = (L2.putK kvs k v).map (fun p => keyD p.1) ∧ RelDs K fa μ H (Mk.putK (keyD k) d (kvs.map fun p => keyD p.1) vs).2 ((L2.putK kvs k v).map (·.2)) := by
  unfold Mk.putK L2.putK
  rw [any_keyD]
  by_cases e : (kvs.any fun kv => decide (kv.1 = k)) = true
  · rw [if_pos e, if_pos e]
    refine ⟨?_, putV_rel rv h⟩
    rw [List.map_map]
    refine List.map_congr_left fun p _ => ?_
    show keyD p.1 = keyD (if p.1 = k then (p.1, v) else p).1
    split <;> rfl
  · rw [if_neg e, if_neg e]
    refine ⟨by rw [List.map_append]; rfl, ?_⟩
    rw [List.map_append]
    exact h.append (.cons rv .nil)
theorem same_d {H : Hp} {a : Addr} {xs ys : List (Key × V)} (h : H a = some (.dK xs)) : ∀ u, H a = some u → Sm u (.dK ys) := fun u e => by
  rw [h] at e; cases e; exact ⟨rfl, fun z => nomatch z⟩

/-! ### o[i] = e -/
def rSetA : TSet := fun o i v H Q => rSetL o i v H Q ∨ rSetD o i v H Q
theorem set_any (hu : X.A.units + 1 < cLine) : PSet X rSetA := by
  intro pins s σ H o i v ov iv u Q I ro ri rv h
  rcases h with h | h
  · exact set_list pins s σ H o i v ov iv u Q I ro ri rv h
  · exact set_dict hu pins s σ H o i v ov iv u Q I ro ri rv h
theorem set_ok {μ : List Addr} {S S' : Store} {H : Hp} {o i d : PyData} {x y v : V} {Q : Hp → Prop} (w : Wf X.K fa μ S H) (ro : RelD X.K fa μ H o x) (ri : RelD X.K fa μ H i y) (rv : RelD X.K fa μ H d v) (h : setD S o i d = some S')
    (q : ∀ H', Ext fa μ H μ H' → Wf X.K fa μ S' H' → Q H') : rSetA x y v H Q := by
  unfold setD at h
  split at h
  · rename_i c
    cases ro with
    | cell hk =>
      split at h
      · rename_i ds k e
        obtain ⟨xs, e2, r1⟩ := w.cells _ _ _ hk e
        obtain ⟨j, hj, rfl⟩ := Option.map_eq_some_iff.mp h
        cases ri
        exact .inl ⟨_, xs, k, j, rfl, rfl, e2, by rw [r1.length]; exact hj, q _ (Ext.set (List.mem_of_getElem? hk) (same_l e2)) (Wf.lset w hk e2 (r1.set rv j))⟩
      · rename_i t ks vs e
        split at h
        · rename_i hz
          cases h
          rw [Bool.and_eq_true, Bool.and_eq_true] at hz
          cases t with
          | true => exact absurd hz.1.1 (by decide)
          | false =>
            obtain ⟨kvs, e2, rfl, r1⟩ := w.cells _ _ _ hk e
            obtain ⟨k, rfl⟩ := isKey_some hz.1.2
            have hlen := of_decide_eq_true hz.2
            rw [List.length_map] at hlen
            obtain rfl := keyD_rel ri
            obtain ⟨p1, p2⟩ := put_rel rv (k := k) r1
            have ext : Ext fa μ H μ (upd H _ (.dK (L2.putK kvs k v))) := Ext.set (List.mem_of_getElem? hk) (same_d e2)
            exact .inr ⟨_, _, rfl, DPut.k e2 hlen, q _ ext (w.setC hk (same_d e2) ⟨_, upd_same, p1, p2.ext w ext⟩)⟩
        · cases h
      · cases h
  · cases h
theorem ok_setI {o i e : Expr} {eo ei ev : EvE} {pos p2 : Pos} (hu : X.A.units + 1 < cLine) (ho : PE X o (rdE (cfx X fa ca) W eo)) (hi : PE X i (rdE (cfx X fa ca) W ei)) (he : PE X e (rdE (cfx X fa ca) W ev)) (hs : swapsWithSole [.Subscript o i p2] e pos.line X.env = pure false)
    (ha : ∀ v, assign (.Subscript o i p2) X.env v = (do
      let ov ← holding [v] (eval o X.env)
      let iv ← holding [v, ov] (eval i X.env)
      standAt p2
      holding [v, ov, iv] (setItem ov iv v)
      release [v, ov, iv] [])) : PS X (.Assign [.Subscript o i p2] e pos) (rdS (cfx X fa ca) W (sSet eo ei ev)) :=
  PS.mono (ps_asg he (pg_sub ho hi (set_any hu) ha) hs rfl rfl) fun D σ H ⟨μ, ρ, S, sw, hp⟩ => ⟨μ, ρ, S, sw, PostS.bind sw hp fun d S1 v H1 μ1 e1 sw1 r1 p1 => by
    refine ⟨μ1, ρ, S1, sw1, PostS.bind sw1 p1 fun d2 S2 x H2 μ2 e2 sw2 r2 p2 => ?_⟩
    refine ⟨μ2, ρ, S2, sw2, PostS.bind sw2 p2 fun d3 S3 y H3 μ3 e3 sw3 r3 p3 => ?_⟩
    cases hS : setD S3 d2 d3 d with
    | none => rw [hS] at p3; exact p3.elim
    | some S4 =>
      rw [hS] at p3
      exact set_ok sw3.wf (r2.ext sw2.wf e3) r3 ((r1.ext sw1.wf e2).ext sw2.wf e3) hS fun H' ee w' => p3 μ3 σ H' ee (sw3.ext ee w')⟩

/-! ### o[i] += e -/
def rGetA (X : Cx) : V → V → Hp → VK → Prop := fun x y H Q => rIxL X.K x y H Q ∨ ∃ a v, x = .ref a ∧ DGet H a y (some v) ∧ Q v H
theorem get_any (hu : X.A.units + 1 < cLine) : PGet X (rGetA X) := by
  intro pins s σ H o i ov iv Q I ro ri h
  rcases h with ⟨p, xs, k, z, rfl, rfl, hq, he, q⟩ | ⟨a, v, rfl, g, q⟩
  · cases ro
    obtain ⟨t, rfl⟩ := ri
    obtain ⟨its, r, pl, hz⟩ := I.list hq
    obtain ⟨j, h1, h2, h3, h4, h5⟩ := atI_get he
    obtain ⟨w, ew, rw'⟩ := r.get h2
    have hl := r.length
    have hn := line63
    have fin : EP X pins σ Q w s := ⟨z, H, I, rw', q⟩
    by_cases h0 : 0 ≤ k
    · have hj : k.toNat = j := by
        rw [seqIndex_of h0 h5] at h1
        exact Option.some.inj h1
      exact wpAny_getItem_list pl.isList h0 (by omega) (by rw [hj]; simpa using ew) fin
    · have hj : (k + (its.toArray.size : Int)).toNat = j := by
        rw [seqIndex_neg (by omega) h4] at h1
        rw [List.size_toArray, ← hl]
        exact Option.some.inj h1
      exact wpAny_getItem_list_neg pl.isList (by omega) (by rw [List.size_toArray] <;> omega) (by omega) (by rw [hj]; simpa using ew) fin
  · cases ro
    exact d_getItem hu I g ri fun w' s3 I3 rw' => ⟨v, H, I3, rw', q⟩
theorem getA_ok {μ : List Addr} {S : Store} {H : Hp} {o i d : PyData} {x y : V} {Q : VK} (w : Wf X.K fa μ S H) (ro : RelD X.K fa μ H o x) (ri : RelD X.K fa μ H i y) (hc : (isCell S o || (dctOf S o).isSome) = true) (h : subD S o i = some d) (q : ∀ v, RelD X.K fa μ H d v → Q v H) : rGetA X x y H Q := by
  unfold subD at h
  split at h
  · rename_i z k
    cases hc
  · rename_i c
    split at h
    · rename_i ds k e
      cases ro with
      | cell hk =>
        obtain ⟨xs, e2, r1⟩ := w.cells _ _ _ hk e
        cases ri
        obtain ⟨v, h1, h2⟩ := atI_rel r1 h
        exact .inl ⟨_, xs, k, v, rfl, rfl, SqL.of e2, h1, q v h2⟩
    · rename_i t ks vs e
      split at h
      · rename_i hk
        obtain ⟨p, r, rfl, g, hr⟩ := dct_get w ri ro e hk
        rw [h] at hr
        obtain ⟨v, rfl, h2⟩ := hr
        exact .inr ⟨p, v, rfl, g, q v h2⟩
      · cases h
    · cases h
  · cases hc
  · cases hc
  · cases h
theorem ok_augset {o i e : Expr} {eo ei ev : EvE} {pos p2 : Pos} (hu : X.A.units + 1 < cLine) (ho : PE X o (rdE (cfx X fa ca) W eo)) (hi : PE X i (rdE (cfx X fa ca) W ei)) (he : PE X e (rdE (cfx X fa ca) W ev))
    (ha : ∀ ov iv new, augStore i ov iv new = (do holding [new, ov, iv] (setItem ov iv new); release [new, ov, iv] []; pure .next)) : PS X (.AugAssign (.Subscript o i p2) .Add e pos) (rdS (cfx X fa ca) W (sAugSet eo ei .add ev)) :=
  PS.mono (ps_augS ho hi (get_any hu) he ip_add (set_any hu) ha) fun D σ H ⟨μ, ρ, S, sw, hp⟩ => ⟨μ, ρ, S, sw, PostS.bind sw hp fun d S1 x H1 μ1 e1 sw1 r1 p1 => by
    refine ⟨μ1, ρ, S1, sw1, PostS.bind sw1 p1 fun d2 S2 y H2 μ2 e2 sw2 r2 p2 => ?_⟩
    replace p2 : PostS (cfx X fa ca) W D μ2 H2 ((ofO (subD S2 d d2) S2).toS ρ fun old S3 => if isCell S2 d || (dctOf S2 d).isSome then (ev ρ S3).toS ρ fun x S4 => ofS ((addD .add old x).bind fun n => setD S4 d d2 n) ρ else .stuck) := p2
    have r1' := r1.ext sw1.wf e2
    cases hs : subD S2 d d2 with
    | none => rw [hs] at p2; exact p2.elim
    | some old =>
      rw [hs] at p2
      replace p2 : PostS (cfx X fa ca) W D μ2 H2 (if isCell S2 d || (dctOf S2 d).isSome then (ev ρ S2).toS ρ fun x S4 => ofS ((addD .add old x).bind fun n => setD S4 d d2 n) ρ else .stuck) := p2
      split at p2
      · rename_i hc
        refine getA_ok sw2.wf r1' r2 hc hs fun v rv => ?_
        refine ⟨μ2, ρ, S2, sw2, PostS.bind sw2 p2 fun d4 S4 z H4 μ4 e4 sw4 r4 p4 => ?_⟩
        cases hA : addD .add old d4 with
        | none => rw [hA] at p4; exact p4.elim
        | some n =>
          rw [hA] at p4
          replace p4 : PostS (cfx X fa ca) W D μ4 H4 (ofS (setD S4 d d2 n) ρ) := p4
          unfold addD at hA
          split at hA
          · rename_i a b _
            cases hA
            have rv' := rv.ext sw2.wf e4
            cases rv'; cases r4
            refine ⟨_, _, rfl, rfl, ?_⟩
            cases hS : setD S4 d d2 (.int (_ + _)) with
            | none => rw [hS] at p4; exact p4.elim
            | some S5 =>
              rw [hS] at p4
              exact set_ok sw4.wf (r1'.ext sw2.wf e4) (r2.ext sw2.wf e4) (.int _) hS fun H' ee w' => p4 μ4 σ H' ee (sw4.ext ee w')
          · cases hA
      · exact p2.elim⟩
end
end Mk

set_option Elab.async false
set_option linter.all false
set_option maxRecDepth 100000
/-! MkS12: appends, dict displays, raise, try. -/
namespace Mk
open PySem PySem.Spec PyProof.Rows L2
section
variable {X : Cx} {fa : Fa} {ca : Nat → Option Addr} {W : WX}
/-! ### xs.append(e), xs.extend(e) -/
theorem rd_mut {m : Mut} {eo ev : EvE} {r : V → List V → Hp → VK → Prop}
    (hr : ∀ (μ : List Addr) (S S' : Store) (H : Hp) (Q : VK) (d e : PyData) (x y : V), Wf X.K fa μ S H → RelD X.K fa μ H d x → RelD X.K fa μ H e y → mutD m S d e = some S' → (∀ H', Ext fa μ H μ H' → Wf X.K fa μ S' H' → Q .non H') → r x [y] H Q)
    {D : Ends} {σ : St} {H : Hp} (h : rdS (cfx X fa ca) W (sMut m eo ev) D σ H) : tDrop (tBM X.K "list" r (rdE (cfx X fa ca) W eo) (tCons (rdE (cfx X fa ca) W ev) tNil)) D σ H := by
  obtain ⟨μ, ρ, S, sw, hp⟩ := h
  refine ⟨μ, ρ, S, sw, PostS.bind sw hp fun d S1 x H1 μ1 e1 sw1 r1 p1 => ?_⟩
  split at p1
  · rename_i hc
    refine ⟨isCell_ty sw1.wf r1 hc, μ1, ρ, S1, sw1, PostS.bind sw1 p1 fun d2 S2 y H2 μ2 e2 sw2 r2 p2 => ?_⟩
    show r x [y] H2 _
    cases hS : mutD m S2 d d2 with
    | none => rw [hS] at p2; exact p2.elim
    | some S3 =>
      rw [hS] at p2
      exact hr μ2 S2 S3 H2 _ d d2 x y sw2.wf (r1.ext sw1.wf e2) r2 hS fun H' ee w' => p2 μ2 σ H' ee (sw2.ext ee w')
  · exact p1.elim
theorem app_ok {μ : List Addr} {S S' : Store} {H : Hp} {Q : VK} {d e : PyData} {x y : V} (w : Wf X.K fa μ S H) (rx : RelD X.K fa μ H d x) (ry : RelD X.K fa μ H e y) (h : mutD .append S d e = some S') (q : ∀ H', Ext fa μ H μ H' → Wf X.K fa μ S' H' → Q .non H') : rAppend x [y] H Q := by
  unfold mutD at h
  split at h
  · rename_i k _
    obtain ⟨ds, e1, h⟩ := Option.bind_eq_some_iff.mp h
    obtain ⟨a, xs, rfl, hk, hH, r1⟩ := cell_rel w rx e1
    split at h
    · rename_i hl
      cases h
      exact ⟨a, xs, y, rfl, rfl, hH, by rw [r1.length]; exact hl, q _ (Ext.set (List.mem_of_getElem? hk) (same_l hH)) (Wf.lset w hk hH (r1.append (.cons ry .nil)))⟩
    · cases h
  · rename_i hm; cases hm
  · rename_i hm; cases hm
  · cases h
theorem ext_ok {μ : List Addr} {S S' : Store} {H : Hp} {Q : VK} {d e : PyData} {x y : V} (w : Wf X.K fa μ S H) (rx : RelD X.K fa μ H d x) (ry : RelD X.K fa μ H e y) (h : mutD .extend S d e = some S') (q : ∀ H', Ext fa μ H μ H' → Wf X.K fa μ S' H' → Q .non H') : rExtend x [y] H Q := by
  unfold mutD at h
  split at h
  · rename_i hm; cases hm
  · rename_i k _
    obtain ⟨ds, e1, h⟩ := Option.bind_eq_some_iff.mp h
    obtain ⟨es, e2, h⟩ := Option.bind_eq_some_iff.mp h
    obtain ⟨a, xs, rfl, hk, hH, r1⟩ := cell_rel w rx e1
    obtain ⟨b, ys, rfl, r2, hB⟩ := lst_ok w ry e2
    split at h
    · rename_i hl
      cases h
      exact ⟨a, b, xs, ys, rfl, rfl, hH, hB, by rw [r1.length, r2.length]; exact lenOk_le hl, q _ (Ext.set (List.mem_of_getElem? hk) (same_l hH)) (Wf.lset w hk hH (r1.append r2))⟩
    · cases h
  · rename_i hm; cases hm
  · cases h
theorem ints_rels {K : PySem.W.Frag} {μ : List Addr} {H : Hp} : ∀ ns : List Int, RelDs K fa μ H (ns.map PyData.int) (ns.map V.int)
  | [] => .nil
  | i :: r => .cons (.int i) (ints_rels r)
theorem rem_ok {μ : List Addr} {S S' : Store} {H : Hp} {Q : VK} {d e : PyData} {x y : V} (w : Wf X.K fa μ S H) (rx : RelD X.K fa μ H d x) (ry : RelD X.K fa μ H e y) (h : mutD .remove S d e = some S') (q : ∀ H', Ext fa μ H μ H' → Wf X.K fa μ S' H' → Q .non H') : rRemI x [y] H Q := by
  unfold mutD at h
  split at h
  · rename_i hm; cases hm
  · rename_i hm; cases hm
  · rename_i k _
    obtain ⟨ds, e1, h⟩ := Option.bind_eq_some_iff.mp h
    obtain ⟨ns, e2, h⟩ := Option.bind_eq_some_iff.mp h
    obtain ⟨a, xs, rfl, hk, hH, r1⟩ := cell_rel w rx e1
    split at h
    · cases ry with
      | int i =>
      split at h
      · rename_i hi
        cases h
        have hxs := r1.ints e2
        subst hxs
        exact ⟨a, ns, _, rfl, rfl, hH, hi, q _ (Ext.set (List.mem_of_getElem? hk) (same_l hH)) (Wf.lset w hk hH (ints_rels _))⟩
      · cases h
    · cases h
  · cases h
section
variable {o e : Expr} {eo ev : EvE} {apos cpos pos : Pos}
theorem ok_append (ho : PE X o (rdE (cfx X fa ca) W eo)) (he : PE X e (rdE (cfx X fa ca) W ev)) (hb : noBase o = true) (hs : plainE e = true) (hp : (apos.endLine == cpos.line) = true) :
    PS X (.Expr (.Call (.Attribute o "append" apos) [e] [] cpos) pos) (rdS (cfx X fa ca) W (sMut .append eo ev)) := by
  have h1 : [e].all plainE = true := by simp [hs]
  exact PS.mono (ps_expr (pe_bm PySem.F.plainAttrs_list PySem.F.slot_list_append PySem.F.type_list_append mt_append ho (pa_cons he pa_nil (star_cons hs)) (base_of hb) (few_of h1 (by show 1 < 30; decide)) hp (star_cons hs) (by rfl)) rfl) fun D σ H h => rd_mut (fun μ S S' H Q d e x y w rx ry h q => app_ok w rx ry h q) h
theorem ok_extend (ho : PE X o (rdE (cfx X fa ca) W eo)) (he : PE X e (rdE (cfx X fa ca) W ev)) (hb : noBase o = true) (hs : plainE e = true) (hp : (apos.endLine == cpos.line) = true) :
    PS X (.Expr (.Call (.Attribute o "extend" apos) [e] [] cpos) pos) (rdS (cfx X fa ca) W (sMut .extend eo ev)) := by
  have h1 : [e].all plainE = true := by simp [hs]
  exact PS.mono (ps_expr (pe_bm PySem.F.plainAttrs_list PySem.F.slot_list_extend PySem.F.type_list_extend mt_extend ho (pa_cons he pa_nil (star_cons hs)) (base_of hb) (few_of h1 (by show 1 < 30; decide)) hp (star_cons hs) (by rfl)) rfl) fun D σ H h => rd_mut (fun μ S S' H Q d e x y w rx ry h q => ext_ok w rx ry h q) h
theorem ok_remove (ho : PE X o (rdE (cfx X fa ca) W eo)) (he : PE X e (rdE (cfx X fa ca) W ev)) (hb : noBase o = true) (hs : plainE e = true) (hp : (apos.endLine == cpos.line) = true) :
    PS X (.Expr (.Call (.Attribute o "remove" apos) [e] [] cpos) pos) (rdS (cfx X fa ca) W (sMut .remove eo ev)) := by
  have h1 : [e].all plainE = true := by simp [hs]
  exact PS.mono (ps_expr (pe_bm PySem.F.plainAttrs_list PySem.F.slot_list_remove PySem.F.type_list_remove mt_remI ho (pa_cons he pa_nil (star_cons hs)) (base_of hb) (few_of h1 (by show 1 < 30; decide)) hp (star_cons hs) (by rfl)) rfl) fun D σ H h => rd_mut (fun μ S S' H Q d e x y w rx ry h q => rem_ok w rx ry h q) h
end

/-! ### {k: v, ..} -/
def kvsE : List (EvE × EvE) → EvEs
  | [] => esNil
  | (a, b) :: r => esCons a (esCons b (kvsE r))
def pairUp : List V → List (V × V)
  | x :: y :: r => (x, y) :: pairUp r
  | _ => []
theorem rdE_imp {ev : EvE} {σ : St} {H : Hp} {Q Q' : VK} (h : rdE (cfx X fa ca) W ev σ H Q) (i : ∀ v H', Q v H' → Q' v H') : rdE (cfx X fa ca) W ev σ H Q' := by
  obtain ⟨μ, ρ, S, sw, hp⟩ := h
  refine ⟨μ, ρ, S, sw, ?_⟩
  cases he : ev ρ S with
  | ok d S1 => rw [he] at hp; exact fun v H1 μ1 e w r => i _ _ (hp v H1 μ1 e w r)
  | exc c S1 => rw [he] at hp; exact hp
  | stuck => rw [he] at hp; exact hp
theorem rd_pairs : ∀ (ps : List (EvE × EvE)) (σ : St) (H : Hp) (Q : List (V × V) → Hp → Prop), rdEs (cfx X fa ca) W (kvsE ps) σ H (fun vs H' => Q (pairUp vs) H') → tPairs (ps.map fun p => (rdE (cfx X fa ca) W p.1, rdE (cfx X fa ca) W p.2)) σ H Q
  | [], σ, H, Q, ⟨μ, ρ, S, sw, hp⟩ => PostG.here (Rb := RelDs X.K fa) (b := []) (v := []) hp sw.wf RelDs.nil
  | (a, b) :: r, σ, H, Q, h => rdE_imp (rd_cons σ H _ h) fun x H1 h1 => rdE_imp (rd_cons σ H1 _ h1) fun y H2 h2 => rd_pairs r σ H2 _ h2
theorem pair_split {K : PySem.W.Frag} {μ : List Addr} {H : Hp} : ∀ (zs : List PyData) (vs : List V), RelDs K fa μ H zs vs → (evens zs).all (keyOk false) = true → (evens zs).length = (odds zs).length →
    ∃ kvs : List (Key × V), pairUp vs = kvs.map (fun kv => (kV kv.1, kv.2)) ∧ evens zs = kvs.map (fun p => keyD p.1) ∧ RelDs K fa μ H (odds zs) (kvs.map (·.2))
  | [], _, .nil, _, _ => ⟨[], rfl, rfl, .nil⟩
  | [d], _, .cons h .nil, _, _ => ⟨[], rfl, rfl, .nil⟩
  | d :: e :: zs, _, .cons h (.cons h2 t), hk, hl => by
    have hk' : (keyOk false d && (evens zs).all (keyOk false)) = true := hk
    rw [Bool.and_eq_true] at hk'
    obtain ⟨k, rfl⟩ := isKey_some (d := d) hk'.1
    obtain ⟨kvs, q1, q2, q3⟩ := pair_split zs _ t hk'.2 (Nat.succ.inj hl)
    have ev := keyD_rel h
    subst ev
    refine ⟨(k, _) :: kvs, ?_, ?_, .cons h2 q3⟩
    · show (_, _) :: pairUp _ = _
      rw [q1]; rfl
    · show keyD k :: evens zs = _
      rw [q2]; rfl
theorem putAll_rel {K : PySem.W.Frag} {μ : List Addr} {H : Hp} : ∀ (more : List (Key × V)) (os : List PyData) (kvs : List (Key × V)) (vs : List PyData), RelDs K fa μ H os (more.map (·.2)) → RelDs K fa μ H vs (kvs.map (·.2)) →
    (putAll (more.map fun p => keyD p.1) os (kvs.map (fun p => keyD p.1), vs)).1 = (mergeK kvs more).map (fun p => keyD p.1) ∧ RelDs K fa μ H (putAll (more.map fun p => keyD p.1) os (kvs.map (fun p => keyD p.1), vs)).2 ((mergeK kvs more).map (·.2))
  | [], _, kvs, vs, .nil, r => ⟨rfl, r⟩
  | (k, v) :: more, _, kvs, vs, .cons (d := d) (ds := os) h t, r => by
    obtain ⟨p1, p2⟩ := put_rel h (k := k) r
    have ih := putAll_rel more os (L2.putK kvs k v) _ t p2
    rw [← p1] at ih
    exact ih
theorem ok_dct {ps : List (EvE × EvE)} {keys : List (Option Expr)} {values : List Expr} {pos : Pos} (h : PPs X pos keys values (ps.map fun p => (rdE (cfx X fa ca) W p.1, rdE (cfx X fa ca) W p.2))) (hall : keys.all (·.isSome) = true) (hl : keys.length = values.length) (h0 : keys ≠ []) (h15 : keys.length ≤ 15) :
    PE X (.Dict keys values pos) (rdE (cfx X fa ca) W (eDct false (kvsE ps))) :=
  PE.mono (pe_disp h hall hl h0 h15) fun σ H Q ⟨μ, ρ, S, sw, hp⟩ p hn => by
    have e0 : Ext fa μ H (μ ++ [p]) (upd H p (.dK [])) := Ext.newC hn
    have w0 : Wf X.K fa (μ ++ [p]) (S ++ [.dct false [] []]) (upd H p (.dK [])) := sw.wf.newC hn ⟨[], upd_same, rfl, .nil⟩
    have hk0 : (μ ++ [p])[S.length]? = some p := by
      rw [List.getElem?_append_right (by rw [sw.wf.len]; exact Nat.le_refl _), sw.wf.len, Nat.sub_self]; rfl
    refine rd_pairs ps σ _ _ ⟨μ ++ [p], ρ, S ++ [.dct false [] []], sw.ext e0 w0, PostG.bind (PostG.ext e0 hp) fun zs S1 vs H1 μ1 e1 w1 r1 p1 => ?_⟩
    unfold mkDct at p1
    split at p1
    · rename_i t' hS
      obtain ⟨g, p2⟩ := PostG.guard p1
      simp only [Bool.and_eq_true, decide_eq_true_eq] at g
      obtain ⟨⟨⟨⟨g1, g2⟩, g3⟩, _⟩, g5⟩ := g
      subst g1
      have hk1 := e1.get hk0
      obtain ⟨kvs0, q1, q2, q3⟩ := w1.cells _ _ _ hk1 hS
      have hk2 : kvs0 = [] := by
        cases kvs0 with
        | nil => rfl
        | cons => cases q2
      subst hk2
      obtain ⟨kvs, z1, z2, z3⟩ := pair_split zs vs r1 g2 g3
      obtain ⟨y1, y2⟩ := putAll_rel kvs (odds zs) [] [] z3 .nil
      rw [z2] at p2 g5
      refine ⟨q1, kvs, z1, by rw [List.length_map] at g5; exact g5, ?_⟩
      have ext : Ext fa μ1 H1 μ1 (upd H1 p (.dK (mergeK [] kvs))) := Ext.set (List.mem_of_getElem? hk1) (same_d q1)
      exact p2 (.ref p) _ μ1 ext (w1.setC hk1 (same_d q1) ⟨_, upd_same, y1, y2.ext w1 ext⟩) (.cell hk1)
    · exact p1.elim

/-! ### raise -/
theorem ok_raise {c : Nat} {ac : Addr} {x : Str} {bmB : List Value} {B newId initId : String} {p cpos pos : Pos} {e : Expr} {es : List Expr} {ev : EvEs} (hc : X.calm = true) (tk : Takes X W) (hf : fieldN c = none) (hac : ca c = some ac) (F : ExcBaseFacts B newId initId bmB) (q : PySem.W.excIn X.K ac bmB newId = true) (gC : X.mg x = some (.ref ac))
    (kC : PySem.W.keepIn X.K (.ref ac) = true) (r : Raises X (.ref ac)) (hg : Gl X x) (ha : PA X (e :: es) (rdEs (cfx X fa ca) W ev)) (hdb : (x == ("__debug__" : Str)) = false) (hs : (e :: es).all plainE = true) :
    PS X (.Raise (some (.Call (.Name x p) (e :: es) [] cpos)) none pos) (rdS (cfx X fa ca) W (sRaise c ev)) := by
  have hs' := hs; rw [List.all_cons, Bool.and_eq_true] at hs'
  refine PS.mono (ps_raise hc tk (pmk_ownA F q gC kC r hg ha hdb (star_cons hs'.1) (star_none hs'.2))) fun D σ H ⟨μ, ρ, S, sw, hp⟩ => ?_
  refine ⟨μ, ρ, S, sw, ?_⟩
  have hp : PostS (cfx X fa ca) W D μ H ((ev ρ S).toS ρ fun xs S1 => if lenOk xs.length && (!hasF c || decide (xs.length = 1) && xs.all (fldOk c)) then .exc ⟨c, xs.headD .none⟩ ρ S1 else .stuck) := hp
  cases he : ev ρ S with
  | ok ds S1 =>
    rw [he] at hp
    intro vs H1 μ1 e1 w1 r1
    replace hp : PostS (cfx X fa ca) W D μ H (if lenOk ds.length && (!hasF c || decide (ds.length = 1) && ds.all (fldOk c)) then .exc ⟨c, ds.headD .none⟩ ρ S1 else .stuck) := hp
    split at hp
    · rename_i hl
      have hl := (Bool.and_eq_true_iff.mp hl).1
      refine ⟨by rw [r1.length]; exact lenOk_le hl, hp _ _ μ1 σ H1 e1 (sw.ext e1 w1) ⟨⟨ac, hac, rfl⟩, ?_⟩⟩
      rw [hf]
    · exact hp.elim
  | exc c' S1 =>
    rw [he] at hp
    exact fun cls dx H' μ' e w x => hp cls dx μ' σ H' e (sw.ext e w) x
  | stuck => rw [he] at hp; exact hp

/-! ### try .. except -/
theorem rd_try {b h : EvS} {cs : List Nat} {cv : Value} (hk : ∀ c a, ca c = some a → PySem.W.exmOne X.K (.ref a) cv = some (cs.contains c)) {D : Ends} {σ : St} {H : Hp} (q : rdS (cfx X fa ca) W (sTry b cs h) D σ H) :
    rdS (cfx X fa ca) (wOnly X.K cv (fun _ _ _ => rdS (cfx X fa ca) W0 h) W D) b D σ H := by
  obtain ⟨μ, ρ, S, sw, hp⟩ := q
  refine ⟨μ, ρ, S, sw, ?_⟩
  unfold sTry at hp
  cases hb : b ρ S with
  | exc c ρ1 S1 =>
    rw [hb] at hp
    dsimp only at hp
    intro cls dx μ' σ' H' e sw' x
    obtain ⟨⟨ac, x1, x2⟩, x3⟩ := id x
    refine ⟨cs.contains c.cls, by rw [x2]; exact hk c.cls ac x1, fun hy a ha => ?_, fun hno => ?_⟩
    · rw [if_pos hy] at hp
      refine ⟨μ', ρ1, S1, sw', ?_⟩
      cases hh : h ρ1 S1 with
      | exc c2 ρ2 S2 => rw [hh] at hp; exact hp.elim
      | nx ρ2 S2 => rw [hh] at hp; exact PostS.ext e hp
      | rt d S2 => rw [hh] at hp; exact PostS.ext e hp
      | bk ρ2 S2 => rw [hh] at hp; exact PostS.ext e hp
      | ct ρ2 S2 => rw [hh] at hp; exact PostS.ext e hp
      | stuck => rw [hh] at hp; exact hp.elim
    · rw [if_neg (by rw [hno]; exact Bool.false_ne_true)] at hp
      exact hp cls dx μ' σ' H' e sw' x
  | nx ρ1 S1 => rw [hb] at hp; exact hp
  | rt d S1 => rw [hb] at hp; exact hp
  | bk ρ1 S1 => rw [hb] at hp; exact hp
  | ct ρ1 S1 => rw [hb] at hp; exact hp
  | stuck => rw [hb] at hp; exact hp
theorem ok_try {x : Str} {cv : Value} {b h : EvS} {cs : List Nat} {body suite : List Stmt} {b₀ : Stmt} {np pos pos' : Pos} (hs : X.stack = X.env :: X.outer) (hf : X.env.frame = some X.env.locals) (hc : Names X x cv) (tk : Takes X W) (hk : ∀ c a, ca c = some a → PySem.W.exmOne X.K (.ref a) cv = some (cs.contains c))
    (hb : ∀ (W' : WX) (pn : List (Addr × Obj)) (xe : Value → Shared → Prop), Takes (X.tr pn xe) W' → PassesOwn (model X.prog X.w) X.A X.env xe → PSs (X.tr pn xe) body (rdS (cfx X fa ca) W' b))
    (hsu : ∀ (a : Addr) (pn : List (Addr × Obj)), PSs (X.suite a pn) (b₀ :: suite) (rdS (cfx X fa ca) W0 h)) :
    PS X (.Try body [.ExceptHandler (some (.Name x np)) none (b₀ :: suite) pos'] [] [] pos) (rdS (cfx X fa ca) W (sTry b cs h)) :=
  PS.mono (ps_try_only hs hf hc tk hb (ts := fun _ _ _ => rdS (cfx X fa ca) W0 h) fun a oe cls d pn _ _ => hsu a _) fun D σ H q => rd_try hk q
end
end Mk

set_option Elab.async false
set_option linter.all false
set_option maxRecDepth 100000
set_option maxHeartbeats 1000000
/-! MkS13: comprehensions of two clauses. -/
namespace Mk
open PySem PySem.Spec PyProof.Rows L2
section
variable {X : Cx} {fa : Fa} {ca : Nat → Option Addr} {W : WX}
theorem extH_app {K : PySem.W.Frag} {μ : List Addr} {S : Store} {H : Hp} {D : Addr} {vs xs : List V} (h : H D = some (.lst vs)) : ExtH (fa.and D) μ H μ (upd H D (.lst xs)) := by
  refine ⟨⟨[], by simp, fun _ z => nomatch z⟩, fun b o q n hh => ?_, fun b o q => ?_⟩
  · have hb : b ≠ D := fun z => by
      subst z
      rw [h] at q
      cases q
      exact hh rfl (.inr rfl)
    rw [upd_ne hb]; exact q
  · by_cases hb : b = D
    · subst hb
      rw [h] at q
      cases q
      exact ⟨_, upd_same, ⟨rfl, fun z => nomatch z⟩⟩
    · exact ⟨o, by rw [upd_ne hb]; exact q, .rf⟩
/-- the inner loop's state -/
structure Mid2 (X : Cx) (fa : Fa) (D : Addr) (μ1 : List Addr) (H1 : Hp) (ρ0 : Env) (σ0 : St) (ρ : Env) (σ : St) (μ4 : List Addr) (H4 : Hp) (μ : List Addr) (S : Store) (H : Hp) (acc : List PyData) (vs : List V) : Prop where
  out : Mid X fa D μ1 H1 ρ0 σ0 μ S H acc vs
  inn : Mid X fa D μ1 H1 ρ σ μ S H acc vs
  ext : ExtH (fa.and D) μ4 H4 μ H
theorem Mid2.next {D : Addr} {μ1 : List Addr} {H1 : Hp} {ρ0 : Env} {σ0 : St} {ρ ρ' : Env} {σ σ' : St} {μ4 : List Addr} {H4 : Hp} {μ μ' : List Addr} {S S' : Store} {H H' : Hp} {acc : List PyData} {vs : List V} (m : Mid2 X fa D μ1 H1 ρ0 σ0 ρ σ μ4 H4 μ S H acc vs) (hD : H1 D = none) (e : Ext (fa.and D) μ H μ' H') (w : Wf X.K (fa.and D) μ' S' H') (sw : SW X.K (fa.and D) μ' ρ' S' σ' H') : Mid2 X fa D μ1 H1 ρ0 σ0 ρ' σ' μ4 H4 μ' S' H' acc vs :=
  ⟨m.out.next hD e (m.out.sw.ext (fa := fa.and D) e w), m.inn.next hD e sw, m.ext.trans (Ext.toH e)⟩
theorem Mid2.app {D : Addr} {μ1 : List Addr} {H1 : Hp} {ρ0 : Env} {σ0 : St} {ρ : Env} {σ : St} {μ4 : List Addr} {H4 : Hp} {μ : List Addr} {S : Store} {H : Hp} {acc : List PyData} {vs : List V} {d : PyData} {v : V} (m : Mid2 X fa D μ1 H1 ρ0 σ0 ρ σ μ4 H4 μ S H acc vs) (r : RelD X.K (fa.and D) μ H d v) : Mid2 X fa D μ1 H1 ρ0 σ0 ρ σ μ4 H4 μ S (upd H D (.lst (vs ++ [v]))) (acc ++ [d]) (vs ++ [v]) :=
  ⟨m.out.app r, m.inn.app r, m.ext.trans (extH_app (K := X.K) (S := S) m.out.at_)⟩
theorem lc2_law {own vs0 vs1 : List Nat} {evI evJ : EvI} {p q : Bnd} {c d : EvB} {ev : EvE} (hv : ∀ i ∈ vs0, i ∈ own) (hv1 : ∀ i ∈ vs1, i ∈ own) (σ : St) (H : Hp) (Q : VK)
    (h : rdF (cfx X fa ca) W (eComp own (gCons vs0 p evI c (gCons vs1 q evJ d gNil)) ev) σ H Q) :
    tLc2 (rdI (cfx X fa ca) W evI) (fun v σ H Q => ∃ hid, rdG ((cfx X fa ca).hide hid) vs0 p v σ H Q) (fun σ H Q => ∃ hid, rdB ((cfx X fa ca).hide hid) W0 c σ H Q)
      (fun σ H R => ∃ hid, rdI ((cfx X fa ca).hide hid) W0 evJ σ H R) (fun v σ H Q => ∃ hid, rdG ((cfx X fa ca).hide hid) vs1 q v σ H Q) (fun σ H Q => ∃ hid, rdB ((cfx X fa ca).hide hid) W0 d σ H Q)
      (fun σ H Q => ∃ hid, rdE ((cfx X fa ca).hide hid) W0 ev σ H Q) own vs1 σ H Q := by
  obtain ⟨μ, ρ, S, hw, hp⟩ := h
  refine ⟨μ, wipeE ρ own, S, hw.less own, ?_⟩
  generalize hg : gCons vs1 q evJ d gNil ev = g
  replace hp : PostF (cfx X fa ca) W σ μ H Q (((evI (wipeE ρ own) S).bind fun i S1 => noX (loopC i p c g (wipeE (wipeE ρ own) vs0) (i.len S1) 0 S1 [])).bind fun xs S1 => .ok (.list xs) S1) := by rw [← hg]; exact hp
  cases e : evI (wipeE ρ own) S with
  | exc c S1 => rw [e] at hp; exact hp
  | stuck => rw [e] at hp; exact hp.elim
  | ok i S1 =>
    rw [e] at hp
    intro J H1 μ1 e1 w1 io D hD
    have fin : Fin (cfx X fa ca) D μ1 H1 Q (loopC i p c g (wipeE (wipeE ρ own) vs0) (i.len S1) 0 S1 []) := fin_noX (PostF.ext e1 hp)
    have sw1 : SW X.K fa μ1 (wipeE (wipeE ρ own) vs0) S1 (wipe σ own) H1 := ((hw.ext e1 w1).wipe own).less vs0
    have hn : ¬ fa.hid D := w1.notHid hD
    have hk : HidOk fa (fun b => fa.hid b ∨ b = D) H1 := fun b hb => by
      rcases hb with h | h
      · exact .inl h
      · exact .inr (by rw [h]; exact hD)
    generalize hρ0 : wipeE (wipeE ρ own) vs0 = ρ0 at fin sw1
    refine ⟨fun n m H => ∃ μ S acc vs, Mid X fa D μ1 H1 ρ0 (wipe σ own) μ S H acc vs ∧ Fin (cfx X fa ca) D μ1 H1 Q (loopC i p c g ρ0 m n S acc), ⟨_, μ1, S1, [], [], .start sw1 hD, fin⟩, ?_⟩
    rintro n m H2 ⟨μ2, S2, acc, vs, md, fn⟩
    cases ha : i.at S2 n with
    | none =>
      refine .inl ⟨io.stop _ hk n μ2 S2 H2 md.ext.toD md.sw.wf ha, ?_⟩
      cases m with
      | zero => unfold loopC at fn; rw [ha] at fn; exact md.out hn fn
      | succ m => unfold loopC at fn; rw [ha] at fn; exact md.out hn fn
    | some x0 =>
      obtain ⟨g1, g2⟩ := io.go _ hk n μ2 S2 H2 x0 md.ext.toD md.sw.wf ha
      refine .inr ⟨g1, ?_⟩
      cases m with
      | zero => unfold loopC at fn; rw [ha] at fn; exact fn.elim
      | succ m =>
        unfold loopC at fn
        rw [ha] at fn
        dsimp only at fn
        refine ⟨fun H' => ∃ μ S acc vs, Mid X fa D μ1 H1 ρ0 (wipe σ own) μ S H' acc vs ∧ Fin (cfx X fa ca) D μ1 H1 Q (loopC i p c g ρ0 m (n + 1) S acc), fun H' h => ⟨m, Nat.lt_succ_self m, h⟩, fun x H3 hy => ?_⟩
        obtain ⟨e3, w3, r3⟩ := g2 x H3 hy
        have md3 := md.next hD e3 (md.sw.ext (fa := fa.and D) e3 w3)
        cases hp1 : p S2 x0 ρ0 with
        | none => rw [hp1] at fn; exact fn.elim
        | some ρ1 =>
          rw [hp1] at fn
          dsimp only at fn
          refine ⟨fun b => fa.hid b ∨ b = D, μ2, _, S2, x0, ρ1, md3.sw, r3, hp1, fun σ2 sw2 ho => ⟨wipe_get ho hv |>.trans ?_, ?_⟩⟩
          · exact wipe_get (σ := σ) (σ' := wipe σ own) (vs := own) ⟨wipe_length σ own, fun j hj => L2.wipe_out hj⟩ (fun _ h => h)
          · refine ⟨fun b => fa.hid b ∨ b = D, μ2, ρ1, S2, sw2, fin_bind (C := cfx X fa ca) (D := D) (μ1 := μ1) (H1 := H1) (Q := Q) (Fin (cfx X fa ca) D μ1 H1 Q) fin_exc (fun z => z) fn fun t S4 k H4 μ4 e4 w4 rk fn4 => ?_⟩
            subst rk
            have md4 := md3.next hD e4 (md3.sw.ext (fa := fa.and D) e4 w4)
            have sw4 := sw2.ext (fa := fa.and D) e4 w4
            cases k with
            | false => exact ⟨μ4, S4, acc, vs, md4, fn4⟩
            | true =>
              replace fn4 : Fin (cfx X fa ca) D μ1 H1 Q ((evJ ρ1 S4).bind fun i2 S5 => (loopC i2 q d (gNil ev) (wipeE ρ1 vs1) (i2.len S5) 0 S5 acc).bind fun acc' S6 => loopC i p c g ρ0 m (n + 1) S6 acc') := by
                have : ((g ρ1 S4 acc).bind fun acc' S2 => loopC i p c g ρ0 m (n + 1) S2 acc') = ((evJ ρ1 S4).bind fun i2 S5 => (noX (loopC i2 q d (gNil ev) (wipeE ρ1 vs1) (i2.len S5) 0 S5 acc)).bind fun acc' S6 => loopC i p c g ρ0 m (n + 1) S6 acc') := by
                  rw [← hg]
                  unfold gCons
                  cases evJ ρ1 S4 <;> rfl
                rw [this] at fn4
                exact fin_noXB fn4
              refine ⟨fun b => fa.hid b ∨ b = D, μ4, ρ1, S4, sw4, fin_bind (C := cfx X fa ca) (D := D) (μ1 := μ1) (H1 := H1) (Q := Q) (Fin (cfx X fa ca) D μ1 H1 Q) fin_exc (fun z => z) fn4 fun i2 S5 J1 H5 μ5 e5 w5 io2 fn5 => ?_⟩
              have md5 := md4.next hD e5 (md4.sw.ext (fa := fa.and D) e5 w5)
              have sw5 := sw4.ext (fa := fa.and D) e5 w5
              have hk2 : HidOk (fa.and D) (fun b => fa.hid b ∨ b = D) H5 := fun b hb => .inl hb
              have swI : SW X.K (fa.and D) μ5 (wipeE ρ1 vs1) S5 (wipe σ2 vs1) H5 := sw5.wipe vs1
              have mdI : Mid X fa D μ1 H1 (wipeE ρ1 vs1) (wipe σ2 vs1) μ5 S5 H5 acc vs := ⟨swI, md5.rel, md5.at_, md5.ext⟩
              obtain ⟨Kc, hK⟩ : ∃ Kc : List PyData → Store → R (List PyData), Kc = fun acc' S6 => loopC i p c g ρ0 m (n + 1) S6 acc' := ⟨_, rfl⟩
              rw [← hK] at fn5
              generalize hρ2 : wipeE ρ1 vs1 = ρ2 at swI mdI fn5
              refine ⟨fun j k H => ∃ μ S acc vs, Mid2 X fa D μ1 H1 ρ0 (wipe σ own) ρ2 (wipe σ2 vs1) μ5 H5 μ S H acc vs ∧ Fin (cfx X fa ca) D μ1 H1 Q ((loopC i2 q d (gNil ev) ρ2 k j S acc).bind Kc), ⟨_, μ5, S5, acc, vs, ⟨md5, mdI, Ext.toH (fa := fa) .refl⟩, fn5⟩, ?_⟩
              rintro j k H6 ⟨μ6, S6, acc6, vs6, md6, fn6⟩
              cases ha2 : i2.at S6 j with
              | none =>
                refine .inl ⟨io2.stop _ hk2 j μ6 S6 H6 md6.ext md6.inn.sw.wf ha2, μ6, S6, acc6, vs6, md6.out, ?_⟩
                cases k with
                | zero =>
                  unfold loopC at fn6
                  rw [ha2] at fn6
                  have fn7 : Fin (cfx X fa ca) D μ1 H1 Q (Kc acc6 S6) := fn6
                  rw [hK] at fn7; exact fn7
                | succ k =>
                  unfold loopC at fn6
                  rw [ha2] at fn6
                  have fn7 : Fin (cfx X fa ca) D μ1 H1 Q (Kc acc6 S6) := fn6
                  rw [hK] at fn7; exact fn7
              | some y0 =>
                obtain ⟨k1, k2⟩ := io2.go _ hk2 j μ6 S6 H6 y0 md6.ext md6.inn.sw.wf ha2
                refine .inr ⟨k1, ?_⟩
                cases k with
                | zero => unfold loopC at fn6; rw [ha2] at fn6; exact fn6.elim
                | succ k =>
                  unfold loopC at fn6
                  rw [ha2] at fn6
                  dsimp only at fn6
                  refine ⟨fun H => ∃ μ S acc vs, Mid2 X fa D μ1 H1 ρ0 (wipe σ own) ρ2 (wipe σ2 vs1) μ5 H5 μ S H acc vs ∧ Fin (cfx X fa ca) D μ1 H1 Q ((loopC i2 q d (gNil ev) ρ2 k (j + 1) S acc).bind Kc), fun H' h => ⟨k, Nat.lt_succ_self k, h⟩, fun y H7 hy7 => ?_⟩
                  obtain ⟨e7, w7, r7⟩ := k2 y H7 hy7
                  have md7 := md6.next hD e7 w7 (md6.inn.sw.ext (fa := fa.and D) e7 w7)
                  cases hq1 : q S6 y0 ρ2 with
                  | none => rw [hq1] at fn6; exact fn6.elim
                  | some ρ3 =>
                    rw [hq1] at fn6
                    dsimp only at fn6
                    refine ⟨fun b => fa.hid b ∨ b = D, μ6, _, S6, y0, ρ3, md7.inn.sw, r7, hq1, fun σ3 sw3 ho3 => ⟨wipe_get ho3 (fun _ h => h) |>.trans ?_, ?_⟩⟩
                    · exact wipe_get (σ := σ2) (σ' := wipe σ2 vs1) (vs := vs1) ⟨wipe_length σ2 vs1, fun j hj => L2.wipe_out hj⟩ (fun _ h => h)
                    · have eq6 : (((d ρ3 S6).bind fun t S1 => if t = true then (gNil ev ρ3 S1 acc6).bind fun acc' S2 => loopC i2 q d (gNil ev) ρ2 k (j + 1) S2 acc' else loopC i2 q d (gNil ev) ρ2 k (j + 1) S1 acc6).bind Kc) = (d ρ3 S6).bind fun t S1 => (if t = true then (gNil ev ρ3 S1 acc6).bind fun acc' S2 => loopC i2 q d (gNil ev) ρ2 k (j + 1) S2 acc' else loopC i2 q d (gNil ev) ρ2 k (j + 1) S1 acc6).bind Kc := by
                        cases d ρ3 S6 <;> rfl
                      rw [eq6] at fn6
                      refine ⟨fun b => fa.hid b ∨ b = D, μ6, ρ3, S6, sw3, fin_bind (C := cfx X fa ca) (D := D) (μ1 := μ1) (H1 := H1) (Q := Q) (Fin (cfx X fa ca) D μ1 H1 Q) fin_exc (fun z => z) fn6 fun t8 S8 k8 H8 μ8 e8 w8 rk8 fn8 => ?_⟩
                      subst rk8
                      have md8 := md7.next hD e8 w8 (md7.inn.sw.ext (fa := fa.and D) e8 w8)
                      cases k8 with
                      | false => exact ⟨μ8, S8, acc6, vs6, md8, fn8⟩
                      | true =>
                        refine ⟨fun b => fa.hid b ∨ b = D, μ8, ρ3, S8, sw3.ext (fa := fa.and D) e8 w8, ?_⟩
                        replace fn8 : Fin (cfx X fa ca) D μ1 H1 Q ((ev ρ3 S8).bind fun z S9 => (guard' (lenOk (acc6.length + 1)) (.ok (acc6 ++ [z]) S9)).bind fun acc' S2 => (loopC i2 q d (gNil ev) ρ2 k (j + 1) S2 acc').bind Kc) := by
                          have : (((gNil ev ρ3 S8 acc6).bind fun acc' S2 => loopC i2 q d (gNil ev) ρ2 k (j + 1) S2 acc').bind Kc) = ((ev ρ3 S8).bind fun z S9 => (guard' (lenOk (acc6.length + 1)) (.ok (acc6 ++ [z]) S9)).bind fun acc' S2 => (loopC i2 q d (gNil ev) ρ2 k (j + 1) S2 acc').bind Kc) := by
                            unfold gNil
                            cases ev ρ3 S8 with
                            | ok z S9 => cases h9 : lenOk (acc6.length + 1) <;> simp [R.bind, guard', h9]
                            | exc => rfl
                            | stuck => rfl
                          rw [← this]; exact fn8
                        refine fin_bind (C := cfx X fa ca) (D := D) (μ1 := μ1) (H1 := H1) (Q := Q) (Fin (cfx X fa ca) D μ1 H1 Q) fin_exc (fun z => z) fn8 fun z S9 v H9 μ9 e9 w9 r9 fn9 => ?_
                        have md9 := md8.next hD e9 w9 (md8.inn.sw.ext (fa := fa.and D) e9 w9)
                        cases hl : lenOk (acc6.length + 1) with
                        | false => rw [hl] at fn9; exact fn9.elim
                        | true =>
                          rw [hl] at fn9
                          have hlen := lenOk_le hl
                          exact ⟨vs6, md9.out.at_, by rw [md9.out.rel.length]; omega, μ9, S9, _, _, md9.app r9, fn9⟩
section
variable {elt tg iter tg1 iter1 : Expr} {ifs ifs1 : List Expr} {scope : Scope} {own : List (Str × Nat)} {pos : Pos} {vs0 vs1 : List Nat} {evI evJ : EvI} {p q : Bnd} {c d : EvB} {ev : EvE}
theorem ok_lc2 (hc : X.calm = true) (hN : X.N.Nodup) (hi : PI X tg iter (rdI (cfx X fa ca) W evI)) (ok : BlkOk X.N X.env.scope scope own) (hv : ∀ i ∈ vs0, i ∈ own.map (·.2)) (hv1 : ∀ i ∈ vs1, i ∈ own.map (·.2))
    (hg : ∀ hid s H C cl fp, PG (blk X scope s H C cl fp) tg (rdG ((cfx X fa ca).hide hid) vs0 p)) (ht : ∀ hid s H C cl fp, PTs (blk X scope s H C cl fp) ifs (rdB ((cfx X fa ca).hide hid) W0 c))
    (hi1 : ∀ hid s H C cl fp, PI (blk X scope s H C cl fp) tg1 iter1 (rdI ((cfx X fa ca).hide hid) W0 evJ)) (hg1 : ∀ hid s H C cl fp, PG (blk X scope s H C cl fp) tg1 (rdG ((cfx X fa ca).hide hid) vs1 q)) (ht1 : ∀ hid s H C cl fp, PTs (blk X scope s H C cl fp) ifs1 (rdB ((cfx X fa ca).hide hid) W0 d))
    (he : ∀ hid s H C cl fp, PE (blk X scope s H C cl fp) elt (rdE ((cfx X fa ca).hide hid) W0 ev)) (hs : ∀ x, foldedSetIterable iter X.env x = pure x) (hs1 : ∀ env x, foldedSetIterable iter1 env x = pure x) :
    PE X (.ListComp elt [⟨tg, iter, ifs, 0⟩, ⟨tg1, iter1, ifs1, 0⟩] scope pos) (rdF (cfx X fa ca) W (eComp (own.map (·.2)) (gCons vs0 p evI c (gCons vs1 q evJ d gNil)) ev)) :=
  PE.mono (pe_lc2 hc hN hi ok hv1 (fun s H C cl fp => PG.ex fun hid => hg hid s H C cl fp) (fun s H C cl fp => PTs.ex fun hid => ht hid s H C cl fp) (fun s H C cl fp => PI.ex fun hid => hi1 hid s H C cl fp) (fun s H C cl fp => PG.ex fun hid => hg1 hid s H C cl fp) (fun s H C cl fp => PTs.ex fun hid => ht1 hid s H C cl fp) (fun s H C cl fp => PE.ex fun hid => he hid s H C cl fp) hs hs1)
    fun σ H Q h => lc2_law hv hv1 σ H Q h
theorem ok_setLc2 {i : Nat} {y : Str} {py spos : Pos} (hc : X.calm = true) (hN : X.N.Nodup) (hy : X.N[i]? = some y) (hyl : X.env.scope.names.lookup y = some .local)
    (hsw : swapsWith (.ListComp elt [⟨tg, iter, ifs, 0⟩, ⟨tg1, iter1, ifs1, 0⟩] scope pos) (some (.Name y py)) spos.line X.env = pure true) (hi : PI X tg iter (rdI (cfx X fa ca) W evI)) (ok : BlkOk X.N X.env.scope scope own) (hv : ∀ i ∈ vs0, i ∈ own.map (·.2)) (hv1 : ∀ i ∈ vs1, i ∈ own.map (·.2))
    (hg : ∀ hid s H C cl fp, PG (blk X scope s H C cl fp) tg (rdG ((cfx X fa ca).hide hid) vs0 p)) (ht : ∀ hid s H C cl fp, PTs (blk X scope s H C cl fp) ifs (rdB ((cfx X fa ca).hide hid) W0 c))
    (hi1 : ∀ hid s H C cl fp, PI (blk X scope s H C cl fp) tg1 iter1 (rdI ((cfx X fa ca).hide hid) W0 evJ)) (hg1 : ∀ hid s H C cl fp, PG (blk X scope s H C cl fp) tg1 (rdG ((cfx X fa ca).hide hid) vs1 q)) (ht1 : ∀ hid s H C cl fp, PTs (blk X scope s H C cl fp) ifs1 (rdB ((cfx X fa ca).hide hid) W0 d))
    (he : ∀ hid s H C cl fp, PE (blk X scope s H C cl fp) elt (rdE ((cfx X fa ca).hide hid) W0 ev)) (hs : ∀ x, foldedSetIterable iter X.env x = pure x) (hs1 : ∀ env x, foldedSetIterable iter1 env x = pure x) :
    PS X (.Assign [.Name y py] (.ListComp elt [⟨tg, iter, ifs, 0⟩, ⟨tg1, iter1, ifs1, 0⟩] scope pos) spos) (tAsg (rdF (cfx X fa ca) W (eComp (own.map (·.2)) (gCons vs0 p evI c (gCons vs1 q evJ d gNil)) ev)) (gName i)) :=
  PS.mono (ps_setLc2 hc hN hy hyl hsw hi ok hv1 (fun s H C cl fp => PG.ex fun hid => hg hid s H C cl fp) (fun s H C cl fp => PTs.ex fun hid => ht hid s H C cl fp) (fun s H C cl fp => PI.ex fun hid => hi1 hid s H C cl fp) (fun s H C cl fp => PG.ex fun hid => hg1 hid s H C cl fp) (fun s H C cl fp => PTs.ex fun hid => ht1 hid s H C cl fp) (fun s H C cl fp => PE.ex fun hid => he hid s H C cl fp) hs hs1)
    fun D σ H h => lc2_law hv hv1 σ H _ h
end
end
end Mk

set_option Elab.async false
set_option linter.all false
set_option maxRecDepth 100000
set_option maxHeartbeats 1000000
/-! MkS14: sets of whole numbers out of lists; repr. -/
namespace Mk
open PySem PySem.Spec PyProof.Rows L2
section
variable {P : Program} {w : World} {A : Around} {E : Value → Shared → Prop} {s : Shared}
abbrev set0 (w : World) : Obj := { cls := .type "set", dict := none, data := .set #[] 0 (.fresh 0 0 (!w.params.followText "set-order")) }
set_option maxHeartbeats 3200000 in
theorem set_of_list {l : Addr} {items : Array Value} (ns : List Int) {Q : Value → Shared → Prop} (noH : A.handled = none)
    (hl : s.heap.IsList l items) (isI : IntsAre items.toList ns) (room : ns.length + 1 < scanBound)
    (h : ∀ (h' : Heap) (tk c : Nat), SetR w h' s.heap.objs.size (fun j => decide (j ∈ ns)) c → c ≤ ns.length →
      (∀ b o, s.heap.get? b = some o → h'.get? b = some o) → Q (.ref s.heap.objs.size) { s with heap := h', toks := tk }) :
    wpAny (model P w) A (call (.type "set") [.ref l]) Q E s := by
  have size_eq : items.size = ns.length := by
    have := IntsAre.length isI
    rwa [Array.length_toList] at this
  obtain ⟨c, tl, hmro⟩ := F.called_set.mro
  have made := F.called_set.made
  have subs := F.called_set.sub
  refine wpAny_call (codeAny_of_tree ?_)
  show wpAny _ _ (callAny (.type "set") _) _ _ _
  have quiet := Code.quiet_builtin (id := "type.__call__") ⟨[.type "set", .ref l], []⟩ (by decide +kernel)
  refine wpAny_pure ⟨quiet, codeAny_builtin F.entry_type_call ?_⟩
  rw [Around.under_plain (weight_type_call_type "set" [.ref l] []) rfl]
  have k1 := F.called_set.notType
  have k2 := F.called_set.canCreate
  have k3 := F.typeCall_set_1 (.ref l)
  repeat (any_goals (first | assumption | wp_step))
  refine codeAny_mono (code_set_led1 (.ref l) (E := E)
    (Q₁ := fun obj s1 => obj = .ref s.heap.objs.size ∧ s1 = { s with heap := s.heap.push (set0 w) }) ⟨rfl, rfl⟩) ?_
  intro r s1 hr
  match r, hr with
  | .error e, hr => exact hr
  | .ok .next, hr => exact hr.elim
  | .ok .brk, hr => exact hr.elim
  | .ok .cont, hr => exact hr.elim
  | .ok (.ret obj), hr =>
    obtain ⟨rfl, rfl⟩ := hr
    have at0 : (s.heap.push (set0 w)).get? s.heap.objs.size = some (set0 w) := Heap.get?_push_size _ rfl
    have ty0 : Shared.TypeIs { s with heap := s.heap.push (set0 w) } (.ref s.heap.objs.size) "set" := ⟨_, at0, rfl⟩
    have i1 := F.called_set.init.lookup
    have i2 := F.called_set.init.bind (.ref s.heap.objs.size)
    repeat (any_goals (first | assumption | wp_step))
    refine codeAny_mono (codeAny_call_builtin (R := wants (fun r s2 => r = .none ∧ ∃ h' tk c, s2 = { s with heap := h', toks := tk } ∧
      SetR w h' s.heap.objs.size (fun j => decide (j ∈ ns)) c ∧ c ≤ ns.length ∧ (∀ b o, s.heap.get? b = some o → h'.get? b = some o)) E)
      F.called_set.init.plain F.entry_set_init (check_set_init_1 ty0 ?_)) ?_
    · obtain ⟨ol, hol, hcl, nl, hdl⟩ := hl
      obtain ⟨ocls, odict, odata, oslots⟩ := ol
      simp only at hcl hdl
      subst hcl
      subst hdl
      have hol2 : (s.heap.push (set0 w)).get? l = some { cls := .type "list", dict := odict, data := .seq items nl, slots := oslots } :=
        Heap.get?_push_of_some _ hol
      have z1 := F.sub_list_set
      have z2 := F.sub_list_frozenset
      have z3 : (Value.type "list" == Value.type "dict") = false := by decide
      have lst1 : (s.heap.push (set0 w)).IsList l items := ⟨_, hol2, rfl, nl, rfl⟩
      unfold Builtin.«set.__init__» noKeywords Builtin.Frozenset.updateFrom
      generalize hPI : pyIter = PI
      wp_walk
      subst hPI
      refine wpAny_pyIter_list lst1 ?_
      refine wpAny_bind (wpAny_runValue ?_)
      have l_lt : l < s.heap.objs.size := Heap.lt_size hol
      have noH3 : A.in1.in1.in1.handled = none := by simp [noH]
      have apart : l ≠ (s.heap.push (set0 w)).objs.size := by
        rw [Heap.size_push]
        exact Nat.ne_of_lt (Nat.lt_succ_of_lt l_lt)
      have notIn : s.heap.objs.size ∉ [(s.heap.push (set0 w)).objs.size, l] := by
        rw [Heap.size_push]
        simp only [List.mem_cons, List.mem_singleton, List.not_mem_nil, or_false, not_or]
        exact ⟨Nat.ne_of_lt (Nat.lt_succ_self _), Nat.ne_of_gt l_lt⟩
      have vals : ∀ (i : Nat) (v : Value), items[i]? = some v → ∃ k t, ns[i]? = some k ∧ v = .int k t := by
        intro i v hv
        have hi : i < ns.length := by
          rw [← size_eq]
          exact (Array.getElem?_eq_some_iff.mp hv).1
        obtain ⟨t, e⟩ := PyProof.Rows.IntsAre.int_at isI i v (by rw [Array.getElem?_toList]; exact hv)
        refine ⟨ns[i], t, List.getElem?_eq_getElem hi, ?_⟩
        rw [e, List.getD_eq_getElem?_getD, List.getElem?_eq_getElem hi]
        rfl
      refine set_update_ints ((Walks.list noH3 _ l apart items).toS) s.heap.objs.size notIn ns size_eq room vals
        (items.size - 0) 0 _ (by omega) (Nat.zero_le _) ⟨⟨_, Heap.get?_push_size _ rfl, rfl, rfl⟩, (lst1.push _)⟩ ?first ?last
      case first =>
        refine ⟨0, Nat.le_refl 0, setR_new_at ?_⟩
        exact Heap.get?_push_of_some _ at0
      case last =>
        intro s2 c2 mv hc2 hS2
        obtain ⟨h2, g2, d2, tk2, os2⟩ := s2
        obtain rfl : g2 = s.gens := mv.gens
        obtain rfl : d2 = s.drawn := mv.drawn
        obtain rfl : os2 = s.os := mv.os
        show wpAny _ _ _ _ _ _
        refine wpAny_pure ?_
        show wpAny _ _ (ret Value.none) _ _ _
        rw [size_eq] at hc2
        refine wpAny_pure ⟨rfl, h2, tk2, c2, rfl, hS2, hc2, ?_⟩
        intro b o e
        have b0 : b < s.heap.objs.size := Heap.lt_size e
        have b1 : b ≠ (s.heap.push (set0 w)).objs.size := by
          rw [Heap.size_push]
          exact Nat.ne_of_lt (Nat.lt_succ_of_lt b0)
        refine mv.heap b o ?_ (Heap.get?_push_of_some _ (Heap.get?_push_of_some _ e))
        simp only [List.mem_cons, List.mem_singleton, List.not_mem_nil, or_false, not_or]
        exact ⟨Nat.ne_of_lt b0, b1⟩
    · intro r2 s2 hr2
      match r2, hr2 with
      | .error e, hr2 => exact hr2
      | .ok .next, hr2 => exact hr2.elim
      | .ok .brk, hr2 => exact hr2.elim
      | .ok .cont, hr2 => exact hr2.elim
      | .ok (.ret r), hr2 =>
        obtain ⟨rfl, h', tk, c', rfl, hS', hc', hk'⟩ := hr2
        repeat (any_goals (first | assumption | wp_step))
        exact h _ _ _ hS' hc' hk'
end
/-! ### what a set of whole numbers holds -/
theorem any_int (i : Int) (l : List Int) : ((l.map PyData.int).any fun z => PyData.eqv z (.int i)) = decide (i ∈ l) := by
  induction l with
  | nil => simp
  | cons a r ih =>
    rw [List.map_cons, List.any_cons, ih]
    simp only [PyData.eqv, List.mem_cons, Bool.decide_or]
    congr 1
    by_cases h : a = i
    · subst h; simp
    · have h2 : ¬ i = a := fun z => h z.symm
      simp [h, h2]
/-- each one once -/
theorem nub_ints (ns : List Int) : ∃ l : List Int, nubD (ns.map .int) = l.map .int ∧ l.Nodup ∧ ∀ k, k ∈ l ↔ k ∈ ns := by
  have key : ∀ (ns acc : List Int), acc.Nodup → ∃ l : List Int, (ns.map PyData.int).foldl (fun acc d => if acc.any (fun z => PyData.eqv z d) then acc else acc ++ [d]) (acc.map .int) = l.map .int ∧ l.Nodup ∧ ∀ k, k ∈ l ↔ k ∈ acc ∨ k ∈ ns := by
    intro ns
    induction ns with
    | nil => exact fun acc h => ⟨acc, rfl, h, fun k => by simp⟩
    | cons b r ih =>
      intro acc h
      rw [List.map_cons, List.foldl_cons, any_int]
      by_cases hb : b ∈ acc
      · rw [if_pos (by simpa using hb)]
        obtain ⟨l, h1, h2, h3⟩ := ih acc h
        refine ⟨l, h1, h2, fun k => ?_⟩
        rw [h3, List.mem_cons]
        constructor
        · rintro (z | z) <;> simp [z]
        · rintro (z | rfl | z)
          · exact .inl z
          · exact .inl hb
          · exact .inr z
      · rw [if_neg (by simpa using hb)]
        obtain ⟨l, h1, h2, h3⟩ := ih (acc ++ [b]) (List.nodup_append.mpr ⟨h, by simp, fun x hx y hy e => by
          rw [List.mem_singleton] at hy
          subst hy; subst e
          exact hb hx⟩)
        refine ⟨l, by rw [← h1, List.map_append]; rfl, h2, fun k => ?_⟩
        rw [h3, List.mem_append, List.mem_singleton, List.mem_cons, or_assoc]
  obtain ⟨l, h1, h2, h3⟩ := key ns [] List.nodup_nil
  exact ⟨l, h1, h2, fun k => by rw [h3]; simp⟩
theorem same_len {l m : List Int} (hl : l.Nodup) (hm : m.Nodup) (h : ∀ k, k ∈ l ↔ k ∈ m) : l.length = m.length :=
  ((List.perm_ext_iff_of_nodup hl hm).mpr h).length_eq
theorem sort_nub {ns out : List Int} (h : out.Pairwise (· < ·)) (hm : ∀ k, k ∈ out ↔ k ∈ ns) : sortD (nubD (ns.map .int)) = out.map .int := by
  obtain ⟨l, h1, h2, h3⟩ := nub_ints ns
  rw [h1, sort_int]
  congr 1
  have s1 : (l.mergeSort fun a b => decide (a ≤ b)).Pairwise fun a b => a ≤ b := by
    have := List.pairwise_mergeSort (le := fun a b : Int => decide (a ≤ b)) (fun a b c x y => by simp at *; omega) (fun a b => by simp; omega) l
    exact this.imp fun h => by simpa using h
  have nd : out.Nodup := h.imp fun h e => by omega
  have pm : (l.mergeSort fun a b => decide (a ≤ b)).Perm out := (List.mergeSort_perm _ _).trans ((List.perm_ext_iff_of_nodup h2 nd).mpr fun k => by rw [h3, hm])
  exact List.Perm.eq_of_pairwise (fun a b _ _ x y => by omega) s1 (h.imp fun h => by omega) pm
section
variable {X : Cx} {fa : Fa} {ca : Nat → Option Addr} {W : WX}
theorem small_scan {n : Nat} (h : n ≤ 4000) : n + 1 < scanBound := by unfold scanBound; omega
theorem ints_rel {K : PySem.W.Frag} {μ : List Addr} {H : Hp} : ∀ {ns : List Int} {vs : List V}, RelDs K fa μ H (ns.map .int) vs → vs = ns.map V.int
  | [], _, .nil => rfl
  | n :: ns, _, .cons h t => by cases h; rw [ints_rel t]; rfl
theorem isI_vals : ∀ {ns : List Int} {us : List Value}, Vals (ns.map V.int) us → PyProof.Rows.IntsAre us ns
  | [], _, .nil => .nil
  | n :: ns, _, .cons r t => by
    obtain ⟨k, rfl⟩ := r
    exact .cons n k (isI_vals t)
/-- what both ask of the list -/
theorem rd_arg {b : Blt} {ea : EvE} (σ : St) (H : Hp) (Q : VK) (h : rdF (cfx X fa ca) W (eBlt b (esCons ea esNil)) σ H Q) : rdE (cfx X fa ca) W ea σ H fun x H1 => ∃ (μ1 : List Addr) (S1 : Store) (d : PyData), Wf X.K fa μ1 S1 H1 ∧ RelD X.K fa μ1 H1 d x ∧ PostF (cfx X fa ca) W σ μ1 H1 Q (ofO (bltD b S1 [d]) S1) := by
  obtain ⟨μ, ρ, S, hw, hp⟩ := h
  have e : eBlt b (esCons ea esNil) ρ S = (ea ρ S).bind fun x S1 => ofO (bltD b S1 [x]) S1 := by
    unfold eBlt esCons esNil
    cases ea ρ S <;> rfl
  rw [e] at hp
  exact ⟨μ, ρ, S, hw, PostF.bind hp fun a S1 v H1 μ1 e1 w1 r1 p1 => ⟨μ1, S1, a, w1, r1, p1⟩⟩
section
variable {a : Expr} {ea : EvE} {p p2 q pos : Pos}
theorem eqv_ints (a b : List Int) : PyData.eqvAll (a.map .int) (b.map .int) = decide (a = b) := by
  induction a generalizing b with
  | nil => cases b <;> simp [PyData.eqvAll]
  | cons x a ih =>
    cases b with
    | nil => simp [PyData.eqvAll]
    | cons y b =>
      simp only [List.map_cons, PyData.eqvAll, ih, PyData.eqv, List.cons.injEq, Bool.decide_and]
      congr 1
def tupI (k : List Int) : PyData := .tuple (k.map .int)
theorem any_tupI (i : List Int) (l : List (List Int)) : ((l.map tupI).any fun z => PyData.eqv z (tupI i)) = decide (i ∈ l) := by
  induction l with
  | nil => simp
  | cons a r ih =>
    rw [List.map_cons, List.any_cons, ih]
    have : PyData.eqv (tupI a) (tupI i) = decide (a = i) := by
      show PyData.eqv (.tuple (a.map .int)) (.tuple (i.map .int)) = _
      simp only [PyData.eqv]
      exact eqv_ints a i
    rw [this]
    simp only [List.mem_cons, Bool.decide_or]
    congr 1
    exact decide_eq_decide.mpr eq_comm
theorem nub_tupI (ns : List (List Int)) : ∃ l : List (List Int), nubD (ns.map tupI) = l.map tupI ∧ l.Nodup ∧ ∀ k, k ∈ l ↔ k ∈ ns := by
  have key : ∀ (ns acc : List (List Int)), acc.Nodup → ∃ l : List (List Int), (ns.map tupI).foldl (fun acc d => if acc.any (fun z => PyData.eqv z d) then acc else acc ++ [d]) (acc.map tupI) = l.map tupI ∧ l.Nodup ∧ ∀ k, k ∈ l ↔ k ∈ acc ∨ k ∈ ns := by
    intro ns
    induction ns with
    | nil => exact fun acc h => ⟨acc, rfl, h, fun k => by simp⟩
    | cons b r ih =>
      intro acc h
      rw [List.map_cons, List.foldl_cons, any_tupI]
      by_cases hb : b ∈ acc
      · rw [if_pos (by simpa using hb)]
        obtain ⟨l, h1, h2, h3⟩ := ih acc h
        refine ⟨l, h1, h2, fun k => ?_⟩
        rw [h3, List.mem_cons]
        constructor
        · rintro (z | z) <;> simp [z]
        · rintro (z | rfl | z)
          · exact .inl z
          · exact .inl hb
          · exact .inr z
      · rw [if_neg (by simpa using hb)]
        obtain ⟨l, h1, h2, h3⟩ := ih (acc ++ [b]) (List.nodup_append.mpr ⟨h, by simp, fun x hx y hy e => by
          rw [List.mem_singleton] at hy
          subst hy; subst e
          exact hb hx⟩)
        refine ⟨l, by rw [← h1, List.map_append]; rfl, h2, fun k => ?_⟩
        rw [h3, List.mem_append, List.mem_singleton, List.mem_cons, or_assoc]
  obtain ⟨l, h1, h2, h3⟩ := key ns [] List.nodup_nil
  exact ⟨l, h1, h2, fun k => by rw [h3]; simp⟩
theorem tups_map : ∀ {ds : List PyData} {ks : List (List Int)}, tupsOf ds = some ks → ds = ks.map tupI
  | [], ks, h => by cases h; rfl
  | d :: ds, ks, h => by
    cases d with
    | tuple xs =>
      unfold tupsOf at h
      split at h
      · rename_i k ks' h1 h2
        cases h
        rw [tups_map h2, ints_map h1]; rfl
      · cases h
    | _ => cases h
theorem tups_rel {K : PySem.W.Frag} {fa : Fa} {μ : List Addr} {H : Hp} : ∀ {ks : List (List Int)} {vs : List V}, RelDs K fa μ H (ks.map tupI) vs → ∃ ps : List (Addr × List Int), ps.map (·.2) = ks ∧ vs = ps.map (fun p => V.ref p.1) ∧ ∀ p ∈ ps, SqT K H p.1 (p.2.map V.int)
  | [], _, .nil => ⟨[], rfl, rfl, fun p h => by cases h⟩
  | k :: ks, _, .cons h t => by
    obtain ⟨ps, h1, h2, h3⟩ := tups_rel t
    cases h with
    | @tup a _ xs sq rr =>
      obtain rfl := ints_rel rr
      refine ⟨(a, k) :: ps, by rw [List.map_cons, h1], by rw [List.map_cons, h2], fun p hp => ?_⟩
      rcases List.mem_cons.mp hp with rfl | hp
      · exact sq
      · exact h3 p hp
theorem nodup_len_eq {α : Type} {l m : List α} (hl : l.Nodup) (hm : m.Nodup) (h : ∀ k, k ∈ l ↔ k ∈ m) : l.length = m.length :=
  ((List.perm_ext_iff_of_nodup hl hm).mpr h).length_eq
theorem ok_lenset (hc : X.calm = true) (hu : X.A.units + 3 < cLine) (hg : Gl X "len") (hm : X.mg "len" = none) (hg2 : Gl X "set") (hm2 : X.mg "set" = none) (na : starEach [a] X.env = (false, eval a X.env) :: starEach [] X.env)
    (ha : PE X a (rdE (cfx X fa ca) W ea)) : PE X (.Call (.Name "len" p) [.Call (.Name "set" p2) [a] [] q] [] pos) (rdF (cfx X fa ca) W (eBlt .lenset (esCons ea esNil))) := by
  refine ⟨fun pins s σ H Q I h => ?_⟩
  refine Call_ (ld_blt I hg hm boot_len ?_)
  refine PyProof.Rows.callWith_builtin1 (PyProof.Rows.args_cons ?_ rfl) rfl rfl
  refine Call_ (ld_blt I hg2 hm2 boot_set ?_)
  refine PyProof.Rows.callWith_type1 (PyProof.Rows.args_cons (thn (ha.run pins s σ H _ I (rd_arg σ H Q h)) fun v s1 ⟨x, H1, I1, r1, μ1, S1, d, w1, rd1, p1⟩ => PyProof.Rows.args_nil ?_) na) na rfl
  obtain ⟨e, he, p1⟩ := ofO_or p1
  obtain ⟨ds, e1, e2⟩ := Option.bind_eq_some_iff.mp (show (lstOf S1 d).bind lensetOf = some e from he)
  unfold lensetOf at e2
  split at e2
  rotate_left
  · split at e2
    · rename_i ks e4
      split at e2
      · rename_i hl
        have hl' := of_decide_eq_true hl
        cases e2
        obtain rfl := tups_map e4
        obtain ⟨l, vs, rfl, rr, hH⟩ := lst_ok w1 rd1 e1
        obtain ⟨ps, p1', rfl, p3⟩ := tups_rel rr
        cases r1
        obtain ⟨its, r, pl, hz⟩ := I1.list (SqL.of hH)
        have hpl : ps.length = ks.length := by rw [← p1', List.length_map]
        refine call_set_tups (P := X.prog) (w := X.w) ps (I1.ok.hd hc) pl.isList (by simpa using refs_of_vals r) (fun p hp => I1.isT (p3 p hp)) (by omega) (by have := I1.ok; omega) fun h' tk L es ep t R g k => ?_
        refine PyProof.Rows.args_nil ?_
        have I2 : Inv X pins σ H1 { s1 with heap := h', toks := tk } := I1.kept k
        obtain ⟨l2, q1, q2, q3⟩ := nub_tupI ks
        have hlen : es.size = (nubD (ks.map tupI)).length := by
          rw [SetTR.size (s := { s1 with heap := h', toks := tk }) R, q1, List.length_map, ← List.length_map (f := (·.2)) (as := L)]
          refine nodup_len_eq R.nd q2 fun z => ?_
          rw [q3, ← p1']
          constructor
          · intro h
            obtain ⟨p, hp, rfl⟩ := List.mem_map.mp h
            exact List.mem_map.mpr ⟨p, List.mem_of_mem_take (g.sub p hp), rfl⟩
          · intro h
            obtain ⟨p, hp, rfl⟩ := List.mem_map.mp h
            exact g.all p (by rw [List.take_length]; exact hp)
        have hf : L.length < 64 := R.few
        have hsz := SetTR.size (s := { s1 with heap := h', toks := tk }) R
        obtain ⟨o, ho, hex, hd⟩ := R.ob
        exact call_len_set ho hex hd (SetTR.fits (s := { s1 with heap := h', toks := tk }) R) (by omega) ⟨.int es.size, H1, I2.tok _, ⟨_, rfl⟩, by rw [hlen]; exact hereF (C := cfx X fa ca) p1 w1 (.int _)⟩
      · cases e2
    · cases e2
  rename_i ns e3
  have e4 := e2
  split at e4
  · rename_i hl
    have hl' := of_decide_eq_true hl
    cases e4
    obtain rfl := ints_map e3
    obtain ⟨l, vs, rfl, rr, hH⟩ := lst_ok w1 rd1 e1
    obtain rfl := ints_rel rr
    cases r1
    obtain ⟨its, r, pl, hz⟩ := I1.list (SqL.of hH)
    refine set_of_list (items := its.toArray) ns (I1.ok.hd hc) pl.isList (by simpa using isI_vals r) (small_scan hl') fun h' tk c hS hcn hk => ?_
    refine PyProof.Rows.args_nil ?_
    obtain ⟨o, es, ep, t, ho, hex, hd, g, nd, hmem, hb, hf, hn, hr, hll⟩ := hS
    have I2 : Inv X pins σ H1 { s1 with heap := h', toks := tk } := I1.kept hk
    obtain ⟨l2, q1, q2, q3⟩ := nub_ints ns
    have hlen : es.size = (nubD (ns.map .int)).length := by
      rw [q1, List.length_map, ← same_len nd q2 fun k => by rw [← hmem k, q3]; simp]
      simp
    have hlen2 : es.size ≤ 4000 := by omega
    exact call_len_set ho hex hd hf (by omega) ⟨.int es.size, H1, I2.tok _, ⟨_, rfl⟩, by rw [hlen]; exact hereF (C := cfx X fa ca) p1 w1 (.int _)⟩
  · cases e4
theorem tupI_alike (k k' : List Int) : PySem.W.alike (tupI k) (tupI k') = true := by
  show PySem.W.alike (.tuple (k.map .int)) (.tuple (k'.map .int)) = true
  simp only [PySem.W.alike]
  exact PySem.W.alike_ints k k'
theorem tupI_le (x y : List Int) : PySem.W.dataLe false id (tupI x) (tupI y) = decide (x ≤ y) := by
  show (!PySem.W.dataLt (.tuple (y.map .int)) (.tuple (x.map .int))) = _
  rw [PySem.W.dataLt_tuple]
  show (!PySem.W.rowLt (y.map .int) (x.map .int)) = _
  rw [PySem.W.dataLt_ints]
  by_cases h : y < x
  · have h' : ¬ x ≤ y := fun q => List.not_lt.mpr q h
    simp [h, h']
  · have h' : x ≤ y := List.not_lt.mp h
    simp [h, h']
theorem each_refs {out : List Value} {L : List (Addr × List Int)} (h : PySem.W.EachIs (fun v q => v = Value.ref q.1) out L) : out = L.map fun q => Value.ref q.1 := by
  induction h with
  | nil => rfl
  | cons h t ih => rw [h, ih]; rfl
theorem each_refs_of : ∀ (L : List (Addr × List Int)), PySem.W.EachIs (fun v (q : Addr × List Int) => v = Value.ref q.1) (L.map fun q => Value.ref q.1) L
  | [] => .nil
  | q :: L => .cons rfl (each_refs_of L)
theorem reads_ints {h : Heap} : ∀ {k : List Int} {us : List Value}, PyProof.Rows.IntsAre us k → ReadsAll h us (k.map .int) []
  | _, _, .nil => .nil
  | _, _, .cons n k t => .cons (.int _ _) (reads_ints t)
theorem each_and {α β : Type} {R S : α → β → Prop} : ∀ {l : List α} {m : List β}, PySem.W.EachIs R l m → (∀ x y, y ∈ m → R x y → S x y) → PySem.W.EachIs S l m
  | _, _, .nil, _ => .nil
  | _, _, .cons h t, k => .cons (k _ _ List.mem_cons_self h) (each_and t fun x y hy => k x y (List.mem_cons_of_mem _ hy))
section
variable {P : Program} {w : World} {A : Around} {E : Value → Shared → Prop} {s : Shared}
theorem sorted_setD {a : Addr} {L : List (Addr × List Int)} {es : Array (Int × Value)} {ep : Nat} {t : SetTable} {Q : Value → Shared → Prop} (R : SetTR P w s.heap a L es ep t) (hh : A.handled = none)
    (hne : ∀ p ∈ L, p.2 ≠ []) (hu : A.units + 65 < cLine)
    (hQ : ∀ s' p (out : Array Value) (c : Nat) (L' : List (Addr × List Int)), (∀ b o, s.heap.get? b = some o → s'.heap.get? b = some o) → s'.gens = s.gens → s'.os = s.os → s.heap.objs.size ≤ p →
      s'.heap.get? p = some (seqObj "list" out c) → out.toList = L'.map (fun q => Value.ref q.1) → L'.Perm L → L'.Pairwise (fun q r => q.2 ≤ r.2) → Q (.ref p) s') :
    wpAny (model P w) A (call (.builtin "sorted") [.ref a]) Q E s := by
  obtain ⟨o, ho, hex, hd⟩ := R.ob
  have hsz := R.size
  have hfew := R.few
  refine Calls.call_function_entry kind_sorted plain_sorted entry_sorted (args_sorted1 _) ?_
  unfold Builtin.«sorted»
  refine wpAny_bind (m := checkCount "sorted" 1 1 _) (wpAny_pure ?_)
  refine wpAny_bind (collect_set (A := A.in1) hh ⟨o, ho, hex.1, hd⟩ R.fits (by unfold scanBound; omega) R.tab.ris R.led fun s1 vs k1 hz g1 o1 pm => ?_)
  have hes : es.toList.map (·.2) = L.map fun q => Value.ref q.1 := by
    rw [R.rows]
    unfold rowsOf
    rw [List.map_map] <;> rfl
  rw [hes] at pm
  have ord : ∀ vs : List Value, (∀ v ∈ vs, ∃ q ∈ L, v = Value.ref q.1) → ∃ L1 : List (Addr × List Int), vs = L1.map (fun q => Value.ref q.1) ∧ ∀ q ∈ L1, q ∈ L := by
    intro vs
    induction vs with
    | nil => intro _; exact ⟨[], rfl, fun q hq => (by cases hq)⟩
    | cons v vs ih =>
      intro hv
      obtain ⟨q, hq, e⟩ := hv v List.mem_cons_self
      obtain ⟨L1, e1, hs⟩ := ih fun u hu => hv u (List.mem_cons_of_mem _ hu)
      refine ⟨q :: L1, by rw [List.map_cons, e, e1], fun r hr => ?_⟩
      rcases List.mem_cons.mp hr with z | z
      · rw [z]; exact hq
      · exact hs r z
  have one : ∀ q ∈ L, ∀ r ∈ L, q.1 = r.1 → q = r := fun q hq r hr e => by
    have a1 := R.tup q hq
    have a2 := R.tup r hr
    rw [e] at a1
    have e2 : q.2 = r.2 := a1.inj a2
    exact Prod.ext e e2
  have perm_of : ∀ L1 : List (Addr × List Int), (∀ q ∈ L1, q ∈ L) → (L1.map (fun q => Value.ref q.1)).Perm (L.map fun q => Value.ref q.1) → L1.Perm L := by
    intro L1 hs pm1
    have nL : L.Nodup := nodup_of_map R.nd
    have nref : (L.map fun q => Value.ref q.1).Nodup := by
      refine List.pairwise_map.mpr (List.Pairwise.imp_of_mem (fun {q r} hq hr hne e => ?_) nL)
      injection e with e
      exact hne (one q hq r hr e)
    have n1 : L1.Nodup := nodup_of_map (pm1.nodup_iff.mpr nref)
    refine (List.perm_ext_iff_of_nodup n1 nL).mpr fun q => ⟨hs q, fun hq => ?_⟩
    have hm : Value.ref q.1 ∈ L1.map (fun q => Value.ref q.1) := pm1.mem_iff.mpr (List.mem_map.mpr ⟨q, hq, rfl⟩)
    obtain ⟨r, hr, e⟩ := List.mem_map.mp hm
    injection e with e
    rw [← one r (hs r hr) q hq e]
    exact hr
  obtain ⟨L1, rfl, hs1⟩ := ord vs fun v hv => by
    obtain ⟨q, hq, e⟩ := List.mem_map.mp (pm.mem_iff.mp hv)
    exact ⟨q, hq, e.symm⟩
  have pL1 := perm_of L1 hs1 pm
  have hvl : L1.length < 64 := by rw [pL1.length_eq]; exact hfew
  refine wpAny_bind (wpAny_newList ?_ (by rw [List.length_map, sizeLine_eq]; omega))
  have hoL : (s1.heap.push (seqObj "list" (L1.map fun q => Value.ref q.1).toArray 0)).get? s1.heap.objs.size = some (seqObj "list" (L1.map fun q => Value.ref q.1).toArray 0) := Heap.get?_push_size _ rfl
  have er : PySem.W.EachIs (fun v (q : Addr × List Int) => ∃ as, Reads (s1.heap.push (seqObj "list" (L1.map fun q => Value.ref q.1).toArray 0)) v (tupI q.2) as ∧ s1.heap.objs.size ∉ as) (L1.map fun q => Value.ref q.1) L1 := by
    refine each_and (each_refs_of L1) fun v q hq e => ⟨[], ?_, by simp⟩
    subst e
    obtain ⟨b, items, e1, ⟨ob, h1, h2, n, h3⟩, hi⟩ := tupInts_of (P := P) (w := w) (R.tup q (hs1 q hq))
    cases e1
    exact Reads.tuple (Heap.get?_push_of_some _ (k1 _ _ h1)) h2 h3 (reads_ints hi)
  have hal : PySem.W.AllAlike (L1.map fun q => tupI q.2) := PySem.W.AllAlike.of fun b b' => tupI_alike _ _
  have hk : PySem.W.Sortable (L1.map fun q => tupI q.2) := .inl fun d hd => by
    obtain ⟨q, hq, rfl⟩ := List.mem_map.mp hd
    cases e : q.2 with
    | nil => exact absurd e (hne q (hs1 q hq))
    | cons x r => exact ⟨.int x, r.map .int, rfl⟩
  refine wpAny_bind (wpAny_holding (PySem.W.list_sort_data (s := { s1 with heap := s1.heap.push (seqObj "list" (L1.map fun q => Value.ref q.1).toArray 0) }) hoL (each_refs_of L1) er hal hk (by rw [sizeLine_eq]; omega) (fun b _ => ?_) fun out hl ho => ?_))
  · have : (tupI b.2).depth ≤ 1 := by
      unfold tupI
      simp only [PyData.depth, PySem.W.depth_ints]
      omega
    have h2 : A.in1.units ≤ A.units + 5 := by simp [Around.in1]
    omega
  · obtain ⟨c, hc⟩ := sortedHeap_at (vs := L1.map fun q => Value.ref q.1) (out := List.toArray out) hoL
    have pm2 : (L1.mergeSort (PySem.W.dataLe false fun q => tupI q.2)).Perm L1 := List.mergeSort_perm _ _
    refine wpAny_pure ⟨_, rfl, hQ _ s1.heap.objs.size (List.toArray out) c (L1.mergeSort (PySem.W.dataLe false fun q => tupI q.2)) (fun b u e => ?_) g1 o1 hz hc (each_refs ho) (pm2.trans pL1) ?_⟩
    · have q := k1 b u e
      have hlt := Heap.lt_size q
      show (sortedHeap (s1.heap.push (seqObj "list" (L1.map fun q => Value.ref q.1).toArray 0)) s1.heap.objs.size (L1.map fun q => Value.ref q.1) (List.toArray out)).get? b = some u
      rw [sortedHeap_old (Nat.ne_of_lt hlt) (by rw [size_push']; exact Nat.lt_succ_of_lt hlt)]
      exact Heap.get?_push_of_some _ q
    · have tl : PySem.W.TotalLe (PySem.W.dataLe false (fun q : Addr × List Int => tupI q.2)) := PySem.W.sortLe_total _ false _
      refine (PySem.W.sort_pairwise tl L1).imp fun {x y} h => ?_
      have h2 : PySem.W.dataLe false id (tupI x.2) (tupI y.2) = true := h
      rw [tupI_le] at h2
      exact of_decide_eq_true h2
end
theorem nub_tup_sort {ks : List (List Int)} {m : List (List Int)} (hm : m.Pairwise (· ≤ ·)) (hn : m.Nodup) (hh : ∀ k, k ∈ m ↔ k ∈ ks) : sortD (nubD (ks.map tupI)) = m.map tupI := by
  obtain ⟨l, h1, h2, h3⟩ := nub_tupI ks
  rw [h1, sortD_eq]
  have pm : l.Perm m := (List.perm_ext_iff_of_nodup h2 hn).mpr fun k => by rw [h3, hh]
  have s1 := PySem.W.sort_pairwise le_total (l.map tupI)
  have s2 : (m.map tupI).Pairwise fun a b => PySem.W.dataLe false id a b = true := by
    rw [List.pairwise_map]
    exact hm.imp fun {a b} h => by rw [tupI_le]; exact decide_eq_true h
  refine List.Perm.eq_of_pairwise (fun a b ha hb x y => ?_) s1 s2 ((List.mergeSort_perm _ _).trans (pm.map tupI))
  have ha' := (List.mergeSort_perm _ _).mem_iff.mp ha
  obtain ⟨p, _, rfl⟩ := List.mem_map.mp ha'
  obtain ⟨q, _, rfl⟩ := List.mem_map.mp hb
  rw [tupI_le] at x y
  rw [List.le_antisymm (of_decide_eq_true x) (of_decide_eq_true y)]
theorem ok_sortset (hc : X.calm = true) (hu : X.A.units + 65 < cLine) (hg : Gl X "sorted") (hm : X.mg "sorted" = none) (hg2 : Gl X "set") (hm2 : X.mg "set" = none) (na : starEach [a] X.env = (false, eval a X.env) :: starEach [] X.env)
    (ha : PE X a (rdE (cfx X fa ca) W ea)) : PE X (.Call (.Name "sorted" p) [.Call (.Name "set" p2) [a] [] q] [] pos) (rdF (cfx X fa ca) W (eBlt .sortset (esCons ea esNil))) := by
  refine ⟨fun pins s σ H Q I h => ?_⟩
  refine Call_ (ld_blt I hg hm boot_sorted ?_)
  refine PyProof.Rows.callWith_builtin1 (PyProof.Rows.args_cons ?_ rfl) rfl rfl
  refine Call_ (ld_blt I hg2 hm2 boot_set ?_)
  refine PyProof.Rows.callWith_type1 (PyProof.Rows.args_cons (thn (ha.run pins s σ H _ I (rd_arg σ H Q h)) fun v s1 ⟨x, H1, I1, r1, μ1, S1, d, w1, rd1, p1⟩ => PyProof.Rows.args_nil ?_) na) na rfl
  obtain ⟨e, he, p1⟩ := ofO_or p1
  obtain ⟨ds, e1, e2⟩ := Option.bind_eq_some_iff.mp (show (lstOf S1 d).bind sortsetOf = some e from he)
  unfold sortsetOf at e2
  split at e2
  rotate_left
  · split at e2
    · rename_i ks e4
      split at e2
      · rename_i hl
        rw [Bool.and_eq_true] at hl
        have hl' := of_decide_eq_true hl.1
        have hne : ∀ k ∈ ks, k ≠ [] := fun k hk => by
          have := List.all_eq_true.mp hl.2 k hk
          simpa using this
        cases e2
        obtain rfl := tups_map e4
        obtain ⟨l, vs, rfl, rr, hH⟩ := lst_ok w1 rd1 e1
        obtain ⟨ps, p1', rfl, p3⟩ := tups_rel rr
        cases r1
        obtain ⟨its, r, pl, hz⟩ := I1.list (SqL.of hH)
        have hpl : ps.length = ks.length := by rw [← p1', List.length_map]
        refine call_set_tups (P := X.prog) (w := X.w) ps (I1.ok.hd hc) pl.isList (by simpa using refs_of_vals r) (fun p hp => I1.isT (p3 p hp)) (by omega) (by omega) fun h' tk L es ep t R g k => ?_
        refine PyProof.Rows.args_nil ?_
        have I2 : Inv X pins σ H1 { s1 with heap := h', toks := tk } := I1.kept k
        have hin : ∀ p ∈ L, p ∈ ps := fun p hp => List.mem_of_mem_take (g.sub p hp)
        refine sorted_setD (s := { s1 with heap := h', toks := tk }) R (I1.ok.hd hc) (fun p hp => hne p.2 (by rw [← p1']; exact List.mem_map.mpr ⟨p, hin p hp, rfl⟩)) hu fun s2 pp out ep2 L' k g2 o hp hgt hout pm pw => ?_
        have hfew : L'.length < 64 := by rw [pm.length_eq]; exact R.few
        have hlen : (L'.map fun q => V.ref q.1).length ≤ sizeLine := by rw [List.length_map, sizeLine_eq]; omega
        have hnone : H1 pp = none := I2.hok.fresh hp
        have hv : Vals (L'.map fun q => V.ref q.1) out.toList := by rw [hout]; exact vals_of_refs L'
        have J : Inv X pins σ (upd H1 pp (.lst (L'.map fun q => V.ref q.1))) { ({ s1 with heap := h', toks := tk } : Shared) with heap := s2.heap, gens := s2.gens, drawn := s2.drawn, toks := s2.toks } :=
          I2.call (s := { s1 with heap := h', toks := tk }) (ch := []) (Un.laid k hp hnone) (I2.hok.laid k hp ⟨hlen, out.toList, ep2, hv, hgt⟩) (by rw [g2]; exact I2.bare) (fun _ z => nomatch z)
        have es : s2 = { s1 with heap := s2.heap, gens := s2.gens, drawn := s2.drawn, toks := s2.toks } := by
          cases s2
          cases s1
          cases o
          rfl
        rw [es]
        refine ⟨.ref pp, _, J, rfl, ?_⟩
        have hset : sortD (nubD (ks.map tupI)) = (L'.map (·.2)).map tupI := by
          refine nub_tup_sort (List.pairwise_map.mpr pw) ((pm.map (·.2)).nodup_iff.mpr R.nd) fun z => ?_
          rw [(pm.map (·.2)).mem_iff, ← p1']
          constructor
          · intro h
            obtain ⟨p, hp, rfl⟩ := List.mem_map.mp h
            exact List.mem_map.mpr ⟨p, hin p hp, rfl⟩
          · intro h
            obtain ⟨p, hp, rfl⟩ := List.mem_map.mp h
            exact g.all p (by rw [List.take_length]; exact hp)
        have rel : RelDs X.K fa μ1 H1 (sortD (nubD (ks.map tupI))) (L'.map fun q => V.ref q.1) := by
          rw [hset]
          have hsub : ∀ q ∈ L', SqT X.K H1 q.1 (q.2.map V.int) := fun q hq => p3 q (hin q (pm.mem_iff.mp hq))
          clear hset hv J es hlen hfew pm pw hout
          induction L' with
          | nil => exact .nil
          | cons a r ih => exact .cons (.tup (hsub a List.mem_cons_self) (ints_to _)) (ih fun q hq => hsub q (List.mem_cons_of_mem _ hq))
        exact fin_lst (C := cfx X fa ca) p1 w1 rel hnone
      · cases e2
    · cases e2
  rename_i ns e3
  have e4 := e2
  split at e4
  · rename_i hl
    rw [Bool.and_eq_true] at hl
    have hl' := of_decide_eq_true hl.1
    have h64 := of_decide_eq_true hl.2
    cases e4
    obtain rfl := ints_map e3
    obtain ⟨l, vs, rfl, rr, hH⟩ := lst_ok w1 rd1 e1
    obtain rfl := ints_rel rr
    cases r1
    obtain ⟨its, r, pl, hz⟩ := I1.list (SqL.of hH)
    refine set_of_list (items := its.toArray) ns (I1.ok.hd hc) pl.isList (by simpa using isI_vals r) (small_scan hl') fun h' tk c hS hcn hk => ?_
    refine PyProof.Rows.args_nil ?_
    have I2 : Inv X pins σ H1 { s1 with heap := h', toks := tk } := I1.kept hk
    obtain ⟨l2, q1, q2, q3⟩ := nub_ints ns
    have hc64 : c < 64 := by
      obtain ⟨o, es, ep, t, ho, hex, hd, g, nd, hmem, hb, hf, hn, hr, hll⟩ := hS
      have hlen : es.size = (nubD (ns.map .int)).length := by
        rw [q1, List.length_map, ← same_len nd q2 fun k => by rw [← hmem k, q3]; simp]
        simp
      omega
    refine sorted_set (s := { s1 with heap := h', toks := tk }) hS (I1.ok.hd hc) hc64 fun s2 pp out ep ms k g o hp hgt hi hs hmem hn => ?_
    have hmem' : ∀ k, k ∈ ms ↔ k ∈ ns := fun k => by rw [hmem]; simp
    have hlen : (ms.map V.int).length ≤ sizeLine := by rw [List.length_map, hn, sizeLine_eq]; omega
    have hnone : H1 pp = none := I2.hok.fresh hp
    have J : Inv X pins σ (upd H1 pp (.lst (ms.map V.int))) { ({ s1 with heap := h', toks := tk } : Shared) with heap := s2.heap, gens := s2.gens, drawn := s2.drawn, toks := s2.toks } :=
      I2.call (s := { s1 with heap := h', toks := tk }) (ch := []) (Un.laid k hp hnone) (I2.hok.laid k hp ⟨hlen, out.toList, ep, vals_of_ints hi, hgt⟩) (by rw [g]; exact I2.bare) (fun _ z => nomatch z)
    have es : s2 = { s1 with heap := s2.heap, gens := s2.gens, drawn := s2.drawn, toks := s2.toks } := by
      cases s2
      cases s1
      cases o
      rfl
    rw [es]
    refine ⟨.ref pp, _, J, rfl, ?_⟩
    have rel : RelDs X.K fa μ1 H1 (sortD (nubD (ns.map .int))) (ms.map V.int) := by
      rw [sort_nub hs hmem']
      clear hmem hmem' hs hn hlen J es hi
      induction ms with
      | nil => exact .nil
      | cons a r ih => exact .cons (.int a) ih
    exact fin_lst (C := cfx X fa ca) p1 w1 rel hnone
  · cases e4
end
/-- repr(e): what is told of data, where nothing is being told -/
theorem b_repr (hu : X.A.units + 70 < cLine) (hgd : X.A.guards = some []) : CallR X (.builtin "repr") (relN X fa ca W (bltD .repr)) := cr_one (fun _ _ => rfl) fun pins s σ σ0 H μ S d e x us Q I r w rx he h => by
  unfold reprD at he
  split at he
  · rename_i hz
    simp only [Bool.and_eq_true] at hz
    obtain ⟨⟨h1, h2⟩, h3⟩ := hz
    cases he
    have dp := rd_dp w rx h1
    obtain ⟨u, rfl, ru⟩ := vals1 r
    obtain ⟨as, rds⟩ := Dp.reads I _ x u dp ru
    have hd := shp_depth h1
    have hn := PyData.hasDict_of_canLay _ (SeqAt.canLay_of_shaped h1)
    have hL := lenOk_le h3
    generalize rd S d = d0 at *
    have fin : ∀ (h' : Heap) (tk1 tk : Nat), (∀ b o, s.heap.get? b = some o → h'.get? b = some o) → EP X pins σ Q (.str d0.shown tk1) { s with heap := h', toks := tk } := fun h' tk1 tk hk =>
      ⟨.str d0.shown, H, I.kept hk, ⟨_, rfl⟩, hereF (C := cfx X fa ca) h w (.str _)⟩
    cases rds with
    | none => exact PySem.P.repr_of_none (fin _ _ _ fun _ _ e => e)
    | bool b =>
      refine PySem.P.repr_of_bool ?_
      have := fin s.heap s.toks (s.toks + 1) fun _ _ e => e
      simpa [PyData.shown] using this
    | int i t =>
      refine PySem.P.repr_of_int (by simpa [PyData.showable] using h2) ?_
      have := fin s.heap s.toks (s.toks + 1) fun _ _ e => e
      simpa [PyData.shown] using this
    | str y t =>
      refine PySem.P.repr_of_str ?_ (hsz := by simpa [PyData.shown] using hL)
      have := fin s.heap s.toks (s.toks + 1) fun _ _ e => e
      simpa [PyData.shown] using this
    | list a1 a2 a3 a4 => exact repr_of_reads' (.list a1 a2 a3 a4) h2 (PyData.noDict_hsm hn) hgd (by omega) (fun _ _ e => e) (fun h' u tk hk => fin h' u tk hk) hL
    | tuple a1 a2 a3 a4 => exact repr_of_reads' (.tuple a1 a2 a3 a4) h2 (PyData.noDict_hsm hn) hgd (by omega) (fun _ _ e => e) (fun h' u tk hk => fin h' u tk hk) hL
    | dict a1 a2 a3 a4 a5 => simp [PyData.hasDict] at hn
  · cases he
end
end Mk

set_option Elab.async false
set_option linter.all false
set_option maxRecDepth 100000
set_option maxHeartbeats 2000000
/-! MkX: an own exception class over ValueError whose __init__ says super().__init__(x) and self.f = x. -/
namespace Mk
open PySem PySem.Spec PyProof.Rows L2
/-! ### super().__init__(x), called -/
section
variable {prog : Program} {w : World} {A : Around} {E : Value → Shared → Prop} {h : Heap} {g : Array GenState} {d : Drawn} {t : Nat} {os : OsState}
variable {nm q : Str} {C N : Addr} {bs bm : List Value} {hdct : Bool} {sn : List Str} {sub : List Value} {ab : Bool} {col : Option Bool} {dd : Option Addr} {k0 k1 k2 k3 k5 : Option Value}
theorem call_mw {u e t0 : Addr} {rest : List Value} {Q : Value → Shared → Prop}
    (hC : h.get? C = some (excClassObj nm q C N bs bm hdct sn sub ab col dd k0 k1 k2 k3 k5 "ValueError.__new__")) (he : h.get? e = some (HandSPX.excO C t0)) (hu : h.get? u = some (PySem.W.kxs_mw "ValueError.__init__" e)) (hrest : rest.length ≤ sizeLine)
    (hq : ∀ h' t1, (∀ b o, b ≠ e → h.get? b = some o → h'.get? b = some o) → h'.get? e = some (HandSPX.excO C t1) → Q .none ⟨h', g, d, t, os⟩) :
    wpAny (model prog w) A (call (.ref u) rest) Q E ⟨h, g, d, t, os⟩ := by
  refine wpAny_call (codeAny_of_tree ?_)
  show wpAny _ A.in1 (callAny (.ref u) ⟨rest, []⟩) _ _ _
  simp only [callAny]
  refine wpAny_bind (wpAny_load hu ?_)
  simp only [PySem.W.kxs_mw, show (Value.type "method-wrapper" == Value.type "method" || Value.type "method-wrapper" == Value.type "builtin_function_or_method" || Value.type "method-wrapper" == Value.type "method-wrapper") = true by decide, if_true]
  refine W.KFB.if_so (by decide) ?_
  refine wpAny_bind (PySem.W.check_bound_init F.excBase_ValueError.toExcCallFacts hC he rfl ?_)
  refine wpAny_bind (wpAny_pure (wpAny_pure ?_))
  refine ⟨PySem.plainId_quiet F.excBase_ValueError.init.plain _, codeAny_builtin F.excBase_ValueError.initEntry ?_⟩
  rw [Around.under_plainId F.excBase_ValueError.init.plain _]
  wp_walk
  refine hq _ h.objs.size (fun b o hb ho => ?_) ?_
  · rw [Heap.get?_update_other _ _ (Ne.symm hb)]
    exact Heap.get?_push_of_some _ ho
  · rw [Heap.get?_update_self _ (Heap.get?_push_of_some _ he) rfl]
    rfl
end
theorem method_eq {o e : Expr} {name : Str} {apos pos : Pos} {env : PySem.Env} (hp : (apos.endLine == pos.line) = true) (hf : methodCallForm 1 (backTo pos (starEach [e] env)) [] = true) (he : eval (.Call (.Attribute o name apos) [e] [] pos) env = (do
    let ov ← attributeBase o name env (eval o env)
    standAt apos.atName
    methodCall o name apos pos env ov 1 (backTo pos (starEach [e] env)) [])) : eval (.Call (.Attribute o name apos) [e] [] pos) env = (do
    let ov ← attributeBase o name env (eval o env)
    standAt apos.atName
    let (f, first) ← holding [ov] (getMethod ov name (do return (← importBound o env).getD true))
    callWith pos f first (backTo pos (starEach [e] env)) []) := by
  rw [he]
  congr 1; funext ov
  congr 1; funext _
  unfold methodCall methodCallPos calleeOf
  rw [hf]
  simp only [hp, Bool.not_true, Bool.false_or, if_true]
  congr 1
theorem callWith_mw {M : Model} {A : Around} {E : Value → Shared → Prop} {s : Shared} {i : String} {u x : Addr} {pos : Pos} {env : PySem.Env} {e : Expr} {rest : List Expr} {Q : Value → Shared → Prop}
    (h : wpAny M A (spliced (backTo pos (starEach (e :: rest) env))) (fun vs s₁ => PySem.W.KxsAt i u x s₁.heap ∧ wpAny M A (call (.ref u) vs) Q E s₁) E s)
    (he : starEach (e :: rest) env = (false, eval e env) :: starEach rest env := by rfl) (hplain : (backTo pos (starEach rest env)).any (·.1) = false := by rfl) :
    wpAny M A (callWith pos (.ref u) [] (backTo pos (starEach (e :: rest) env)) []) Q E s := by
  rw [he] at h ⊢
  refine PySem.W.kxs_callWith (i := i) (x := x) (by show (false || (backTo pos (starEach rest env)).any (·.1)) = false; rw [hplain]; rfl) ?_
  exact Calls.evalArgs_plain h
/-! ### the whole __init__ -/
/-- what the text of such an __init__ is: its two statements -/
structure IniT (body : List Stmt) (params : Arguments) (scope : Scope) (self_ arg fld : Str) : Prop where
  body : ∃ e p0 p1 p2 p4 p5 p6 p7 p8 p9, body = [.Expr (.Call (.Attribute (.Call (.Name "super" p0) [] [] p1) "__init__" p2) [e] [] p4) p5, .Assign [.Attribute (.Name self_ p6) fld p7] (.Name arg p8) p9] ∧ (p2.endLine == p4.line) = true ∧
    ((fld ≠ "at" ∧ ∃ p3, e = .Name arg p3) ∨ (fld = "at" ∧ scope.names.lookup ("str" : Str) = some .globalImplicit ∧ ∃ k q0 q1 q2 q3 q4, e = .BinOp (.Constant (.str "at ") k q0) .Add (.Call (.Name "str" q1) [.Name arg q2] [] q3) q4))
  params : ∃ a1 a2 q1 q2, params = ⟨[], [⟨self_, a1, q1⟩, ⟨arg, a2, q2⟩], none, [], [], none, []⟩
  kind : scope.kind = .function
  co : scope.isCoroutine = false
  gen : scope.isGenerator = false
  nocell : ∀ y ∈ scope.names, y.2 ≠ .cell
  ks : scope.names.lookup ("super" : Str) = some .globalImplicit
  kc : scope.names.lookup ("__class__" : Str) = some .free
  k1 : scope.names.lookup self_ = some .local
  k2 : scope.names.lookup arg = some .local
  ne : self_ ≠ arg
  nm : self_ = "self" ∧ (arg = "reason" ∨ arg = "at")
  d1 : (self_ == ("__debug__" : Str)) = false
  d2 : (arg == ("__debug__" : Str)) = false
/-- what the heap's written part says of the class and of its __init__ -/
structure IniC (P : Program) (K : PySem.W.Frag) (C fI : Addr) (fd : FuncData) (self_ arg fld : Str) : Prop where
  T : OexC K C
  iC : PySem.W.findIn K (.ref C) "__init__" = some (some (.ref fI))
  no : PySem.W.findIn K (.ref C) fld = some none
  hB : PySem.W.subIn K (.ref C) (.type "ValueError") = some true
  me : PySem.W.mroIn K C (.ref C) = some true
  sup : PySem.W.ks_superIn K C C "__init__" = some (some (.builtin "ValueError.__init__"))
  op : PySem.W.nsIn K cStatics "thirdparty.any" = some none
  fn : ∃ name qual params body scope doc pm an cda ct cc oc od osl, K.lookup fI = some ⟨oc, od, .func fd, osl⟩ ∧ oc = .type "function" ∧ fd = PySem.W.ksFn name qual params body scope .none .none doc pm an (.ref cda) ct cc ∧ IniT body params scope self_ arg fld ∧ PySem.W.codeIn K (.ref cda) qual = true ∧
    (∃ ccl cdd vs ccs tf, K.lookup cda = some ⟨ccl, cdd, .fields vs, ccs⟩ ∧ vs[2]? = some (.str P.main.file tf)) ∧ (∃ cl cld csl, K.lookup cc = some ⟨cl, cld, .cell (some (.ref C)), csl⟩)
  sg : PySem.W.nsIn K mainGlobals "super" = some none
  sgs : fld = "at" → PySem.W.nsIn K mainGlobals "str" = some none
  top : (P.main.scope.names.lookup ("super" : Str)).isSome = false
section
variable {P : Program} {w : World} {K : PySem.W.Frag} {mg : Str → Option Value} {base : Heap} {C fI : Addr} {fd : FuncData} {self_ arg fld : Str}
theorem ini_run (T : IniC P K C fI fd self_ arg fld) (M : Mod K mg base) {A : Around} {s : Shared} {a t0 : Addr} {u : Value} {args : Args} {R : Result → Shared → Prop} (hd : A.depth < recursionLimit) (kp : ∀ b o, base.get? b = some o → s.heap.get? b = some o) (nb : base.get? a = none)
    (ha : s.heap.get? a = some (HandSPX.excO C t0)) (hb : BindsTo s fd args [(self_, .ref a), (arg, u)])
    (hu : fld = "at" → ∃ i tk, u = .int i tk ∧ i.natAbs ≤ 1000000) (hq : ∀ h' tk' dx t1, (∀ b o, b ≠ a → s.heap.get? b = some o → h'.get? b = some o) → s.heap.objs.size ≤ dx → dx ≠ a → h'.get? a = some { cls := .ref C, dict := some dx, data := .fields #[.ref t1, .none, .none, .none, .bool false, .none] } →
      h'.Ns1 dx (fun y => if y = fld then some u else none) → R (.ok (.ret .none)) { s with heap := h', toks := tk' }) :
    codeAny (model P w) A (.call (.ref fI) args) R s := by
  obtain ⟨name, qual, params, body, scope, doc, pm, an, cda, ct, cc, oc, od, osl, lk, -, rfl, X, hcd, ⟨ccl, cdd, vs, ccs, tf, lkc, hvs⟩, ⟨cl, cld, csl, lcc⟩⟩ := T.fn
  obtain ⟨e, p0, p1, p2, p4, p5, p6, p7, p8, p9, hbd, hpos, hform⟩ := X.body
  obtain ⟨a1, a2, q1, q2, hpr⟩ := X.params
  obtain ⟨nm, q, N, bs, bm, sn, sub, ab, col, dd, k0, k1, k2, k3, k5, hC, hbm⟩ := T.T.cls
  subst hbd hpr
  have KX : K.In s.heap := M.kin.keeps kp
  refine PySem.ks_codeAny_call_defAt hd (KX _ _ lk) rfl (M.nolimit.keeps kp) (PySem.W.codeRec_of KX hcd) rfl hb X.nocell (fun y hy => ?_) (fun h₀ hns keep => ?_) X.co X.gen X.kind
  · rcases List.mem_cons.mp hy with rfl | hy
    · exact X.k1
    · rw [List.mem_singleton] at hy; subst hy; exact X.k2
  · -- the two statements
    have KX0 : K.In h₀ := KX.keeps keep
    have haL : a ≠ s.heap.objs.size := Nat.ne_of_lt (Heap.lt_size ha)
    have hbs : ([(self_, Value.ref a), (arg, u)] : List (Str × Value)).reverse.lookup self_ = some (.ref a) := by
      have : (self_ == arg) = false := by simpa using X.ne
      simp [List.lookup, this]
    have hba : ([(self_, Value.ref a), (arg, u)] : List (Str × Value)).reverse.lookup arg = some u := by simp [List.lookup]
    have hC0 := KX0 _ _ hC
    have hcl : PySem.W.clsIn K C = some { name := nm, bases := bs, mro := .ref C :: bm, ns := N, qualname := q, hasDict := true, slotNames := sn, subclasses := sub, abstract := ab, collection := col, hasDel := false } := by unfold PySem.W.clsIn; rw [hC] <;> rfl
    have ha0 := keep _ _ ha
    obtain ⟨mb, hmb, hmb2⟩ := M.blt
    have hmg : mg "super" = none := PySem.W.mg_none_of M.kin M.glob T.sg
    have kb : ∀ b o, base.get? b = some o → h₀.get? b = some o := fun b o e => keep b o (kp b o e)
    have hint : interactive (PySem.W.ksEnv qual scope s.heap.objs.size fI (.ref cda) cc) = false := by
      unfold interactive
      simp [X.kind]
    refine ks_wpAt_execs_cons (ks_wpAt_Expr_any ?_ hint rfl)
    have hmeq : ∀ {o : Expr} {nm : Str}, eval (.Call (.Attribute o nm p2) [e] [] p4) (PySem.W.ksEnv qual scope s.heap.objs.size fI (.ref cda) cc) = (do
        let ov ← attributeBase o nm (PySem.W.ksEnv qual scope s.heap.objs.size fI (.ref cda) cc) (eval o (PySem.W.ksEnv qual scope s.heap.objs.size fI (.ref cda) cc))
        standAt p2.atName
        let (f, first) ← holding [ov] (getMethod ov nm (do return (← importBound o (PySem.W.ksEnv qual scope s.heap.objs.size fI (.ref cda) cc)).getD true))
        callWith p4 f first (backTo p4 (starEach [e] (PySem.W.ksEnv qual scope s.heap.objs.size fI (.ref cda) cc))) []) := by
      intro o nm
      rcases hform with ⟨-, p3, rfl⟩ | ⟨-, -, k, q0, q1, q2, q3, q4, rfl⟩
      · exact method_eq hpos rfl rfl
      · exact method_eq hpos rfl rfl
    have hval : ∀ {A' : Around} {E' : Value → Shared → Prop} {Q' : Value → Shared → Prop} (s' : Shared), s'.heap.Ns s.heap.objs.size (fun x => ([(self_, Value.ref a), (arg, u)] : List (Str × Value)).reverse.lookup x) → (∀ b o, base.get? b = some o → s'.heap.get? b = some o) →
        (∀ v tk, Q' v { s' with toks := tk }) → wpAny (model P w) A' (eval e (PySem.W.ksEnv qual scope s.heap.objs.size fI (.ref cda) cc)) Q' E' s' := by
      intro A' E' Q' s' hn hk hq'
      rcases hform with ⟨-, p3, rfl⟩ | ⟨hat, hstr, k, q0, q1, q2, q3, q4, rfl⟩
      · exact wpAny_Name (wpAny_loadName_local X.kind X.k2 hn hba (hq' _ s'.toks)) X.d2
      · obtain ⟨i, tk, rfl, hi⟩ := hu hat
        have hl : i.natAbs.log2 < 1920 := by
          rcases Nat.eq_zero_or_pos i.natAbs with z | z
          · rw [z]; decide
          · exact Nat.lt_trans ((Nat.log2_lt (k := 20) (Nat.ne_of_gt z)).mpr (Nat.lt_of_le_of_lt hi (by decide))) (by decide)
        obtain ⟨mb2, hmb3, hmb4⟩ := M.blt
        have hmgs : mg "str" = none := PySem.W.mg_none_of M.kin M.glob (T.sgs hat)
        refine wpAny_BinOp (wpAny_Constant_str ?_)
        refine Call_ ?_
        refine wpAny_Name ?_ (by decide)
        refine PySem.W.ks_loadName_global X.kind hstr (Calls.loadGlobal_builtin (M.glob.keeps hk) hmgs (hmb3.keeps hk) ((hmb4 "str" (by decide)).trans rfl) ?_)
        refine callWith_type1 (args_cons (wpAny_Name (wpAny_loadName_local X.kind X.k2 hn hba (args_nil ?_)) X.d2))
        refine PySem.P.str_of_int hl ?_
        refine add_str (fun t' tk' => hq' _ tk') ?_
        have := int_text_len_1921 hl
        have e3 : ("at " : Str).length = 3 := rfl
        rw [sizeLine_eq]
        show ("at " : Str).length + (PySem.Str.ofString (toString i)).length ≤ _
        omega
    have hstar : starEach [e] (PySem.W.ksEnv qual scope s.heap.objs.size fI (.ref cda) cc) = (false, eval e (PySem.W.ksEnv qual scope s.heap.objs.size fI (.ref cda) cc)) :: starEach [] (PySem.W.ksEnv qual scope s.heap.objs.size fI (.ref cda) cc) := by
      rcases hform with ⟨-, p3, rfl⟩ | ⟨-, -, k, q0, q1, q2, q3, q4, rfl⟩
      · rfl
      · rfl
    refine ks_wpAt_MethodCall ?_ hmeq
    refine ks_wpAt_super_base (f := fI) (cc := cda) X.ks X.kc (by decide) rfl (KX0 _ _ lk) rfl rfl rfl (KX0 _ _ lkc) rfl hvs (by simp) T.top ?_
    refine PySem.W.ks_loadName_global X.kind X.ks (Calls.loadGlobal_builtin (M.glob.keeps kb) hmg (hmb.keeps kb) ((hmb2 "super" (by decide)).trans rfl) ⟨rfl, ?_⟩)
    refine wpAny_loadName_free X.kind X.kc rfl ⟨_, KX0 _ _ lcc, rfl⟩ ?_
    refine wpAny_loadName_local X.kind X.k1 hns hbs ?_
    refine ks_wpAny_isType_cls hC0 rfl ⟨rfl, ?_⟩
    refine ks_wpAny_call_super hC0 rfl ha0 rfl (fun c e => by cases e) (PySem.W.looks_mroIn KX0 T.me) (fun h1 e1 kk1 => ?_)
    have KX1 : K.In h1 := KX0.keeps kk1
    have ha1 := kk1 _ _ ha0
    have hI : PySem.W.Looks (model P w) h1 (isInstance (.ref a) (.type "ValueError")) true := (PySem.W.InstAt.type (od := none) ⟨ha1, rfl, rfl, trivial⟩).andThen (PySem.W.looks_subIn KX1 T.hB)
    have hsup : PySem.W.alongIn K "__init__" ((Value.ref C :: bm).dropWhile (· != .ref C) |>.drop 1) = some (some (.builtin "ValueError.__init__")) := by
      have := T.sup
      unfold PySem.W.ks_superIn at this
      rw [hcl] at this
      exact this
    have hmro : PySem.W.Looks (model P w) h1 (mroOf (.ref C)) (Value.ref C :: bm) := (PySem.W.looks_clsIn KX1 hcl).andThen .now
    have hac : a ≠ C := fun z => by
      rw [z] at ha1
      rw [KX1 _ _ hC] at ha1
      cases ha1
    refine PySem.W.kxs_getMethod PySem.W.kxs_ValueError e1 (PySem.W.looks_opaque KX1 T.op) hmro rfl KX1 hsup hI hac (by decide) ?_
    have hmw : (h1.push (PySem.W.kxs_mw "ValueError.__init__" a)).get? h1.objs.size = some (PySem.W.kxs_mw "ValueError.__init__" a) := Heap.get?_push_at rfl rfl
    have kk2 : ∀ b o, h1.get? b = some o → (h1.push (PySem.W.kxs_mw "ValueError.__init__" a)).get? b = some o := fun b o e => Heap.get?_push_of_some _ e
    have hns2 : (h1.push (PySem.W.kxs_mw "ValueError.__init__" a)).Ns s.heap.objs.size (fun x => ([(self_, Value.ref a), (arg, u)] : List (Str × Value)).reverse.lookup x) := hns.keeps fun b o e => kk2 b o (kk1 b o e)
    have hl1 : h1.objs.size < (h1.push (PySem.W.kxs_mw "ValueError.__init__" a)).objs.size := Heap.lt_size hmw
    refine callWith_mw (i := "ValueError.__init__") (x := a) (he := hstar) (args_cons (he := hstar) (hval _ hns2 (fun b o e => kk2 b o (kk1 b o (kb b o e))) fun v2 tk2 => args_nil ?_))
    refine ⟨hmw, ?_⟩
    refine call_mw ((KX1.keeps kk2) _ _ hC) (kk2 _ _ ha1) hmw (by rw [sizeLine_eq]; simp) fun h3 t1 k3 ha3 => ?_
    have KX3 : K.In h3 := fun b o e => k3 b o (fun z => by
      have := M.kin b o e
      rw [z, nb] at this; cases this) ((KX1.keeps kk2) b o e)
    have hns3 : h3.Ns s.heap.objs.size (fun x => ([(self_, Value.ref a), (arg, u)] : List (Str × Value)).reverse.lookup x) := by
      obtain ⟨o, es, ep, ho, hr⟩ := hns2
      exact ⟨o, es, ep, k3 _ _ (Ne.symm haL) ho, hr⟩
    refine ks_wpAt_execs_cons (ks_wpAt_Assign_Attr (wpAt_of_wpAny (wpAny_Name (wpAny_loadName_local X.kind X.k2 hns3 hba ?_) X.d2)) rfl)
    refine wpAny_Name (wpAny_loadName_local X.kind X.k1 hns3 hbs ?_) X.d1
    refine PySem.W.set_plain KX3 (ox := HandSPX.excO C t1) (od := none) ⟨ha3, rfl, rfl, trivial⟩ T.T.sa ?_
    refine HandSPX.exc_osa KX3 ha3 hcl (show HandSPX.refsVE (.ref C :: bm) = true from hbm) rfl T.no (fun h' tk' dx k dn dne hx hn => ?_)
    refine wpAt_of_wpAny (wpAny_execs_nil ?_)
    have hle : s.heap.objs.size ≤ h3.objs.size := by
      have q1 : s.heap.objs.size < h₀.objs.size := by
        obtain ⟨o, es, ep, ho, hr⟩ := hns
        exact Heap.lt_size ho
      have q2 : h₀.objs.size < h1.objs.size := Heap.lt_size e1
      have q3 : h1.objs.size < h3.objs.size := Heap.lt_size (k3 _ _ (fun z => by
        have := Heap.lt_size ha1
        rw [← z] at this
        exact absurd this (Nat.lt_irrefl _)) hmw)
      omega
    exact hq h' tk' dx t1 (fun b o hb e => k b o hb (k3 b o hb (kk2 _ _ (kk1 _ _ (keep _ _ e))))) (Nat.le_trans hle dn) dne hx hn
/-- its promise -/
def spIni (C : Addr) (fld : Str) : Sp := fun vs H Q _ => ∃ (a : Addr) (v : V), vs = [.ref a, v] ∧ (fld = "at" → ∃ i, v = .int i ∧ i.natAbs ≤ 1000000) ∧ H a = some (exo a C none) ∧ ∀ dx, H dx = none → dx ≠ a → Q .non (upd (upd H dx (exd dx [(fld, v)])) a (exo a C (some dx)))
theorem ini_fn (T : IniC P K C fI fd self_ arg fld) {CX : CXT} {k : Nat} : FnOk P w K mg base CX (k + 1) fI fd [self_, arg] (spIni C fld) := by
  refine ⟨fun vs H Q E h => ?_, fun A outer s H args us vs Q E hr e0 hb r hsp => ?_⟩
  · obtain ⟨a, v, rfl, _⟩ := h; rfl
  · obtain ⟨a, v, rfl, hat, e, hq⟩ := hsp
    cases r with
    | @cons _ u0 _ ur ra rr =>
    cases rr with
    | @cons _ u _ ur2 ry rr2 =>
    cases rr2
    obtain rfl : u0 = Value.ref a := ra
    obtain ⟨t1, ho⟩ := exo_at e0.hok e
    have nb : base.get? a = none := by
      cases q : base.get? a with
      | none => rfl
      | some o =>
        have := (e0.bs a o q).2
        rw [e] at this; cases this
    refine ini_run (t0 := t1) T e0.mod hr.depth (fun b o q => (e0.bs b o q).1) nb ho hb (fun z => by
      obtain ⟨i, rfl, hi⟩ := hat z
      obtain ⟨tk, hy⟩ := ry
      exact ⟨i, tk, hy, hi⟩) fun h' tk' dx t2 k dn dne hx hn => ?_
    obtain ⟨hp, g, d, t, os⟩ := s
    have hnd : H dx = none := e0.hok.fresh dn
    have nd : ∀ {b : Addr} {o : Obj}, hp.get? b = some o → b ≠ dx := fun {b o} q => Nat.ne_of_lt (Nat.lt_of_lt_of_le (Heap.lt_size q) dn)
    have na : ∀ {b : Addr}, H b = none → b ≠ a := fun {b} n z => by
      rw [z, e] at n
      cases n
    have Un1 : Un (frs outer) [] H (upd (upd H dx (exd dx [(fld, v)])) a (exo a C (some dx))) hp h' := {
      keep := fun b o q n _ _ => k b o (na n) q
      slot := fun b o q n _ _ => ⟨o.slots, k b o (na n) q⟩
      free := fun b o q n _ => by rw [upd_ne (na n), upd_ne (nd q)]; exact n
      there := fun b o q _ => by
        by_cases hb : b = a
        · exact ⟨_, by rw [hb]; exact hx⟩
        · exact ⟨o, k b o hb q⟩
      tups := fun b xs q => by rw [upd_ne (at_ne e q exo_tup), upd_ne (ne_of_none q hnd)]; exact q
      frzs := fun b o v q => by rw [upd_ne (at_ne e q exo_frz), upd_ne (ne_of_none q hnd)]; exact q
      tbls := fun b ps q => ⟨#[], by rw [upd_ne (at_ne e q exo_tbl), upd_ne (ne_of_none q hnd), q]; simp⟩ }
    have hok : HOk P w (upd (upd H dx (exd dx [(fld, v)])) a (exo a C (some dx))) h' := fun b o q => by
      by_cases hb : b = a
      · subst hb
        rw [upd_same] at q
        cases q
        exact exo_ok hx
      · rw [upd_ne hb] at q
        by_cases hd : b = dx
        · subst hd
          rw [upd_same] at q
          cases q
          exact exd_ok hn (relO_put (fs := []) ry fun g => True.intro)
        · rw [upd_ne hd] at q
          exact (e0.hok b o q).stay (fun c v hc z => k c v (by
              rcases hc with hc | hc
              · rw [hc]
                exact hb
              · exact at_ne e hc exo_own) z)
            (fun c hc => by rw [upd_ne (at_ne e hc exo_own), upd_ne (ne_of_none hc hnd)]; exact hc) (fun c xs hc => by rw [upd_ne (at_ne e hc exo_tup), upd_ne (ne_of_none hc hnd)]; exact hc)
    exact ⟨.non, _, rfl, e0.bare, Un1, hok, rfl, hq dx hnd dne⟩
end
end Mk

set_option Elab.async false
set_option linter.all false
set_option maxRecDepth 100000
set_option maxHeartbeats 2000000
/-! MkX2: raise of a class with a field; several handlers, with names. -/
namespace Mk
open PySem PySem.Spec PyProof.Rows L2
theorem ini_binds {P : Program} {K : PySem.W.Frag} {C fI : Addr} {fd : FuncData} {self_ arg fld : Str} (T : IniC P K C fI fd self_ arg fld) : Binds K fd [self_, arg] [] := by
  obtain ⟨name, qual, params, body, scope, doc, pm, an, cda, ct, cc, oc, od, osl, lk, -, rfl, X, -⟩ := T.fn
  obtain ⟨a1, a2, q1, q2, rfl⟩ := X.params
  obtain ⟨rfl, rfl | rfl⟩ := X.nm
  · exact Binds.all fun us hl => match us, hl with | [x, y], _ => rfl
  · exact Binds.all fun us hl => match us, hl with | [x, y], _ => rfl
theorem ini_type {P : Program} {K : PySem.W.Frag} {C fI : Addr} {fd : FuncData} {self_ arg fld : Str} (T : IniC P K C fI fd self_ arg fld) : PySem.W.typeIn K (.ref fI) = some (.type "function") := by
  obtain ⟨name, qual, params, body, scope, doc, pm, an, cda, ct, cc, oc, od, osl, lk, rfl, -⟩ := T.fn
  show (K.lookup fI).map (·.cls) = _
  rw [lk]; rfl
theorem sca_rel {K : PySem.W.Frag} {fa : Fa} {μ : List Addr} {H : Hp} {d : PyData} {v : V} (h : isSca d = true) (r : RelD K fa μ H d v) : v = scaV d := by
  cases r <;> first | rfl | cases h
section
variable {X : Cx} {fa : Fa} {ca : Nat → Option Addr} {W : WX}
theorem ok_raiseX {c : Nat} {C fI : Addr} {fd : FuncData} {self_ arg fld x : Str} {p cpos pos : Pos} {e : Expr} {ev : EvEs} (hc : X.calm = true) (tk : Takes X W) (hr : Room 2 X.A) (hf : fieldN c = some fld) (hac : ca c = some C) (T : IniC X.prog X.K C fI fd self_ arg fld)
    (gC : X.mg x = some (.ref C)) (hg : Gl X x) (ha : PA X [e] (rdEs (cfx X fa ca) W ev)) (hdb : (x == ("__debug__" : Str)) = false) (hs : plainE e = true) :
    PS X (.Raise (some (.Call (.Name x p) [e] [] cpos)) none pos) (rdS (cfx X fa ca) W (sRaise c ev)) := by
  have pm := pmk_oex (X := X) (k := 1) (ds := []) (dvs := []) (CX := fun _ _ _ _ _ _ => False) (p := p) (pos := cpos) T.T T.iC (ini_type T) (ini_fn T) hr (ini_binds T) .nil (fun _ _ _ _ _ _ _ z => z.elim) hg gC ha hdb (star_cons hs) rfl
  refine PS.mono (ps_raise hc tk pm) fun D σ H ⟨μ, ρ, S, sw, hp⟩ => ?_
  refine ⟨μ, ρ, S, sw, ?_⟩
  have hp : PostS (cfx X fa ca) W D μ H ((ev ρ S).toS ρ fun xs S1 => if lenOk xs.length && (!hasF c || decide (xs.length = 1) && xs.all (fldOk c)) then .exc ⟨c, xs.headD .none⟩ ρ S1 else .stuck) := hp
  cases he : ev ρ S with
  | ok ds S1 =>
    rw [he] at hp
    intro vs H1 μ1 e1 w1 r1
    replace hp : PostS (cfx X fa ca) W D μ H (if lenOk ds.length && (!hasF c || decide (ds.length = 1) && ds.all (fldOk c)) then .exc ⟨c, ds.headD .none⟩ ρ S1 else .stuck) := hp
    split at hp
    · rename_i hl
      rw [hasF_yes hf] at hl
      simp only [Bool.and_eq_true, Bool.not_true, Bool.false_or, decide_eq_true_eq] at hl
      obtain ⟨hl0, hl1, hsc⟩ := hl
      obtain ⟨d, rfl⟩ : ∃ d, ds = [d] := List.length_eq_one_iff.mp hl1
      have hfo := hsc
      have hsc : isSca d = true := by
        simp only [List.all_cons, List.all_nil, Bool.and_true, fldOk, Bool.and_eq_true] at hfo
        exact hfo.1
      cases r1 with
      | @cons _ v _ _ rd rr =>
      cases rr
      have ev := sca_rel hsc rd
      subst ev
      have hat : fld = "at" → ∃ i, scaV d = .int i ∧ i.natAbs ≤ 1000000 := fun z => by
        have hc2 : c = 2 := by
          match c, hf with
          | 1, hf => rw [z] at hf; revert hf; decide
          | 2, _ => rfl
        subst hc2
        simp only [List.all_cons, List.all_nil, Bool.and_true, fldOk, Bool.and_eq_true, bne_self_eq_false, Bool.false_or] at hfo
        cases d with
        | int i => exact ⟨i, rfl, of_decide_eq_true hfo.2⟩
        | _ => cases hfo.2
      refine ⟨by simp, fun a hn => ⟨a, scaV d, rfl, hat, upd_same, fun dx hdx hne => ?_⟩⟩
      have hd1 : H1 dx = none := by rw [upd_ne hne] at hdx; exact hdx
      refine ⟨rfl, dx, [(fld, scaV d)], upd_same, by rw [upd_ne hne]; exact upd_same, hd1, ?_⟩
      have hH : upd (L2.del (upd (upd (upd H1 a (exo a C none)) dx (exd dx [(fld, scaV d)])) a (exo a C (some dx))) a) dx (.xd [(fld, scaV d)]) = upd H1 dx (.xd [(fld, scaV d)]) := by
        funext b
        by_cases hb : b = dx
        · rw [hb, upd_same, upd_same]
        · rw [upd_ne hb, upd_ne hb]
          by_cases hba : b = a
          · rw [hba, L2.del_same, hn]
          · rw [L2.del_ne hba, upd_ne hba, upd_ne hb, upd_ne hba]
      show W _ _ _ _
      rw [hH]
      refine hp (.ref C) (some dx) μ1 σ _ (e1.trans (Ext.new hd1)) ((sw.ext e1 w1).ext (Ext.new hd1) (w1.new hd1)) ⟨⟨C, hac, rfl⟩, ?_⟩
      rw [hf]
      exact ⟨dx, rfl, upd_same⟩
    · exact hp.elim
  | exc c' S1 =>
    rw [he] at hp
    exact fun cls dx H' μ' e w x => hp cls dx μ' σ H' e (sw.ext e w) x
  | stuck => rw [he] at hp; exact hp
end
/-! ### several handlers, some with a name -/
def endA : Option Nat → Ends → Ends
  | none, D => D
  | some i, D => { nx := fun σ' H' => D.nx (σ'.set i none) H', rt := D.rt, bk := fun σ' H' => D.bk (σ'.set i none) H', ct := fun σ' H' => D.ct (σ'.set i none) H' }
def setA (a : Addr) : Option Nat → St → St
  | none, σ => σ
  | some i, σ => σ.set i (some (.ref a))
abbrev Hl := Value × Option Nat × (Addr → Value → Option Addr → TS)
def wManyA (K : PySem.W.Frag) (Wout : WX) (D : Ends) : List Hl → WX
  | [] => Wout
  | (c, o, ts) :: r => fun cls d σ H => ∃ b, PySem.W.exmOne K cls c = some b ∧ (b = true → ∀ a, H a = none → ts a cls d (endA o D) (setA a o σ) H) ∧ (b = false → wManyA K Wout D r cls d σ H)
inductive HdsA (X : Cx) : List ExceptHandler → List Hl → Prop
  | nil : HdsA X [] []
  | cons {x : Str} {nm : Option Str} {o : Option Nat} {c : Value} {ts : Addr → Value → Option Addr → TS} {b₀ : Stmt} {suite : List Stmt} {np pos' : Pos} {hds : List ExceptHandler} {l : List Hl} (hc : Names X x c)
      (hn : (nm = none ∧ o = none) ∨ ∃ n i, nm = some n ∧ o = some i ∧ X.N[i]? = some n ∧ X.env.kindOf n = some .local)
      (hsu : ∀ (a : Addr) (oe : Obj) (cls : Value) (d : Option Addr) (pn : List (Addr × Obj)), Zc cls d oe → (∃ vs, oe.data = .fields vs) → PSs (X.suite a ((a, oe) :: pn)) (b₀ :: suite) (ts a cls d)) (r : HdsA X hds l) :
      HdsA X (.ExceptHandler (some (.Name x np)) nm (b₀ :: suite) pos' :: hds) ((c, o, ts) :: l)
section
variable {X : Cx} {body : List Stmt} {h₀ : ExceptHandler} {hds : List ExceptHandler} {l : List Hl} {pos : Pos} {tb : WX → TS} {Wout : WX}
theorem ps_try_A (hs : X.stack = X.env :: X.outer) (hf : X.env.frame = some X.env.locals) (hN : X.N.Nodup) (tk : Takes X Wout)
    (hb : ∀ (W : WX) (pn : List (Addr × Obj)) (xe : Value → Shared → Prop), Takes (X.tr pn xe) W → PassesOwn (model X.prog X.w) X.A X.env xe → PSs (X.tr pn xe) body (tb W))
    (hh : HdsA X (h₀ :: hds) l) : PS X (.Try body (h₀ :: hds) [] [] pos) (fun D σ H => tb (wManyA X.K Wout D l) D σ H) := by
  refine ⟨fun pins s σ H D I h => ?_⟩
  have ok := I.ok
  have hfr : X.A.frames = some (X.env :: X.outer) := by rw [ok.frames, hs]
  refine wpAny_Try_except ?_
  refine wpAny_mono ((hb (wManyA X.K Wout D l) (X.pn ++ pins) (fun e s₁ => wpAny (model X.prog X.w) X.A (noteFrame e X.env) (fun _ s₂ => wpAny (model X.prog X.w) X.A (setFlight e none) (fun _ s₃ =>
    wpAny (model X.prog X.w) X.A (handleBy e X.env (h₀ :: hds)) (SP X pins D) X.xe s₃) X.xe s₂) X.xe s₁) (fun u s' xx => ?_) PassesOwn.looking).run [] s σ H D (I.toTry _) h) (fun f s1 hsp => ?_) (fun e s1 he => he)
  · obtain ⟨a, B, sI, pins', σ', H', cls, d, rfl, J', nb, up, sky, na, os, ag, w⟩ := xx
    have J : Inv X pins σ' H' sI := J'.ofTry ok
    have sky' : Sky B (X.env :: X.outer) a (Zc cls d) X.env.locals s'.heap := by rw [← hs]; exact sky
    show wpAny (model X.prog X.w) X.A (noteFrame (.ref a) X.env) _ _ _
    refine Sky.land Zc.steady hfr hf sky' fun h3 fl3 up3 => ?_
    have J3 : Inv X pins σ' H' { s' with heap := h3 } := J.landed nb fl3.1 (up.trans up3) os ag
    obtain ⟨oe3, vs3, he3, hz3, hd3⟩ := fl3.there
    have notFr : ∀ {h : Heap} {o : Obj} {vs : Array Value}, h.FunFrames B (X.env :: X.outer) → h.get? a = some o → o.data = .fields vs → a ∉ frs (X.env :: X.outer) := fun {h o vs} ff e dd hm => by
      obtain ⟨_, o', e', hnf⟩ := ff.mem hm
      rw [e] at e'; cases e'
      exact hnf _ dd
    have nfr := notFr fl3.2.2.1 he3 hd3
    have nL : a ≠ X.env.locals := fun z => nfr (List.mem_filterMap.mpr ⟨X.env, List.mem_cons_self, by rw [hf, z]⟩)
    have nF : a ∉ X.fs := fun hm => by
      obtain ⟨e, he, q⟩ := List.mem_filterMap.mp hm
      exact nfr (List.mem_filterMap.mpr ⟨e, List.mem_cons_of_mem _ he, q⟩)
    have S3 := J3.suite he3 hd3 na nL nF
    have go : ∀ {hds' : List ExceptHandler} {l' : List Hl}, HdsA X hds' l' → wManyA X.K Wout D l' cls d σ' H' →
        wpAny (model X.prog X.w) X.A (handleBy (.ref a) X.env hds') (SP X pins D) X.xe { s' with heap := h3 } := by
      intro hds' l' hk
      induction hk with
      | nil =>
        intro w
        refine wpAny_handleBy_nil ?_
        obtain ⟨k1, k2, k3, oe, vs, T, oT, ts', he, hz, hd, h1, hr⟩ := id fl3
        unfold PySem.passOn
        refine wpAny_bind (wpAny_field he hd h1 ?_)
        rw [if_neg (show ¬ ((Value.ref T == Value.none) = true) from by simp)]
        have fin : wpAny (model X.prog X.w) X.A (setFlight (.ref a) X.env.frame) (fun _ s4 => wpAny (model X.prog X.w) X.A (throw (.ref a) : Sem Flow) (SP X pins D) X.xe s4) X.xe { s' with heap := h3 } := by
          rw [hf]
          refine HandSPX.setFlight_upZ fl3 fun h4 hh4 up4 => wpAny_throw (tk _ _ ?_)
          exact ⟨a, B, sI, pins, σ', H', cls, d, rfl, J, nb, (up.trans up3).trans up4, .inr (.inr (by rw [hs]; exact hh4)), na, os, ag, w⟩
        first
          | exact wpAny_bind (wpAny_pure (wpAny_bind fin))
          | exact wpAny_bind fin
      | @cons x nm o c ts b₀ suite np pos' hds2 l2 hc hn hsu r ih =>
        intro w
        obtain ⟨b, hb1, hyes, hno⟩ := w
        refine wpAny_handleBy_cons (codeAny_handlers_test ?_) (by intro q; cases q)
        have LT : PySem.W.Looks (model X.prog X.w) h3 (typeOf (.ref a)) cls := fun A Q E s k q => wpAny_typeOf_ref (k _ _ he3) (by rw [hz3.1]; exact q)
        have LM := PySem.W.exm_one (M := model X.prog X.w) (J3.kIn) LT hb1
        have test : ∀ {Q : Value → Shared → Prop} {E : Value → Shared → Prop}, Q c { s' with heap := h3 } → wpAny (model X.prog X.w) (X.A.mark (some (.ref a))) (eval (.Name x np) X.env) Q E { s' with heap := h3 } := fun {Q E} q => by
          obtain ⟨hg, hdbg, hm | ⟨hm, hv, hnn⟩⟩ := hc
          · exact ld_glob (X := X.suite a ((a, oe3) :: (X.pn ++ pins))) S3 hg hm q hdbg
          · exact ld_blt (X := X.suite a ((a, oe3) :: (X.pn ++ pins))) S3 hg hm hv q hnn hdbg
        refine test (LM.here ?_)
        cases b with
        | true =>
          rcases hn with ⟨rfl, rfl⟩ | ⟨n, i, rfl, rfl, hi, hln⟩
          · refine codeAny_handlers_suite ?_
            refine HandSPX.lands_againZ fl3 fun h4 fl4 up4 => ?_
            have J4 : Inv X pins σ' H' { s' with heap := h4 } := J.landed nb fl4.1 ((up.trans up3).trans up4) os ag
            obtain ⟨oe4, vs4, he4, hz4, hd4⟩ := fl4.there
            have S4 := J4.suite he4 hd4 na nL nF
            refine wpAny_mono ((hsu a oe4 cls d (X.pn ++ pins) hz4 ⟨_, hd4⟩).run [] _ _ H' _ S4 (hyes rfl a na)) (fun f s6 hsp => ?_) (fun _ _ z => False.elim z)
            cases f with
            | next =>
              obtain ⟨σ6, H6, S6, q6⟩ := hsp
              exact ⟨_, _, S6.unsuite ok, q6⟩
            | brk =>
              obtain ⟨σ6, H6, S6, q6⟩ := hsp
              exact ⟨_, _, S6.unsuite ok, q6⟩
            | cont =>
              obtain ⟨σ6, H6, S6, q6⟩ := hsp
              exact ⟨_, _, S6.unsuite ok, q6⟩
            | ret u =>
              obtain ⟨v6, σ6, H6, S6, r6, q6⟩ := hsp
              exact ⟨_, _, _, S6.unsuite ok, r6, q6⟩
          · have hloc : Loc X.env.scope n := .inl hln
            refine codeAny_handlers_suite_as ?_
            refine HandSPX.lands_againZ fl3 fun h4 fl4 up4 => ?_
            have J4 : Inv X pins σ' H' { s' with heap := h4 } := J.landed nb fl4.1 ((up.trans up3).trans up4) os ag
            obtain ⟨oe4, vs4, he4, hz4, hd4⟩ := fl4.there
            have S4 := J4.suite he4 hd4 na nL nF
            refine store_ok (X := X.suite a ((a, oe4) :: (X.pn ++ pins))) (v := .ref a) S4 hN hi hloc rfl (fun s5 S5 => ?_) (.inr hln)
            refine wpAny_mono ((hsu a oe4 cls d (X.pn ++ pins) hz4 ⟨_, hd4⟩).run [] s5 _ H' _ S5 (hyes rfl a na)) (fun f s6 hsp => ?_) (fun _ _ z => False.elim z)
            have end_ : ∀ {σ6 : St} {H6 : Hp} {Q : Shared → Prop}, Inv (X.suite a ((a, oe4) :: (X.pn ++ pins))) [] σ6 H6 s6 → (∀ s7, Inv X pins (σ6.set i none) H6 s7 → Q s7) →
                wpAny (model X.prog X.w) X.A (do bindName X.env n .none; unbindBehindTheSuite X.env n pos') (fun _ s7 => Q s7) X.xe s6 := fun {σ6 H6 Q} S6 hq => gone_ok (S6.unsuite ok) hN hi hln hq
            cases f with
            | next =>
              obtain ⟨σ6, H6, S6, q6⟩ := hsp
              exact end_ S6 fun s7 J7 => ⟨_, _, J7, q6⟩
            | brk =>
              obtain ⟨σ6, H6, S6, q6⟩ := hsp
              exact end_ S6 fun s7 J7 => ⟨_, _, J7, q6⟩
            | cont =>
              obtain ⟨σ6, H6, S6, q6⟩ := hsp
              exact end_ S6 fun s7 J7 => ⟨_, _, J7, q6⟩
            | ret u =>
              obtain ⟨v6, σ6, H6, S6, r6, q6⟩ := hsp
              exact end_ S6 fun s7 J7 => ⟨_, _, _, J7, r6, q6⟩
        | false =>
          show wpAny _ X.A (handleBy (.ref a) X.env hds2) _ _ _
          exact ih (hno rfl)
    exact go hh w
  · cases f with
    | next =>
      obtain ⟨σ', H', J', q⟩ := hsp
      exact wpAny_execs_nil ⟨σ', H', J'.ofTry ok, q⟩
    | brk =>
      obtain ⟨σ', H', J', q⟩ := hsp
      exact ⟨σ', H', J'.ofTry ok, q⟩
    | cont =>
      obtain ⟨σ', H', J', q⟩ := hsp
      exact ⟨σ', H', J'.ofTry ok, q⟩
    | ret u =>
      obtain ⟨v, σ', H', J', r, q⟩ := hsp
      exact ⟨v, σ', H', J'.ofTry ok, r, q⟩
end
end Mk

set_option Elab.async false
set_option linter.all false
set_option maxRecDepth 100000
/-! MkC: does this tree say what this term says? A check by computation, and what it gives. -/
namespace Mk
open PySem PySem.Spec PyProof.Rows L2

/-- where a tree stands -/
structure Stc where
  N : List Str
  sc : Scope
  fn : Str → Bool
  top : Bool
  calm : Bool
/-- the module's names -/
structure Tb where
  nm : Nat → Option Str
  gl : List (Str × PyData)
  cl : Nat → Option Str
  ex : List (Str × List Nat)
/-- built-ins that are not hidden -/
def bltN : List Str := ["len", "abs", "int", "str", "tuple", "list", "all", "any", "sorted", "max", "min", "sum", "isinstance", "range", "enumerate", "zip", "bool", "repr", "set", "ValueError"]

def kindIs (st : Stc) (x : Str) (k : NameKind) : Bool := decide (st.sc.names.lookup x = some k)
def okN (x : Str) : Bool := !(x == ("__debug__" : Str)) && !(x == ("__classdict__" : Str))
def visB (st : Stc) (x : Str) : Bool := (kindIs st x .local || kindIs st x .cell || kindIs st x .free) && okN x
def stoB (st : Stc) (x : Str) : Bool := (kindIs st x .local || kindIs st x .cell && st.fn x) && okN x
def glB (st : Stc) (x : Str) : Bool := kindIs st x .globalImplicit && okN x
def bltB (st : Stc) (x : Str) : Bool := glB st x && bltN.contains x && !(x == ("__name__" : Str))
def slotB (st : Stc) (i : Nat) (x : Str) : Bool := decide (st.N[i]? = some x)
def cstB : PyData → Const → Bool
  | .none, .none => true
  | .bool b, .bool c => b == c
  | .int i, .int j => decide (i = j)
  | .str x, .str y => decide (x = y)
  | _, _ => false
def notSet : Expr → Bool
  | .Set _ _ _ => false
  | _ => true
def plainIx : Expr → Bool
  | .Slice _ _ _ _ => false
  | _ => true
/-- a test by its value's truth -/
def truE : Expr → Bool
  | .UnaryOp .Not _ _ => false
  | .BoolOp _ _ _ => false
  | .IfExp _ _ _ _ => false
  | .Compare _ _ _ _ => false
  | _ => true
def isComp : Expr → Bool
  | .ListComp _ _ _ _ => true
  | .SetComp _ _ _ _ => true
  | .DictComp _ _ _ _ _ => true
  | _ => false
def linesB (a c : Pos) : Bool := a.endLine == c.line
/-- a built-in's name, and what it is -/
def bltF : Blt → Option (Bool × String)
  | .len => some (true, "len") | .abs => some (true, "abs") | .all => some (true, "all") | .any => some (true, "any") | .sorted => some (true, "sorted")
  | .max1 => some (true, "max") | .max2 => some (true, "max") | .min1 => some (true, "min") | .min2 => some (true, "min") | .sum => some (true, "sum") | .repr => some (true, "repr")
  | .int => some (false, "int") | .str => some (false, "str") | .tuple => some (false, "tuple") | .list => some (false, "list")
  | _ => none
def mthF : Blt → Option String
  | .split => some "split" | .part => some "partition" | .join => some "join" | .index => some "index"
  | _ => none

structure Chk where
  e : Stc → Expr → Bool := fun _ _ => false
  f : Stc → Expr → Bool := fun _ _ => false
  b : Stc → Expr → Bool := fun _ _ => false
  es : Stc → List Expr → Bool := fun _ _ => false
  it : Stc → Expr → Expr → Bool := fun _ _ _ => false
  po : Stc → Option Expr → Bool := fun _ _ => false
  pt : Stc → Expr → Bool := fun _ _ => false
  pts : Stc → List Expr → Bool := fun _ _ => false
  s : Stc → Stmt → Bool := fun _ _ => false
  ss : Stc → List Stmt → Bool := fun _ _ => false
def poOf (e : Stc → Expr → Bool) (st : Stc) : Option Expr → Bool
  | some x => e st x
  | none => false
def deC (e : Stc → Expr → Bool) : Chk := { e := e, b := fun st x => truE x && e st x, it := fun st _ x => e st x, po := poOf e }
def deF (f : Stc → Expr → Bool) : Chk := { deC f with f := f }

/-- the scope of a comprehension's block -/
def inB (st : Stc) (scope : Scope) : Stc := { st with sc := relS scope st.sc, fn := fun x => scope.names.lookup x == some .cell, top := false }
def blkB (N : List Str) (sc scope : Scope) (own : List Nat) : Bool :=
  decide (scope.kind = .function) && scope.names.all (fun y => decide (scope.names.lookup y.1 = some y.2)) && own.all (fun i => (N[i]?).isSome)
  && scope.names.all (fun y => !decide (y.2 = .free) || decide (sc.names.lookup y.1 = some .cell) || decide (sc.names.lookup y.1 = some .free))
  && scope.names.all (fun y => !(decide (y.2 = .local) || decide (y.2 = .cell)) || own.any (fun i => decide (N[i]? = some y.1)) || !N.contains y.1)
def ownOf (N : List Str) (own : List Nat) : List (Str × Nat) := own.map fun i => (N.getD i "", i)
/-- a, b = .. that is stored from the left: some target is no plain local name -/
def cellB (st : Stc) (l : List Expr) (e : Expr) : Bool := match e with
  | .Tuple _ _ _ => l.any fun t => match t with
    | .Name x _ => !kindIs st x .local
    | _ => true
  | _ => true
/-- name = [..]: stored within -/
def swapB (st : Stc) (scope : Scope) (x : Str) : Bool := kindIs st x .local && !(scope.names.any fun (n, k) => n == x && (k == .local || k == .cell))
/-- how a comprehension is stored: within, or behind it (a captured name) -/
def swpB (st : Stc) (scope : Scope) (x : Str) (a b : Nat) : Bool := swapB st scope x && (a == b) || !kindIs st x .local && stoB st x
def ifsB (c : Stc → Expr → Bool) (n : Bool) (st : Stc) : List Expr → Bool
  | [] => n
  | [x] => !n && c st x
  | _ => false
def isNil : T → Bool
  | .nil => true
  | _ => false
def namesB (vs : List Expr) : Bool := !(vs.all (foldedForSure 8)) && !(vs.all (constantsAlone 8)) && vs.all plainE

def Xe.uses : Xe → Bool
  | .fld => true
  | .cat a b => a.uses || b.uses
  | .not a => a.uses
  | .and a b => a.uses || b.uses
  | .ite k a b => k.uses || a.uses || b.uses
  | .tup a b => a.uses || b.uses
  | _ => false
/-- tests of the caught exception's class -/
def Xe.tests : Xe → Bool
  | .isE _ => true
  | .isV => true
  | .cat a b => a.tests || b.tests
  | .not a => a.tests
  | .and a b => a.tests || b.tests
  | .ite k a b => k.tests || a.tests || b.tests
  | .tup a b => a.tests || b.tests
  | _ => false
def Xe.isB : Xe → Bool
  | .isE _ => true
  | .isV => true
  | .not a => a.isB
  | .and a b => a.isB && b.isB
  | _ => false
def nmB (st : Stc) (nm : Option Str) (n : Str) : Bool := decide (nm = some n) && kindIs st n .local && okN n
def xeB (tb : Tb) (st : Stc) (nm : Option Str) (fn : Str) : Xe → Expr → Bool
  | .str s, .Constant (.str t) _ _ => decide (s = t)
  | .cat a b, .BinOp x .Add y _ => xeB tb st nm fn a x && xeB tb st nm fn b y
  | .fld, .Attribute (.Name n _) f _ => nmB st nm n && decide (f = fn)
  | .isE cs, .Call (.Name f _) [.Name n _, .Name x _] [] _ => decide (f = "isinstance") && bltB st "isinstance" && nmB st nm n && glB st x && decide (tb.ex.lookup x = some cs)
  | .isV, .Call (.Name f _) [.Name n _, .Name x _] [] _ => decide (f = "isinstance") && bltB st "isinstance" && nmB st nm n && decide (x = "ValueError") && bltB st "ValueError"
  | .not a, .UnaryOp .Not x _ => a.isB && xeB tb st nm fn a x
  | .and a b, .BoolOp .And [x, y] _ => a.isB && b.isB && xeB tb st nm fn a x && xeB tb st nm fn b y
  | .and a b, .BoolOp .And (x :: y :: z :: r) p => a.isB && b.isB && xeB tb st nm fn a x && xeB tb st nm fn b (.BoolOp .And (y :: z :: r) p)
  | _, _ => false
/-- what is handed back as a whole -/
def xrB (tb : Tb) (st : Stc) (nm : Option Str) (fn : Str) : Xe → Expr → Bool
  | .ite k a b, .IfExp c x y _ => k.isB && xeB tb st nm fn k c && xrB tb st nm fn a x && xrB tb st nm fn b y
  | .tup a b, .Tuple [x, y] _ _ => plainE x && plainE y && xeB tb st nm fn a x && xeB tb st nm fn b y
  | x, e => xeB tb st nm fn x e
def hdF (h : Hd) : Str := ((h.cs.head?).bind fieldN).getD ""
def hdB (tb : Tb) (st : Stc) (h : Hd) : ExceptHandler → Bool
  | .ExceptHandler (some (.Name x _)) nm [.Return (some e) _] _ => glB st x && decide (tb.ex.lookup x = some h.cs) && (match nm, h.slot with
      | none, none => true
      | some n, some i => slotB st i n && kindIs st n .local
      | _, _ => false) && xrB tb st nm (hdF h) h.x e && (!h.x.tests || h.slot.isSome) && (!h.x.uses || h.slot.isSome && h.cs.all fun c => decide (fieldN c = some (hdF h)))
  | _ => false
def hdsB (tb : Tb) (st : Stc) : List Hd → List ExceptHandler → Bool
  | [], [] => true
  | h :: r, e :: es => hdB tb st h e && hdsB tb st r es
  | _, _ => false

section
variable (tb : Tb)
/-- the clauses of a comprehension: the outer place, the inner -/
def chk : T → Chk
  | .nil => { es := fun _ l => l.isEmpty, pts := fun _ l => l.isEmpty, po := fun _ o => o.isNone, ss := fun _ l => l.isEmpty }
  | .cons a b =>
    { es := fun st l => match l with
        | e :: r => plainE e && (chk a).e st e && (chk b).es st r
        | [] => false,
      pts := fun st l => match l with
        | e :: r => plainE e && (chk a).pt st e && (chk b).pts st r
        | [] => false,
      ss := fun st l => match l with
        | e :: r => (chk a).s st e && (chk b).ss st r
        | [] => false }
  | .cst d => deC fun _ e => match e with
    | .Constant c _ _ => cstB d c
    | _ => false
  | .glo i => deC fun st e => match e with
    | .Name x _ => glB st x && decide ((tb.gl[i]?).map (·.1) = some x)
    | _ => false
  | .fnv f => deC fun st e => match e with
    | .Name x _ => glB st x && st.calm && decide (tb.nm f = some x)
    | _ => false
  | .var i => { deC (fun st e => match e with
      | .Name x _ => visB st x && slotB st i x
      | _ => false) with pt := fun st e => match e with
      | .Name x _ => stoB st x && slotB st i x
      | _ => false }
  | .bin op a b => deF fun st e => match e with
    | .BinOp x o y _ => decide (o = opOf op) && (chk a).e st x && (chk b).e st y
    | _ => false
  | .cmp op a b => { deC (fun st e => match e with
      | .Compare x [o] [y] _ => decide (o = copOf op) && !behindInMarks (copOf op) y && (chk a).e st x && (chk b).e st y
      | _ => false) with b := fun st e => match e with
      | .Compare x [o] [y] _ => decide (o = copOf op) && !behindInMarks (copOf op) y && (chk a).e st x && (chk b).e st y
      | _ => false }
  | .chn p q a b c => { deC (fun st e => match e with
      | .Compare x [o1, o2] [y, z] _ => decide (o1 = copOf p) && decide (o2 = copOf q) && !lastMarks [copOf p, copOf q] [y, z] && (chk a).e st x && (chk b).e st y && (chk c).e st z
      | _ => false) with b := fun st e => match e with
      | .Compare x [o1, o2] [y, z] _ => decide (o1 = copOf p) && decide (o2 = copOf q) && !lastMarks [copOf p, copOf q] [y, z] && (chk a).e st x && (chk b).e st y && (chk c).e st z
      | _ => false }
  | .neg a => deC fun st e => match e with
    | .UnaryOp .USub x _ => (chk a).e st x
    | _ => false
  | .inv a => deC fun st e => match e with
    | .UnaryOp .Invert x _ => (chk a).e st x
    | _ => false
  | .not a => { deC (fun st e => match e with
      | .UnaryOp .Not x _ => (chk a).e st x
      | _ => false) with b := fun st e => match e with
      | .UnaryOp .Not x _ => (chk a).b st x
      | _ => false }
  | .and a b => { deC (fun st e => match e with
      | .BoolOp .And [x, y] _ => (chk a).e st x && (chk b).e st y
      | .BoolOp .And (x :: y :: z :: r) p => (chk a).e st x && (chk b).e st (.BoolOp .And (y :: z :: r) p)
      | _ => false) with b := fun st e => match e with
      | .BoolOp .And [x, y] _ => (chk a).b st x && (chk b).b st y
      | .BoolOp .And (x :: y :: z :: r) p => (chk a).b st x && (chk b).b st (.BoolOp .And (y :: z :: r) p)
      | _ => false }
  | .or a b => { deC (fun st e => match e with
      | .BoolOp .Or [x, y] _ => (chk a).e st x && (chk b).e st y
      | .BoolOp .Or (x :: y :: z :: r) p => (chk a).e st x && (chk b).e st (.BoolOp .Or (y :: z :: r) p)
      | _ => false) with b := fun st e => match e with
      | .BoolOp .Or [x, y] _ => (chk a).b st x && (chk b).b st y
      | .BoolOp .Or (x :: y :: z :: r) p => (chk a).b st x && (chk b).b st (.BoolOp .Or (y :: z :: r) p)
      | _ => false }
  | .ife c a b => { deC (fun st e => match e with
      | .IfExp x y z _ => (chk c).b st x && (chk a).e st y && (chk b).e st z
      | _ => false) with b := fun st e => match e with
      | .IfExp x y z _ => (chk c).b st x && (chk a).b st y && (chk b).b st z
      | _ => false }
  | .tup es => { deC (fun st e => match e with
      | .Tuple l _ _ => (chk es).es st l
      | _ => false) with pt := fun st e => match e with
      | .Tuple l _ _ => st.calm && (chk es).pts st l
      | _ => false }
  | .lst es => deF fun st e => match e with
    | .List l _ => (chk es).es st l
    | _ => false
  | .thaw a => { deC (fun st e => (chk a).f st e) with it := fun st _ e => (chk a).e st e }
  | .dct t .nil => deC fun _ e => match e with
    | .Dict [] [] _ => !t
    | _ => false
  | .dct t (.cons k (.cons v .nil)) => deC fun st e => match e with
    | .Dict [some x] [y] _ => !t && (chk k).e st x && (chk v).e st y
    | _ => false
  | .dct t (.cons k (.cons v (.cons k2 (.cons v2 .nil)))) => deC fun st e => match e with
    | .Dict [some x, some x2] [y, y2] _ => !t && (chk k).e st x && (chk v).e st y && (chk k2).e st x2 && (chk v2).e st y2
    | _ => false
  | .dct t (.cons k (.cons v (.cons k2 (.cons v2 (.cons k3 (.cons v3 .nil)))))) => deC fun st e => match e with
    | .Dict [some x, some x2, some x3] [y, y2, y3] _ => !t && (chk k).e st x && (chk v).e st y && (chk k2).e st x2 && (chk v2).e st y2 && (chk k3).e st x3 && (chk v3).e st y3
    | _ => false
  | .dct t (.cons k (.cons v (.cons k2 (.cons v2 (.cons k3 (.cons v3 (.cons k4 (.cons v4 .nil)))))))) => deC fun st e => match e with
    | .Dict [some x, some x2, some x3, some x4] [y, y2, y3, y4] _ => !t && (chk k).e st x && (chk v).e st y && (chk k2).e st x2 && (chk v2).e st y2 && (chk k3).e st x3 && (chk v3).e st y3 && (chk k4).e st x4 && (chk v4).e st y4
    | _ => false
  | .dct _ _ => {}
  | .call f es => deC fun st e => match e with
    | .Call (.Name x _) [] [] _ => glB st x && st.calm && decide (tb.nm f = some x) && isNil es
    | .Call (.Name x _) (a :: l) [] _ => glB st x && st.calm && decide (tb.nm f = some x) && (a :: l).all plainE && (chk es).es st (a :: l)
    | _ => false
  | .callv g es => deC fun st e => match e with
    | .Call h (a :: l) [] _ => st.calm && (match h with | .Attribute _ _ _ => false | .Name x _ => visB st x | _ => true) && (chk g).e st h && (a :: l).all plainE && (chk es).es st (a :: l)
    | _ => false
  | .blt (.isi t) (.cons a .nil) => deF fun st e => match e with
    | .Call (.Name x _) [y, .Name z _] [] _ => decide (x = "isinstance") && bltB st "isinstance" && decide (z = Str.ofString (tyN t)) && bltB st (Str.ofString (tyN t)) && plainE y && (chk a).e st y
    | _ => false
  | .blt .range1 (.cons a .nil) => deF fun st e => match e with
    | .Call (.Name x _) [.Call (.Name y _) [z] [] _] [] _ => decide (x = "list") && decide (y = "range") && bltB st "list" && bltB st "range" && st.calm && plainE z && (chk a).e st z
    | _ => false
  | .blt .range2 (.cons a (.cons b .nil)) => deF fun st e => match e with
    | .Call (.Name x _) [.Call (.Name y _) [z, z2] [] _] [] _ => decide (x = "list") && decide (y = "range") && bltB st "list" && bltB st "range" && st.calm && plainE z && plainE z2 && (chk a).e st z && (chk b).e st z2
    | _ => false
  | .blt .lenset (.cons a .nil) => deF fun st e => match e with
    | .Call (.Name x _) [.Call (.Name y _) [z] [] _] [] _ => decide (x = "len") && decide (y = "set") && bltB st "len" && bltB st "set" && st.calm && plainE z && (chk a).e st z
    | _ => false
  | .blt .sortset (.cons a .nil) => deF fun st e => match e with
    | .Call (.Name x _) [.Call (.Name y _) [z] [] _] [] _ => decide (x = "sorted") && decide (y = "set") && bltB st "sorted" && bltB st "set" && st.calm && plainE z && (chk a).e st z
    | _ => false
  | .blt b es => deF fun st e => match e, bltF b with
    | .Call (.Name x _) (a :: l) [] _, some (_, n) => decide (x = Str.ofString n) && bltB st (Str.ofString n) && st.calm && (a :: l).all plainE && (chk es).es st (a :: l)
    | _, _ => false
  | .mth .get1 o (.cons a .nil) => deC fun st e => match e with
    | .Call (.Attribute ob nm ap) [x] [] cp => decide (nm = "get") && noBase ob && plainE x && linesB ap cp && (chk o).e st ob && (chk a).e st x
    | _ => false
  | .mth b o es => deF fun st e => match e, mthF b with
    | .Call (.Attribute ob nm ap) (a :: l) [] cp, some n => decide (nm = Str.ofString n) && noBase ob && (a :: l).all plainE && decide ((a :: l).length < 30) && linesB ap cp && (chk o).e st ob && (chk es).es st (a :: l)
    | _, _ => false
  | .pop o es => deC fun st e => match e with
    | .Call (.Attribute ob nm ap) [] [] cp => decide (nm = "pop") && noBase ob && linesB ap cp && (chk o).e st ob && isNil es
    | .Call (.Attribute ob nm ap) (a :: l) [] cp => decide (nm = "pop") && noBase ob && (a :: l).all plainE && decide ((a :: l).length < 30) && linesB ap cp && (chk o).e st ob && (chk es).es st (a :: l)
    | _ => false
  | .sub a i => deC fun st e => match e with
    | .Subscript x y _ => plainIx y && (chk a).e st x && (chk i).e st y
    | _ => false
  | .slc a lo hi => deF fun st e => match e with
    | .Subscript x (.Slice l h none _) _ => (chk a).e st x && (chk lo).po st l && (chk hi).po st h
    | _ => false
  | .rev a => deF fun st e => match e with
    | .Subscript x (.Slice none none (some (.UnaryOp .USub (.Constant (.int 1) _ _) _)) _) _ => (chk a).e st x
    | _ => false
  | .comp own (.gen p it c .nil) elt => deF fun st e => match e with
    | .ListComp el [⟨tg, iter, ifs, 0⟩] scope _ => st.calm && blkB st.N st.sc scope own && (slotsT p).all (own.contains ·) && notSet iter && (chk it).it st tg iter && (chk p).pt (inB st scope) tg && ifsB (chk c).b (isNil c) (inB st scope) ifs && (chk elt).e (inB st scope) el
    | _ => false
  | .comp own (.gen p it c (.gen p2 it2 c2 .nil)) elt => deF fun st e => match e with
    | .ListComp el [⟨tg, iter, ifs, 0⟩, ⟨tg2, iter2, ifs2, 0⟩] scope _ => st.calm && blkB st.N st.sc scope own && (slotsT p).all (own.contains ·) && notSet iter && (chk it).it st tg iter && (chk p).pt (inB st scope) tg && ifsB (chk c).b (isNil c) (inB st scope) ifs && (chk elt).e (inB st scope) el && (slotsT p2).all (own.contains ·) && notSet iter2 && (chk it2).it (inB st scope) tg2 iter2 && (chk p2).pt (inB st scope) tg2 && ifsB (chk c2).b (isNil c2) (inB st scope) ifs2
    | _ => false
  | .comp _ _ _ => {}
  | .gen _ _ _ _ => {}
  | .enum a => { it := fun st tg e => match tg, e with
      | .Tuple _ _ _, .Call (.Name x _) [y] [] _ => decide (x = "enumerate") && bltB st "enumerate" && plainE y && (chk a).e st y
      | _, _ => false }
  | .zip a b => { it := fun st tg e => match tg, e with
      | .Tuple _ _ _, .Call (.Name x _) [y, z] [] _ => decide (x = "zip") && bltB st "zip" && plainE y && plainE z && (chk a).e st y && (chk b).e st z
      | _, _ => false }
  | .rng a b => { it := fun st _ e => match e with
      | .Call (.Name x _) [y] [] _ => decide (x = "range") && bltB st "range" && plainE y && (match a with | .cst (.int 0) => true | _ => false) && (chk b).e st y
      | .Call (.Name x _) [y, z] [] _ => decide (x = "range") && bltB st "range" && plainE y && plainE z && (chk a).e st y && (chk b).e st z
      | _ => false }
  | .pass => { s := fun _ s => match s with
      | .Pass _ => true
      | _ => false }
  | .brk => { s := fun _ s => match s with
      | .Break _ => true
      | _ => false }
  | .cnt => { s := fun _ s => match s with
      | .Continue _ => true
      | _ => false }
  | .retN => { s := fun _ s => match s with
      | .Return none _ => true
      | _ => false }
  | .ret a => { s := fun st s => match s with
      | .Return (some e) _ => (chk a).e st e
      | _ => false }
  | .expr a => { s := fun st s => match s with
      | .Expr e _ => !isComp e && (chk a).e st e
      | _ => false }
  | .mutm m o a => { s := fun st s => match s with
      | .Expr (.Call (.Attribute ob nm ap) [x] [] cp) _ => (match m with | .append => decide (nm = "append") | .extend => decide (nm = "extend") | .remove => decide (nm = "remove")) && noBase ob && plainE x && linesB ap cp && (chk o).e st ob && (chk a).e st x
      | _ => false }
  | .if_ c a b => { s := fun st s => match s with
      | .If x y z _ => (chk c).b st x && (chk a).ss st y && (chk b).ss st z
      | _ => false }
  | .while_ c b => { s := fun st s => match s with
      | .While x y [] _ => (chk c).b st x && (chk b).ss st y
      | _ => false }
  | .for_ p it b => { s := fun st s => match s with
      | .For tg iter y [] _ => st.calm && notSet iter && (chk it).it st tg iter && (chk p).pt st tg && (chk b).ss st y
      | _ => false }
  | .asg (.var i) (.thaw (.comp own (.gen p it c .nil) elt)) => { s := fun st s => match s with
      | .Assign [.Name x np] (.ListComp el [⟨tg, iter, ifs, 0⟩] scope cp) sp => slotB st i x && swpB st scope x np.line cp.line && st.calm && blkB st.N st.sc scope own && (slotsT p).all (own.contains ·) && notSet iter && (chk it).it st tg iter && (chk p).pt (inB st scope) tg && ifsB (chk c).b (isNil c) (inB st scope) ifs && (chk elt).e (inB st scope) el
      | _ => false }
  | .asg (.var i) (.comp own (.gen p it c .nil) elt) => { s := fun st s => match s with
      | .Assign [.Name x np] (.ListComp el [⟨tg, iter, ifs, 0⟩] scope cp) sp => slotB st i x && swpB st scope x np.line cp.line && st.calm && blkB st.N st.sc scope own && (slotsT p).all (own.contains ·) && notSet iter && (chk it).it st tg iter && (chk p).pt (inB st scope) tg && ifsB (chk c).b (isNil c) (inB st scope) ifs && (chk elt).e (inB st scope) el
      | _ => false }
  | .asg (.var i) (.thaw (.comp own (.gen p it c (.gen p2 it2 c2 .nil)) elt)) => { s := fun st s => match s with
      | .Assign [.Name x np] (.ListComp el [⟨tg, iter, ifs, 0⟩, ⟨tg2, iter2, ifs2, 0⟩] scope cp) sp => slotB st i x && swpB st scope x np.line cp.line && st.calm && blkB st.N st.sc scope own && (slotsT p).all (own.contains ·) && notSet iter && (chk it).it st tg iter && (chk p).pt (inB st scope) tg && ifsB (chk c).b (isNil c) (inB st scope) ifs && (chk elt).e (inB st scope) el && (slotsT p2).all (own.contains ·) && notSet iter2 && (chk it2).it (inB st scope) tg2 iter2 && (chk p2).pt (inB st scope) tg2 && ifsB (chk c2).b (isNil c2) (inB st scope) ifs2
      | _ => false }
  | .asg (.var i) (.comp own (.gen p it c (.gen p2 it2 c2 .nil)) elt) => { s := fun st s => match s with
      | .Assign [.Name x np] (.ListComp el [⟨tg, iter, ifs, 0⟩, ⟨tg2, iter2, ifs2, 0⟩] scope cp) sp => slotB st i x && swpB st scope x np.line cp.line && st.calm && blkB st.N st.sc scope own && (slotsT p).all (own.contains ·) && notSet iter && (chk it).it st tg iter && (chk p).pt (inB st scope) tg && ifsB (chk c).b (isNil c) (inB st scope) ifs && (chk elt).e (inB st scope) el && (slotsT p2).all (own.contains ·) && notSet iter2 && (chk it2).it (inB st scope) tg2 iter2 && (chk p2).pt (inB st scope) tg2 && ifsB (chk c2).b (isNil c2) (inB st scope) ifs2
      | _ => false }
  | .asg p a => { s := fun st s => match s with
      | .Assign [.Name x np] e sp => !isComp e && (chk p).pt st (.Name x np) && (chk a).e st e
      | .Assign [.Tuple l k tp] e sp => cellB st l e && (chk p).pt st (.Tuple l k tp) && (chk a).e st e
      | _ => false }
  | .par (.cons (.var i) (.cons (.var j) .nil)) es => { s := fun st s => match s with
      | .Assign [.Tuple [.Name x px, .Name y py] _ _] (.Tuple [a, b] _ _) _ => st.calm && slotB st i x && slotB st j y && !(i == j) && !decide (x = y) && kindIs st x .local && kindIs st y .local && (px.line == py.line) && namesB [a, b] && (chk es).es st [a, b]
      | _ => false }
  | .par (.cons (.var i) (.cons (.var j) (.cons (.var l) .nil))) es => { s := fun st s => match s with
      | .Assign [.Tuple [.Name x px, .Name y py, .Name z pz] _ _] (.Tuple [a, b, c] _ _) _ => st.calm && slotB st i x && slotB st j y && slotB st l z && !(i == j) && !(i == l) && !(j == l) && !decide (x = y) && !decide (x = z) && !decide (y = z) && kindIs st x .local && kindIs st y .local && kindIs st z .local && (px.line == py.line) && (px.line == pz.line) && namesB [a, b, c] && (chk es).es st [a, b, c]
      | _ => false }
  | .par _ _ => {}
  | .aug i op a => { s := fun st s => match s with
      | .AugAssign (.Name x _) .Add e _ => decide (op = .add) && stoB st x && slotB st i x && (chk a).e st e
      | _ => false }
  | .set o i a => { s := fun st s => match s with
      | .Assign [.Subscript x y _] e _ => !isComp e && plainIx y && (chk o).e st x && (chk i).e st y && (chk a).e st e
      | _ => false }
  | .augset o i op a => { s := fun st s => match s with
      | .AugAssign (.Subscript x y _) .Add e _ => decide (op = .add) && plainIx y && (chk o).e st x && (chk i).e st y && (chk a).e st e
      | _ => false }
  | .raise_ c es => { s := fun st s => match s with
      | .Raise (some (.Call (.Name x _) (a :: l) [] _)) none _ => st.calm && glB st x && decide (tb.cl c = some x) && (decide (fieldN c = none) || l.isEmpty) && (a :: l).all plainE && (chk es).es st (a :: l)
      | _ => false }
  | .try_ b cs h => { s := fun st s => match s with
      | .Try body [.ExceptHandler (some (.Name x _)) none (b0 :: suite) _] [] [] _ => st.top && st.calm && glB st x && decide (tb.ex.lookup x = some cs) && (chk b).ss st body && (chk h).ss { st with calm := false } (b0 :: suite)
      | _ => false }
  | .sets2 o i o2 i2 a => { s := fun st s => match s with
      | .Assign [.Tuple [.Subscript x y q, .Subscript x2 y2 q2] k tp] e _ => !isComp e && st.calm && cellB st [.Subscript x y q, .Subscript x2 y2 q2] e && plainIx y && plainIx y2 && (chk o).e st x && (chk i).e st y && (chk o2).e st x2 && (chk i2).e st y2 && (chk a).e st e
      | _ => false }
  | .sets4 o i o2 i2 o3 i3 o4 i4 a => { s := fun st s => match s with
      | .Assign [.Tuple [.Subscript x y q, .Subscript x2 y2 q2, .Subscript x3 y3 q3, .Subscript x4 y4 q4] k tp] e _ => !isComp e && st.calm && cellB st [.Subscript x y q, .Subscript x2 y2 q2, .Subscript x3 y3 q3, .Subscript x4 y4 q4] e && plainIx y && plainIx y2 && plainIx y3 && plainIx y4 && (chk o).e st x && (chk i).e st y && (chk o2).e st x2 && (chk i2).e st y2 && (chk o3).e st x3 && (chk i3).e st y3 && (chk o4).e st x4 && (chk i4).e st y4 && (chk a).e st e
      | _ => false }
  | .tryx b hs => { s := fun st s => match s with
      | .Try body (h0 :: hds) [] [] _ => st.top && st.calm && (chk b).ss st body && hdsB tb st hs (h0 :: hds)
      | _ => false }
end
end Mk

set_option Elab.async false
set_option linter.all false
set_option maxRecDepth 100000
set_option maxHeartbeats 4000000
/-! MkXi: isinstance of a caught exception that may have a dict. -/
namespace Mk
open PySem PySem.Spec PyProof.Rows L2
/-- a data descriptor of the class comes first, whatever the dict holds -/
theorem found_data {K : PySem.W.Frag} {C : Addr} {od : Option Obj} {y : Str} {at_ get_ : Value} (h1 : (PySem.W.clsIn K C).isSome = true) (h2 : PySem.W.findIn K (.ref C) y = some (some at_)) (h3 : PySem.W.specialIn K at_ "__get__" = some (some get_)) (h4 : PySem.W.takesIn K at_ = some true) :
    PySem.W.findObj K C od y = some (.bind get_ at_) := by
  cases e : PySem.W.clsIn K C with
  | none => rw [e] at h1; cases h1
  | some c => simp [PySem.W.findObj, e, h2, h3, h4]
section
variable {prog : Program} {w : World} {A : Around} {E : Value → Shared → Prop} {s : Shared} {K : PySem.W.Frag} {x D : Addr} {ox : Obj} {od : Option Obj}
theorem class_of_exc {Q : Option Value → Shared → Prop} (c : ExcC K D) (hK : K.In s.heap) (J : PySem.W.InstAt s.heap x ox D od) (hq : Q (some (.ref D)) { s with toks := s.toks + 1 }) : wpAny (model prog w) A (getAttr? (.ref x) "__class__") Q E s := by
  have hfo : PySem.W.findObj K D od "__class__" = some (.bind (.builtin "getset_descriptor.__get__") (.builtin "object.__class__")) := found_data (by obtain ⟨cd, e, _⟩ := PySem.W.any_some c.hd; rw [e]; rfl) c.ha c.hn c.ht
  obtain ⟨hp, g, d, t, os⟩ := s
  have ty := J.type (M := model prog w)
  have lg := PySem.W.looks_findIn (M := model prog w) hK c.hg
  have lk := PySem.W.looks_findIn (M := model prog w) hK c.hk
  have lf := PySem.W.looks_find (M := model prog w) hK J hfo
  have isb : PySem.W.Looks (model prog w) hp (isInstance (.ref x) (.type "BaseException")) true := ty.andThen (PySem.W.looks_subIn hK c.hs)
  have ne1 : (Value.builtin "BaseException.__getattribute__" == Value.builtin "object.__getattribute__") = false := by decide +kernel
  have ne2 : (onTheHeap (Value.ref D) && Value.builtin "BaseException.__getattribute__" == Value.builtin "object.__getattribute__") = false := by rw [ne1]; rfl
  unfold getAttr? getAttrBy? getAttrBy
  refine wpAny_bind (wpAny_mkText (wpAny_bind (wpAny_attempt (wpAny_holding (wpAny_bind (ty.at (wpAny_bind (lg.at ?_))))))))
  show wpAny _ _ (if (onTheHeap (Value.ref D) && Value.builtin "BaseException.__getattribute__" == Value.builtin "object.__getattribute__") = true then _ else _) _ _ _
  rw [if_neg (by rw [ne2]; exact Bool.false_ne_true)]
  unfold getAttrByItsOwn hookBefore
  refine wpAny_bind ?_
  have onD : onTheHeap (Value.ref D) = true := rfl
  rw [if_pos onD]
  refine lk.at ?_
  refine wpAny_bind (wpAny_attempt (wpAny_holding ?_))
  unfold callGetattribute
  have noB : (false && onTheHeap (Value.builtin "BaseException.__getattribute__")) = false := rfl
  rw [noB, if_neg Bool.false_ne_true]
  unfold boundAndCalled
  rw [PySem.F.excAttr_ValueError.ga.bind (.ref x)]
  refine wpAny_bind (wpAny_pure ?_)
  show wpAny _ _ (call (.builtin "BaseException.__getattribute__") [.ref x, .str "__class__" t]) _ _ _
  refine wpAny_call (codeAny_call_builtin PySem.F.excAttr_ValueError.ga.plain PySem.F.entry_bexc_ga ?_)
  refine @PySem.W.check_slot (model prog w) _ _ ⟨hp, g, d, t + 1, os⟩ "BaseException.__getattribute__" "BaseException" "__getattribute__" (.ref x) [.str "__class__" t] [] _ (by decide +kernel) (by decide +kernel) isb (PySem.F.args_bexc_ga (.ref x) (.str "__class__" t)) ?_
  unfold Builtin.«object.__getattribute__»
  refine wpAny_bind (wpAny_of_eq (a := ((Value.ref x : Value), [Value.str "__class__" t])) (by first | rfl | (simp only [slotArgs]; rfl)) ?_)
  refine wpAny_bind (wpAny_pure (wpAny_bind (ty.at (wpAny_bind (lf.at ?_)))))
  show wpAny _ _ (holding [Value.builtin "object.__class__"] (call (.builtin "getset_descriptor.__get__") [.builtin "object.__class__", .ref x, .ref D]) >>= ret) _ _ _
  refine wpAny_bind (wpAny_holding (wpAny_call (PySem.W.class_get (s := ⟨hp, g, d, t + 1, os⟩) (ox := ox) (od := od) hK J c.hm ?_)))
  refine wpAny_pure ?_
  show wpAny _ _ (handedOut (.ref D)) _ _ _
  rw [PySem.W.handedOut_of (v := .ref D) rfl]
  first
    | exact wpAny_pure (wpAny_pure hq)
    | exact wpAny_pure hq
    | exact wpAny_pure (wpAny_bind (wpAny_pure (wpAny_pure hq)))
theorem kit_exc (c : ExcC K D) : PySem.W.KitX K (.ref x) (.ref D) (fun h => PySem.W.InstAt h x ox D od) where
  ty := fun _ _ _ J => J.type
  it := fun _ _ hK _ => by
    obtain ⟨cd, e, _⟩ := PySem.W.any_some c.hd
    unfold PySem.W.clsIn at e
    split at e
    · rename_i o1 o2 o3 o4 ho
      intro A' Q' E' s' k q
      unfold isType loadHead
      exact wpAny_bind (wpAny_loadPart (k _ _ (hK _ _ ho)) (wpAny_pure q))
    · cases e
  ne := fun h tp dd its n sl hK ht => by
    obtain ⟨cd, e, _⟩ := PySem.W.any_some c.hd
    refine Bool.eq_false_iff.mpr fun q => ?_
    have e2 : D = tp := Value.ref.inj (beq_iff_eq.mp q)
    subst e2
    unfold PySem.W.clsIn at e
    split at e
    · rename_i o1 o2 o3 o4 ho
      cases (hK _ _ ho).symm.trans ht
    · cases e
  ca := fun hK J q => class_of_exc c hK J q
end
/-- isinstance(e, c), e the exception that the suite holds; d its dict -/
def rIsEd (K : PySem.W.Frag) (D a : Addr) (d : Option Addr) : List V → Hp → VK → Prop := fun xs H Q => ∃ (c : V) (cv : Value) (b : Bool), xs = [.ref a, c] ∧ (∀ u, RelV c u → u = cv) ∧ PySem.W.kitOne K (.ref D) cv = some b ∧ (d = none ∨ ∃ dd fs, d = some dd ∧ H dd = some (.xd fs)) ∧ Q (.bl b) H
theorem call_isEd {X : Cx} {a D : Addr} {oe : Obj} {d : Option Addr} {pn : List (Addr × Obj)} (C : ExcC X.K D) (hz : Zc (.ref D) d oe) (hf : ∃ vs, oe.data = .fields vs) : CallR (X.suite a ((a, oe) :: pn)) (.builtin "isinstance") (rIsEd X.K D a d) := by
  intro pins s σ H xs us Q I r h
  obtain ⟨c, cv, b, rfl, hcv, e, hd, q⟩ := h
  obtain ⟨u1, u2, rfl, r1, r2⟩ := vals2 r
  obtain rfl : u1 = Value.ref a := r1
  obtain rfl := hcv _ r2
  obtain ⟨hget, _⟩ := I.pin (a, oe) (List.mem_append.mpr (.inl List.mem_cons_self))
  obtain ⟨vs, hv⟩ := hf
  have hJ : ∃ od, PySem.W.InstAt s.heap a oe D od := by
    rcases hd with rfl | ⟨dd, fs, rfl, hdd⟩
    · refine ⟨none, ?_⟩
      obtain ⟨oc, odd, oda, osl⟩ := oe
      obtain ⟨h1, h2⟩ := hz
      dsimp only at h1 h2 hv
      subst h1 h2 hv
      exact ⟨hget, rfl, rfl, trivial⟩
    · have hx : ObjOk X.prog X.w H s.heap dd (.xd fs) := I.hok dd _ hdd
      obtain ⟨mA, hns, hr⟩ := hx
      obtain ⟨od, ho, hl⟩ := lookIn_ns hns
      exact ⟨some od, hget, hz.1, by unfold PySem.W.notCls; rw [hv] <;> rfl, by rw [hz.2]; exact ho⟩
  obtain ⟨od, J⟩ := hJ
  exact PySem.W.kia_one (kit_exc (od := od) C) I.kIn J e (fun z => nomatch z) fun tk => ⟨.bl b, H, I.kept (t' := tk) fun _ _ z => z, rfl, q⟩
end Mk

set_option Elab.async false
set_option linter.all false
set_option maxRecDepth 100000
set_option maxHeartbeats 2000000
namespace Mk
open PySem PySem.Spec PyProof.Rows L2
/-! ### what a handler hands back -/
/-- what must stand for the field to be read -/
def XfAt (K : PySem.W.Frag) (a : Addr) (cls : Value) (d : Option Addr) (i : Nat) (fn : Str) (f : PyData) (σ : St) (H : Hp) : Prop :=
  σ[i]? = some (some (.ref a)) ∧ ∃ C dd, cls = .ref C ∧ XfC K C ∧ PySem.W.findIn K (.ref C) fn = some none ∧ d = some dd ∧ H dd = some (.xd [(fn, scaV f)])
/-- .. for its class to be asked -/
def XtAt (X : Cx) (tb : Tb) (a : Addr) (cls : Value) (d : Option Addr) (i : Nat) (c : Exc) (σ : St) (H : Hp) : Prop :=
  σ[i]? = some (some (.ref a)) ∧ ∃ C, cls = .ref C ∧ ExcC X.K C ∧ PySem.W.kitOne X.K (.ref C) (.type "ValueError") = some true ∧ (∀ x cs, tb.ex.lookup x = some cs → ∃ a', X.mg x = some (.ref a') ∧ PySem.W.kitOne X.K (.ref C) (.ref a') = some (cs.contains c.cls)) ∧ (d = none ∨ ∃ dd fs, d = some dd ∧ H dd = some (.xd fs))
/-- the reading: a the caught exception, cls its class, d its dict, i the slot of its name, fn the field -/
def XAt (X : Cx) (tb : Tb) (a : Addr) (cls : Value) (d : Option Addr) (i : Nat) (fn : Str) (x : Xe) (c : Exc) (σ : St) (H : Hp) : Prop := (x.uses = true → XfAt X.K a cls d i fn c.fld σ H) ∧ (x.tests = true → XtAt X tb a cls d i c σ H)
theorem isB_bool {c : Exc} : ∀ {x : Xe} {r : PyData}, x.isB = true → xev c x = some r → ∃ b, r = .bool b
  | .isE _, _, _, h => ⟨_, (Option.some.inj h).symm⟩
  | .isV, _, _, h => ⟨_, (Option.some.inj h).symm⟩
  | .not a, _, hb, h => by
    unfold xev at h
    split at h
    · exact ⟨_, (Option.some.inj h).symm⟩
    · cases h
  | .and a b, _, hb, h => by
    have hb : (a.isB && b.isB) = true := hb
    rw [Bool.and_eq_true] at hb
    unfold xev at h
    split at h
    · exact isB_bool hb.2 h
    · exact ⟨_, (Option.some.inj h).symm⟩
    · cases h
  | .str _, _, hb, _ => by cases hb
  | .fld, _, hb, _ => by cases hb
  | .cat _ _, _, hb, _ => by cases hb
  | .ite _ _ _, _, hb, _ => by cases hb
  | .tup _ _, _, hb, _ => by cases hb
section
variable {tb : Tb} {X : Cx} {st : Stc} {a : Addr} {oe : Obj} {cls : Value} {d : Option Addr} {pn : List (Addr × Obj)} {i : Nat} {nm : Option Str} {fn : Str}
theorem XAt.left {x y z : Xe} {c : Exc} {σ : St} {H : Hp} (h : XAt X tb a cls d i fn z c σ H) (hu : x.uses = true → z.uses = true) (ht : x.tests = true → z.tests = true) : XAt X tb a cls d i fn x c σ H := ⟨fun q => h.1 (hu q), fun q => h.2 (ht q)⟩
theorem xe_ok (hsc : X.env.scope = st.sc) (hN : ∀ n, nm = some n → X.N[i]? = some n) (hgl : ∀ x, glB st x = true → Gl X x ∧ (x == ("__debug__" : Str)) = false) (hbl : ∀ x, bltB st x = true → X.mg x = none) (hz : Zc cls d oe) (hf : ∃ vs, oe.data = .fields vs) :
    ∀ (x : Xe) (e : Expr), xeB tb st nm fn x e = true → PE (X.suite a ((a, oe) :: pn)) e (fun σ H Q => ∃ c r, XAt X tb a cls d i fn x c σ H ∧ xev c x = some r ∧ Q (scaV r) H)
  | .str s, e, h => by
    cases e <;> first | (simp [xeB] at h; done) | skip
    rename_i cst k p
    cases cst <;> first | (simp [xeB] at h; done) | skip
    rename_i t
    have e : s = t := by simpa [xeB] using h
    subst e
    exact PE.mono pe_str fun σ H Q ⟨f, r, _, hr, q⟩ => by
      obtain rfl : PyData.str s = r := Option.some.inj hr
      exact q
  | .fld, e, h => by
    cases e <;> first | (simp [xeB] at h; done) | skip
    rename_i b f' p
    cases b <;> first | (simp [xeB] at h; done) | skip
    rename_i n np
    unfold xeB nmB at h
    simp only [Bool.and_eq_true, decide_eq_true_eq] at h
    obtain ⟨⟨⟨h1, h3⟩, h4⟩, h2⟩ := h
    subst h2
    refine ⟨fun pins s σ H Q I ⟨c, r, hu, hr, q⟩ => ?_⟩
    obtain ⟨hσ, C, dd, rfl, T, hno, rfl, hd⟩ := hu.1 rfl
    unfold xev at hr
    split at hr
    · obtain rfl : c.fld = r := Option.some.inj hr
      unfold okN at h4
      simp only [Bool.and_eq_true, Bool.not_eq_true'] at h4
      have hv : Vis X.env.scope n := .inl (by rw [hsc]; exact of_decide_eq_true h3)
      refine (pe_xf T hno hz hf (pe_var (X := X.suite a ((a, oe) :: pn)) (i := i) (hN n h1) hv h4.1 h4.2)).run pins s σ H Q I ⟨.ref a, hσ, rfl, rfl, dd, [(f', scaV c.fld)], scaV c.fld, rfl, hd, by simp, q⟩
    · cases hr
  | .cat x y, e, h => by
    cases e <;> first | (simp [xeB] at h; done) | skip
    rename_i l op r p
    cases op <;> first | (simp [xeB] at h; done) | skip
    unfold xeB at h
    rw [Bool.and_eq_true] at h
    refine PE.mono (pe_op op_add_str (xe_ok hsc hN hgl hbl hz hf x l h.1) (xe_ok hsc hN hgl hbl hz hf y r h.2)) fun σ H Q ⟨f, d', hu, hr, q⟩ => ?_
    unfold xev at hr
    split at hr
    · rename_i s t h1 h2
      split at hr
      · rename_i hl
        obtain rfl := Option.some.inj hr
        refine ⟨f, .str s, hu.left (y := x) (fun z => by simp [Xe.uses, z]) (fun z => by simp [Xe.tests, z]), h1, f, .str t, hu.left (y := x) (fun z => by simp [Xe.uses, z]) (fun z => by simp [Xe.tests, z]), h2, s, t, rfl, rfl, lenOk_le hl, q⟩
      · cases hr
    · cases hr
  | .isE cs, e, h => by
    unfold xeB at h
    split at h <;> first | (cases h; done) | (rename_i e1; cases e1; done) | skip
    rename_i cs' f p n np x xp pos e1
    cases e1
    unfold nmB at h
    simp only [Bool.and_eq_true, decide_eq_true_eq] at h
    obtain ⟨⟨⟨⟨rfl, h1⟩, ⟨h2, h3⟩, h4⟩, h5⟩, h6⟩ := h
    unfold okN at h4
    simp only [Bool.and_eq_true, Bool.not_eq_true'] at h4
    have hv : Vis X.env.scope n := .inl (by rw [hsc]; exact of_decide_eq_true h3)
    refine ⟨fun pins s σ H Q I ⟨c, r, hu, hr, q⟩ => ?_⟩
    obtain ⟨hσ, C, rfl, T, hve, hex, hd⟩ := hu.2 rfl
    obtain rfl := Option.some.inj hr
    obtain ⟨a', g1, g2⟩ := hex x cs h6
    have hi : glB st "isinstance" = true := by
      unfold bltB at h1
      simp only [Bool.and_eq_true] at h1
      exact h1.1.1
    exact (pe_callB (X := X.suite a ((a, oe) :: pn)) (call_isEd T hz hf) (hgl _ hi).1 (hbl _ h1) (by first | rfl | decide +kernel | kernel_rfl)
      (pa_cons (pe_var (X := X.suite a ((a, oe) :: pn)) (i := i) (hN n h2) hv h4.1 h4.2) (pa_cons (pe_glob (X := X.suite a ((a, oe) :: pn)) (v := .ref a') (hgl x h5).1 g1 rfl (hgl x h5).2) pa_nil))).run pins s σ H Q I
      ⟨.ref a, hσ, .ref a', .ref a', _, rfl, fun u z => z, g2, hd, q⟩
  | .isV, e, h => by
    unfold xeB at h
    split at h <;> first | (cases h; done) | (rename_i e1; cases e1; done) | skip
    rename_i f p n np x xp pos e1
    unfold nmB at h
    simp only [Bool.and_eq_true, decide_eq_true_eq] at h
    obtain ⟨⟨⟨⟨rfl, h1⟩, ⟨h2, h3⟩, h4⟩, rfl⟩, h6⟩ := h
    unfold okN at h4
    simp only [Bool.and_eq_true, Bool.not_eq_true'] at h4
    have hv : Vis X.env.scope n := .inl (by rw [hsc]; exact of_decide_eq_true h3)
    refine ⟨fun pins s σ H Q I ⟨c, r, hu, hr, q⟩ => ?_⟩
    obtain ⟨hσ, C, rfl, T, hve, hex, hd⟩ := hu.2 rfl
    obtain rfl := Option.some.inj hr
    have hi : ∀ {x}, bltB st x = true → glB st x = true := fun {x} h1 => by
      unfold bltB at h1
      simp only [Bool.and_eq_true] at h1
      exact h1.1.1
    exact (pe_callB (X := X.suite a ((a, oe) :: pn)) (call_isEd T hz hf) (hgl _ (hi h1)).1 (hbl _ h1) (by first | rfl | decide +kernel | kernel_rfl)
      (pa_cons (pe_var (X := X.suite a ((a, oe) :: pn)) (i := i) (hN n h2) hv h4.1 h4.2) (pa_cons (pe_bltn (X := X.suite a ((a, oe) :: pn)) (v := .ty "ValueError") (hgl _ (hi h6)).1 (hbl _ h6) (by first | rfl | decide +kernel | kernel_rfl) rfl (by decide) (by decide)) pa_nil))).run pins s σ H Q I
      ⟨.ref a, hσ, .ty "ValueError", .type "ValueError", _, rfl, fun u z => z, hve, hd, q⟩
  | .not x, e, h => by
    cases e <;> first | (simp [xeB] at h; done) | skip
    rename_i op y p
    cases op <;> first | (simp [xeB] at h; done) | skip
    unfold xeB at h
    rw [Bool.and_eq_true] at h
    refine PE.mono (pe_not (xe_ok hsc hN hgl hbl hz hf x y h.2)) fun σ H Q ⟨c, r, hu, hr, q⟩ => ?_
    unfold xev at hr
    split at hr
    · rename_i b h1
      obtain rfl := Option.some.inj hr
      exact ⟨c, _, hu.left (y := x) (fun z => z) (fun z => z), h1, b, rfl, q⟩
    · cases hr
  | .and x y, e, h => by
    cases e <;> first | (simp [xeB] at h; done) | skip
    rename_i op l p
    cases op <;> first | (simp [xeB] at h; done) | skip
    match l, h with
    | [], h => simp [xeB] at h
    | [u], h => simp [xeB] at h
    | [u, v], h =>
      unfold xeB at h
      simp only [Bool.and_eq_true] at h
      refine PE.mono (pe_and (xe_ok hsc hN hgl hbl hz hf x u h.1.2) (pe_one (xe_ok hsc hN hgl hbl hz hf y v h.2))) fun σ H Q ⟨c, r, hu, hr, q⟩ => ?_
      have l1 := hu.left (x := x) (y := x) (fun z => by simp [Xe.uses, z]) (fun z => by simp [Xe.tests, z])
      have l2 := hu.left (x := y) (y := x) (fun z => by simp [Xe.uses, z]) (fun z => by simp [Xe.tests, z])
      unfold xev at hr
      split at hr
      · rename_i h1
        exact ⟨c, _, l1, h1, true, rfl, c, r, l2, hr, q⟩
      · rename_i h1
        obtain rfl := Option.some.inj hr
        exact ⟨c, _, l1, h1, false, rfl, q⟩
      · cases hr
    | u :: v :: w :: t, h =>
      unfold xeB at h
      simp only [Bool.and_eq_true] at h
      refine PE.mono (pe_and (xe_ok hsc hN hgl hbl hz hf x u h.1.2) (xe_ok hsc hN hgl hbl hz hf y _ h.2)) fun σ H Q ⟨c, r, hu, hr, q⟩ => ?_
      have l1 := hu.left (x := x) (y := x) (fun z => by simp [Xe.uses, z]) (fun z => by simp [Xe.tests, z])
      have l2 := hu.left (x := y) (y := x) (fun z => by simp [Xe.uses, z]) (fun z => by simp [Xe.tests, z])
      unfold xev at hr
      split at hr
      · rename_i h1
        exact ⟨c, _, l1, h1, true, rfl, c, r, l2, hr, q⟩
      · rename_i h1
        obtain rfl := Option.some.inj hr
        exact ⟨c, _, l1, h1, false, rfl, q⟩
      · cases hr
  | .ite _ _ _, e, h => by simp [xeB] at h
  | .tup _ _, e, h => by simp [xeB] at h
/-- as a test -/
theorem xt_ok (hsc : X.env.scope = st.sc) (hN : ∀ n, nm = some n → X.N[i]? = some n) (hgl : ∀ x, glB st x = true → Gl X x ∧ (x == ("__debug__" : Str)) = false) (hbl : ∀ x, bltB st x = true → X.mg x = none) (hz : Zc cls d oe) (hf : ∃ vs, oe.data = .fields vs) :
    ∀ (x : Xe), x.isB = true → (∀ e, xeB tb st nm fn x e = true → PT (X.suite a ((a, oe) :: pn)) e (fun σ H Q => ∃ c b, XAt X tb a cls d i fn x c σ H ∧ xev c x = some (.bool b) ∧ Q b H)) ∧
      (∀ l p, xeB tb st nm fn x (.BoolOp .And l p) = true → PW (X.suite a ((a, oe) :: pn)) (.BoolOp .And l p) (fun σ H Q => ∃ c b, XAt X tb a cls d i fn x c σ H ∧ xev c x = some (.bool b) ∧ Q b H))
  | .str _, hb => by cases hb
  | .fld, hb => by cases hb
  | .cat _ _, hb => by cases hb
  | .ite _ _ _, hb => by cases hb
  | .tup _ _, hb => by cases hb
  | .isE cs, _ => by
    refine ⟨fun e h => ?_, fun l p h => by simp [xeB] at h⟩
    refine PT.mono (pt_val (xe_ok (X := X) (a := a) (oe := oe) (cls := cls) (d := d) (pn := pn) (i := i) hsc hN hgl hbl hz hf _ e h) ?_) fun σ H Q ⟨c, b, hu, hr, q⟩ => ⟨c, _, hu, hr, b, rfl, q⟩
    cases e <;> first | (simp [xeB] at h; done) | exact fun _ => rfl
  | .isV, _ => by
    refine ⟨fun e h => ?_, fun l p h => by simp [xeB] at h⟩
    refine PT.mono (pt_val (xe_ok (X := X) (a := a) (oe := oe) (cls := cls) (d := d) (pn := pn) (i := i) hsc hN hgl hbl hz hf _ e h) ?_) fun σ H Q ⟨c, b, hu, hr, q⟩ => ⟨c, _, hu, hr, b, rfl, q⟩
    cases e <;> first | (simp [xeB] at h; done) | exact fun _ => rfl
  | .not x, hb => by
    refine ⟨fun e h => ?_, fun l p h => by simp [xeB] at h⟩
    cases e <;> first | (simp [xeB] at h; done) | skip
    rename_i op y p
    cases op <;> first | (simp [xeB] at h; done) | skip
    unfold xeB at h
    rw [Bool.and_eq_true] at h
    refine PT.mono (pt_not ((xt_ok hsc hN hgl hbl hz hf x hb).1 y h.2)) fun σ H Q ⟨c, b, hu, hr, q⟩ => ?_
    unfold xev at hr
    split at hr
    · rename_i b1 h1
      cases hr
      exact ⟨c, b1, hu.left (y := x) (fun z => z) (fun z => z), h1, q⟩
    · cases hr
  | .and x y, hb => by
    have hb : (x.isB && y.isB) = true := hb
    rw [Bool.and_eq_true] at hb
    have key : ∀ l p, xeB tb st nm fn (.and x y) (.BoolOp .And l p) = true → PW (X.suite a ((a, oe) :: pn)) (.BoolOp .And l p) (fun σ H Q => ∃ c b, XAt X tb a cls d i fn (.and x y) c σ H ∧ xev c (.and x y) = some (.bool b) ∧ Q b H) := by
      intro l p h
      have fin : ∀ {tb' : TT} {σ H} {Q : Bool → Hp → Prop} {c : Exc} {b : Bool}, XAt X tb a cls d i fn (.and x y) c σ H → xev c (.and x y) = some (.bool b) → Q b H → ((∃ c b, XAt X tb a cls d i fn y c σ H ∧ xev c y = some (.bool b) ∧ Q b H) → tb' σ H Q) → tAnd (fun σ H Q => ∃ c b, XAt X tb a cls d i fn x c σ H ∧ xev c x = some (.bool b) ∧ Q b H) tb' σ H Q := by
        intro tb' σ H Q c b hu hr q ht
        have l1 := hu.left (x := x) (y := x) (fun z => by simp [Xe.uses, z]) (fun z => by simp [Xe.tests, z])
        have l2 := hu.left (x := y) (y := x) (fun z => by simp [Xe.uses, z]) (fun z => by simp [Xe.tests, z])
        unfold xev at hr
        split at hr
        · rename_i h1
          exact ⟨c, true, l1, h1, ht ⟨c, b, l2, hr, q⟩⟩
        · rename_i h1
          cases hr
          exact ⟨c, false, l1, h1, q⟩
        · cases hr
      match l, h with
      | [], h => simp [xeB] at h
      | [u], h => simp [xeB] at h
      | [u, v], h =>
        unfold xeB at h
        simp only [Bool.and_eq_true] at h
        exact PW.mono (pw_and ((xt_ok hsc hN hgl hbl hz hf x hb.1).1 u h.1.2) (pw_and1 ((xt_ok hsc hN hgl hbl hz hf y hb.2).1 v h.2))) fun σ H Q ⟨c, b, hu, hr, q⟩ => fin hu hr q fun z => z
      | u :: v :: w :: t, h =>
        unfold xeB at h
        simp only [Bool.and_eq_true] at h
        exact PW.mono (pw_and ((xt_ok hsc hN hgl hbl hz hf x hb.1).1 u h.1.2) ((xt_ok hsc hN hgl hbl hz hf y hb.2).2 _ _ h.2)) fun σ H Q ⟨c, b, hu, hr, q⟩ => fin hu hr q fun z => z
    refine ⟨fun e h => ?_, key⟩
    cases e <;> first | (simp [xeB] at h; done) | skip
    rename_i op l p
    cases op <;> first | (simp [xeB] at h; done) | skip
    exact (key l p h).pt
/-- what comes out -/
def ResR (H : Hp) (r : PyData) (v : V) (H' : Hp) : Prop := (isSca r = true ∧ v = scaV r ∧ H' = H) ∨ ∃ x y p, r = .tuple [x, y] ∧ isSca x = true ∧ isSca y = true ∧ H p = none ∧ v = .ref p ∧ H' = upd H p (.tup [scaV x, scaV y])
theorem xeB_sca {c : Exc} : ∀ {x : Xe} {e : Expr} {r : PyData}, xeB tb st nm fn x e = true → xev c x = some r → isSca r = true
  | .str s, _, _, _, h => by cases h; rfl
  | .fld, _, _, _, h => by
    unfold xev at h
    split at h
    · rename_i h1; cases h; exact h1
    · cases h
  | .cat a b, _, _, _, h => by
    unfold xev at h
    split at h
    · split at h
      · cases h; rfl
      · cases h
    · cases h
  | .isE _, _, _, _, h => by cases h; rfl
  | .isV, _, _, _, h => by cases h; rfl
  | .not a, _, _, _, h => by
    unfold xev at h
    split at h
    · cases h; rfl
    · cases h
  | .and a b, e, r, hB, h => by
    have hb : b.isB = true := by
      cases e <;> first | (simp [xeB] at hB; done) | skip
      rename_i op l p
      cases op <;> first | (simp [xeB] at hB; done) | skip
      match l, hB with
      | [], h => simp [xeB] at h
      | [u], h => simp [xeB] at h
      | [u, v], h =>
        unfold xeB at h
        simp only [Bool.and_eq_true] at h
        exact h.1.1.2
      | u :: v :: w :: t, h =>
        unfold xeB at h
        simp only [Bool.and_eq_true] at h
        exact h.1.1.2
    unfold xev at h
    split at h
    · obtain ⟨t, rfl⟩ := isB_bool hb h; rfl
    · cases h; rfl
    · cases h
  | .ite _ _ _, _, _, hB, _ => by simp [xeB] at hB
  | .tup _ _, _, _, hB, _ => by simp [xeB] at hB
theorem xr_ok (hsc : X.env.scope = st.sc) (hN : ∀ n, nm = some n → X.N[i]? = some n) (hgl : ∀ x, glB st x = true → Gl X x ∧ (x == ("__debug__" : Str)) = false) (hbl : ∀ x, bltB st x = true → X.mg x = none) (hz : Zc cls d oe) (hf : ∃ vs, oe.data = .fields vs) :
    ∀ (x : Xe) (e : Expr), xrB tb st nm fn x e = true → PE (X.suite a ((a, oe) :: pn)) e (fun σ H Q => ∃ c r, XAt X tb a cls d i fn x c σ H ∧ xev c x = some r ∧ ∀ v H', ResR H r v H' → Q v H')
  | .ite k x y, e, h => by
    cases e <;> first | (simp [xrB, xeB] at h; done) | skip
    rename_i e1 e2 e3 p
    unfold xrB at h
    simp only [Bool.and_eq_true] at h
    obtain ⟨⟨⟨h1, h2⟩, h3⟩, h4⟩ := h
    refine PE.mono (pe_ifExp ((xt_ok hsc hN hgl hbl hz hf k h1).1 e1 h2) (xr_ok hsc hN hgl hbl hz hf x e2 h3) (xr_ok hsc hN hgl hbl hz hf y e3 h4)) fun σ H Q ⟨c, r, hu, hr, q⟩ => ?_
    have l0 := hu.left (x := k) (y := x) (fun z => by simp [Xe.uses, z]) (fun z => by simp [Xe.tests, z])
    have l1 := hu.left (x := x) (y := x) (fun z => by simp [Xe.uses, z]) (fun z => by simp [Xe.tests, z])
    have l2 := hu.left (x := y) (y := x) (fun z => by simp [Xe.uses, z]) (fun z => by simp [Xe.tests, z])
    unfold xev at hr
    split at hr
    · rename_i z
      exact ⟨c, true, l0, z, c, r, l1, hr, q⟩
    · rename_i z
      exact ⟨c, false, l0, z, c, r, l2, hr, q⟩
    · cases hr
  | .tup x y, e, h => by
    cases e <;> first | (simp [xrB, xeB] at h; done) | skip
    rename_i l k p
    match l, h with
    | [], h => simp [xrB, xeB] at h
    | [u], h => simp [xrB, xeB] at h
    | u :: v :: w :: t, h => simp [xrB, xeB] at h
    | [u, v], h =>
      unfold xrB at h
      simp only [Bool.and_eq_true] at h
      obtain ⟨⟨⟨h1, h2⟩, h3⟩, h4⟩ := h
      refine PE.mono (pe_tup (pa_cons (xe_ok hsc hN hgl hbl hz hf x u h3) (pa_cons (xe_ok hsc hN hgl hbl hz hf y v h4) pa_nil (star_cons h2)) (star_cons h1))) fun σ H Q ⟨c, r, hu, hr, q⟩ => ?_
      have l1 := hu.left (x := x) (y := x) (fun z => by simp [Xe.uses, z]) (fun z => by simp [Xe.tests, z])
      have l2 := hu.left (x := y) (y := x) (fun z => by simp [Xe.uses, z]) (fun z => by simp [Xe.tests, z])
      unfold xev at hr
      split at hr
      · rename_i a1 b1 z1 z2
        split at hr
        · rename_i hs
          rw [Bool.and_eq_true] at hs
          cases hr
          exact ⟨c, a1, l1, z1, c, b1, l2, z2, by rw [sizeLine_eq]; simp, fun p hp => q _ _ (.inr ⟨a1, b1, p, rfl, hs.1, hs.2, hp, rfl, rfl⟩)⟩
        · cases hr
      · cases hr
  | .str s, e, h => PE.mono (xe_ok hsc hN hgl hbl hz hf _ e h) fun σ H Q ⟨c, r, hu, hr, q⟩ => ⟨c, r, hu, hr, q _ _ (.inl ⟨xeB_sca (tb := tb) (st := st) (nm := nm) (fn := fn) h hr, rfl, rfl⟩)⟩
  | .fld, e, h => PE.mono (xe_ok hsc hN hgl hbl hz hf _ e h) fun σ H Q ⟨c, r, hu, hr, q⟩ => ⟨c, r, hu, hr, q _ _ (.inl ⟨xeB_sca (tb := tb) (st := st) (nm := nm) (fn := fn) h hr, rfl, rfl⟩)⟩
  | .cat x y, e, h => PE.mono (xe_ok hsc hN hgl hbl hz hf _ e h) fun σ H Q ⟨c, r, hu, hr, q⟩ => ⟨c, r, hu, hr, q _ _ (.inl ⟨xeB_sca (tb := tb) (st := st) (nm := nm) (fn := fn) h hr, rfl, rfl⟩)⟩
  | .isE cs, e, h => PE.mono (xe_ok hsc hN hgl hbl hz hf _ e h) fun σ H Q ⟨c, r, hu, hr, q⟩ => ⟨c, r, hu, hr, q _ _ (.inl ⟨xeB_sca (tb := tb) (st := st) (nm := nm) (fn := fn) h hr, rfl, rfl⟩)⟩
  | .isV, e, h => PE.mono (xe_ok hsc hN hgl hbl hz hf _ e h) fun σ H Q ⟨c, r, hu, hr, q⟩ => ⟨c, r, hu, hr, q _ _ (.inl ⟨xeB_sca (tb := tb) (st := st) (nm := nm) (fn := fn) h hr, rfl, rfl⟩)⟩
  | .not x, e, h => PE.mono (xe_ok hsc hN hgl hbl hz hf _ e h) fun σ H Q ⟨c, r, hu, hr, q⟩ => ⟨c, r, hu, hr, q _ _ (.inl ⟨xeB_sca (tb := tb) (st := st) (nm := nm) (fn := fn) h hr, rfl, rfl⟩)⟩
  | .and x y, e, h => PE.mono (xe_ok hsc hN hgl hbl hz hf _ e h) fun σ H Q ⟨c, r, hu, hr, q⟩ => ⟨c, r, hu, hr, q _ _ (.inl ⟨xeB_sca (tb := tb) (st := st) (nm := nm) (fn := fn) h hr, rfl, rfl⟩)⟩
end
theorem sca_is {K : PySem.W.Frag} {fa : Fa} {μ : List Addr} {H : Hp} {d : PyData} (h : isSca d = true) : RelD K fa μ H d (scaV d) := by
  cases d <;> first | (cases h; done) | skip
  · exact .non
  · exact .bl _
  · exact .int _
  · exact .str _
section
variable {tb : Tb} {X : Cx} {st : Stc} {fa : Fa} {ca : Nat → Option Addr} {W : WX}
theorem hds_ok (hN : X.N = st.N) (hsc : X.env.scope = st.sc) (hgl : ∀ x, glB st x = true → Gl X x ∧ (x == ("__debug__" : Str)) = false)
    (hex : ∀ (x : Str) (cs : List Nat), tb.ex.lookup x = some cs → ∃ cv, X.mg x = some cv ∧ ∀ c a, ca c = some a → PySem.W.exmOne X.K (.ref a) cv = some (cs.contains c))
    (hxf : ∀ (c : Nat) (a : Addr) (fn : Str), ca c = some a → fieldN c = some fn → XfC X.K a ∧ PySem.W.findIn X.K (.ref a) fn = some none)
    (hbl : ∀ x, bltB st x = true → X.mg x = none) (hix : ∀ (c : Nat) (a : Addr), ca c = some a → ExcC X.K a ∧ PySem.W.kitOne X.K (.ref a) (.type "ValueError") = some true ∧ ∀ x cs, tb.ex.lookup x = some cs → ∃ a', X.mg x = some (.ref a') ∧ PySem.W.kitOne X.K (.ref a) (.ref a') = some (cs.contains c)) :
    ∀ (hs : List Hd) (hds : List ExceptHandler), hdsB tb st hs hds = true → ∃ l, HdsA X hds l ∧ ∀ (D : Ends) (c : Exc) (ρ1 : Env) (S1 : Store) (μ μ' : List Addr) (σ' : St) (H H' : Hp) (cls : Value) (dx : Option Addr),
      Ext fa μ H μ' H' → SW X.K fa μ' ρ1 S1 σ' H' → ExR ca c cls dx H' → PostS (cfx X fa ca) W D μ H (hdR hs c ρ1 S1) → wManyA X.K W D l cls dx σ' H'
  | [], [], _ => ⟨[], .nil, fun D c ρ1 S1 μ μ' σ' H H' cls dx e sw x hp => hp cls dx μ' σ' H' e sw x⟩
  | [], _ :: _, h => by simp [hdsB] at h
  | _ :: _, [], h => by simp [hdsB] at h
  | h :: hs, eh :: hds, hB => by
    unfold hdsB at hB
    rw [Bool.and_eq_true] at hB
    obtain ⟨l, hl, ih⟩ := hds_ok hN hsc hgl hex hxf hbl hix hs hds hB.2
    have h1 := hB.1
    unfold hdB at h1
    split at h1
    · rename_i x np nm e rp pos'
      simp only [Bool.and_eq_true, decide_eq_true_eq] at h1
      obtain ⟨⟨⟨⟨⟨g1, g2⟩, g3⟩, g4⟩, g6⟩, g5⟩ := h1
      obtain ⟨cv, q1, q2⟩ := hex x h.cs g2
      obtain ⟨cs, slot, xx⟩ := h
      dsimp only at g2 g3 g4 g5 g6 q2
      obtain ⟨i, hn, hNi⟩ : ∃ i : Nat, ((nm = none ∧ slot = none) ∨ ∃ n j, nm = some n ∧ slot = some j ∧ X.N[j]? = some n ∧ X.env.kindOf n = some .local) ∧ ((∀ n, nm = some n → X.N[i]? = some n) ∧ (∀ j, slot = some j → j = i)) := by
        split at g3
        · exact ⟨0, .inl ⟨rfl, rfl⟩, ⟨fun n z => (by cases z), fun j z => (by cases z)⟩⟩
        · rename_i n j
          simp only [Bool.and_eq_true] at g3
          have e1 : X.N[j]? = some n := by rw [hN]; exact of_decide_eq_true g3.1
          have e2 : X.env.kindOf n = some .local := by
            show X.env.scope.names.lookup n = _
            rw [hsc]; exact of_decide_eq_true g3.2
          exact ⟨j, .inr ⟨n, j, rfl, rfl, e1, e2⟩, ⟨fun n' z => (by cases z; exact e1), fun j' z => (by cases z; rfl)⟩⟩
        · cases g3
      refine ⟨(cv, slot, fun a cls d => tRet (fun σ H Q => ∃ c r, XAt X tb a cls d i (hdF ⟨cs, slot, xx⟩) xx c σ H ∧ xev c xx = some r ∧ ∀ v H', ResR H r v H' → Q v H')) :: l,
        .cons ⟨(hgl x g1).1, (hgl x g1).2, .inl q1⟩ hn (fun a oe cls d pn hz hf => pss_one (ps_ret (xr_ok hsc hNi.1 hgl hbl hz hf xx e g4))) hl, fun D c ρ1 S1 μ μ' σ' H H' cls dx e' sw xr hp => ?_⟩
      obtain ⟨⟨ac, x1, x2⟩, x3⟩ := id xr
      refine ⟨cs.contains c.cls, by rw [x2]; exact q2 c.cls ac x1, fun hy a ha => ?_, fun hno => ?_⟩
      · unfold hdR at hp
        dsimp only at hp
        rw [if_pos hy] at hp
        split at hp
        · rename_i d hd
          split at hp
          · rename_i hsl
            rw [Bool.and_eq_true] at hsl
            have hslot : ∀ {z : Bool}, z = true → (!z || slot.isSome) = true → σ'.length = ρ1.length → ∃ σ2, setA a slot σ' = σ2 ∧ σ2[i]? = some (some (.ref a)) := by
              intro z hz1 hz2 hlen
              rw [hz1] at hz2
              rcases hn with ⟨rfl, rfl⟩ | ⟨n, j, rfl, rfl, e1, e2⟩
              · cases hz2
              · obtain rfl := hNi.2 j rfl
                have hlt : j < ρ1.length := by simpa using hsl.2
                exact ⟨_, rfl, by
                  show (σ'.set j (some (.ref a)))[j]? = _
                  rw [List.getElem?_set_self (by rw [hlen]; exact hlt)]⟩
            refine ⟨c, d, ⟨fun hu => ?_, fun ht => ?_⟩, hd, fun v2 H2 hr => ?_⟩
            · rw [hu] at g5
              simp only [Bool.not_true, Bool.false_or, Bool.and_eq_true, List.all_eq_true, decide_eq_true_eq] at g5
              have hf := g5.2 c.cls (List.contains_iff_mem.mp hy)
              obtain ⟨y1, y2⟩ := hxf c.cls ac _ x1 hf
              rw [hf] at x3
              obtain ⟨dd, z1, z2⟩ := x3
              obtain ⟨σ2, w1, w2⟩ := hslot hu (by rw [hu]; simpa using g5.1) sw.len
              exact ⟨by rw [w1]; exact w2, ac, dd, x2, y1, y2, z1, z2⟩
            · obtain ⟨σ2, w1, w2⟩ := hslot ht (by rw [ht] at g6 ⊢; exact g6) sw.len
              obtain ⟨y1, y2, y3⟩ := hix c.cls ac x1
              refine ⟨by rw [w1]; exact w2, ac, x2, y1, y2, y3, ?_⟩
              cases hfn : fieldN c.cls with
              | none => rw [hfn] at x3; exact .inl x3
              | some fn2 =>
                rw [hfn] at x3
                obtain ⟨dd, z1, z2⟩ := x3
                exact .inr ⟨dd, _, z1, z2⟩
            · have hrel : ∃ μ2, Ext fa μ H μ2 H2 ∧ Wf X.K fa μ2 S1 H2 ∧ RelD X.K fa μ2 H2 d v2 := by
                rcases hr with ⟨s1, rfl, rfl⟩ | ⟨x9, y9, p9, rfl, s1, s2, hn9, rfl, rfl⟩
                · exact ⟨μ', e', sw.wf, sca_is s1⟩
                · exact ⟨μ', e'.trans (Ext.new hn9), sw.wf.new hn9, .tup (SqT.of upd_same) (.cons (sca_is s1) (.cons (sca_is s2) .nil))⟩
              obtain ⟨μ2, r1, r2, r3⟩ := hrel
              have := hp v2 μ2 H2 r1 r2 r3
              cases slot with
              | none => exact this
              | some j => exact this
          · exact hp.elim
        · exact hp.elim
      · unfold hdR at hp
        dsimp only at hp
        rw [if_neg (by rw [hno]; exact Bool.false_ne_true)] at hp
        exact ih D c ρ1 S1 μ μ' σ' H H' cls dx e' sw xr hp
    · cases h1
theorem ok_tryx {b : EvS} {hs : List Hd} {body : List Stmt} {h₀ : ExceptHandler} {hds : List ExceptHandler} {pos : Pos} (hst : X.stack = X.env :: X.outer) (hf : X.env.frame = some X.env.locals) (nd : X.N.Nodup) (hN : X.N = st.N) (hsc : X.env.scope = st.sc) (hgl : ∀ x, glB st x = true → Gl X x ∧ (x == ("__debug__" : Str)) = false)
    (hex : ∀ (x : Str) (cs : List Nat), tb.ex.lookup x = some cs → ∃ cv, X.mg x = some cv ∧ ∀ c a, ca c = some a → PySem.W.exmOne X.K (.ref a) cv = some (cs.contains c))
    (hxf : ∀ (c : Nat) (a : Addr) (fn : Str), ca c = some a → fieldN c = some fn → XfC X.K a ∧ PySem.W.findIn X.K (.ref a) fn = some none)
    (hbl : ∀ x, bltB st x = true → X.mg x = none) (hix : ∀ (c : Nat) (a : Addr), ca c = some a → ExcC X.K a ∧ PySem.W.kitOne X.K (.ref a) (.type "ValueError") = some true ∧ ∀ x cs, tb.ex.lookup x = some cs → ∃ a', X.mg x = some (.ref a') ∧ PySem.W.kitOne X.K (.ref a) (.ref a') = some (cs.contains c)) (hB : hdsB tb st hs (h₀ :: hds) = true) (tk : Takes X W)
    (hb : ∀ (W' : WX) (pn : List (Addr × Obj)) (xe : Value → Shared → Prop), Takes (X.tr pn xe) W' → PassesOwn (model X.prog X.w) X.A X.env xe → PSs (X.tr pn xe) body (rdS (cfx X fa ca) W' b)) :
    PS X (.Try body (h₀ :: hds) [] [] pos) (rdS (cfx X fa ca) W (sTryX b hs)) := by
  obtain ⟨l, hl, q⟩ := hds_ok (tb := tb) (st := st) (fa := fa) (ca := ca) (W := W) hN hsc hgl hex hxf hbl hix hs (h₀ :: hds) hB
  refine PS.mono (ps_try_A hst hf nd tk hb hl) fun D σ H ⟨μ, ρ, S, sw, hp⟩ => ⟨μ, ρ, S, sw, ?_⟩
  unfold sTryX at hp
  cases hb : b ρ S with
  | exc c ρ1 S1 =>
    rw [hb] at hp
    exact fun cls dx μ' σ' H' e sw' x => q D c ρ1 S1 μ μ' σ' H H' cls dx e sw' x hp
  | nx ρ1 S1 => rw [hb] at hp; exact hp
  | rt d S1 => rw [hb] at hp; exact hp
  | bk ρ1 S1 => rw [hb] at hp; exact hp
  | ct ρ1 S1 => rw [hb] at hp; exact hp
  | stuck => rw [hb] at hp; exact hp
end
/-! ### o[i], p[j], .. = e -/
section
variable {X : Cx} {fa : Fa} {ca : Nat → Option Addr} {W : WX}
inductive Tgs (X : Cx) (fa : Fa) (ca : Nat → Option Addr) (W : WX) : List Expr → List (EvE × EvE) → Prop
  | nil : Tgs X fa ca W [] []
  | cons {o i : Expr} {p : Pos} {eo ei : EvE} {es : List Expr} {l : List (EvE × EvE)} (ho : PE X o (rdE (cfx X fa ca) W eo)) (hi : PE X i (rdE (cfx X fa ca) W ei))
      (ha : ∀ v, assign (.Subscript o i p) X.env v = (do
        let ov ← holding [v] (eval o X.env)
        let iv ← holding [v, ov] (eval i X.env)
        standAt p
        holding [v, ov, iv] (setItem ov iv v)
        release [v, ov, iv] [])) (r : Tgs X fa ca W es l) : Tgs X fa ca W (.Subscript o i p :: es) ((eo, ei) :: l)
def rdGo (C : Cf) (W : WX) (l : List (EvE × EvE)) : TGs := fun us σ H Q => ∃ μ ρ S xs, ∃ D : Ends, SW C.K C.fa μ ρ S σ H ∧ RelDs C.K C.fa μ H xs us ∧ (∀ σ H, D.nx σ H → Q σ H) ∧ PostS C W D μ H (sGo l xs ρ S)
theorem ok_go (hu : X.A.units + 1 < cLine) {es : List Expr} {l : List (EvE × EvE)} (h : Tgs X fa ca W es l) : PGs X es (rdGo (cfx X fa ca) W l) := by
  induction h with
  | nil =>
    refine PGs.mono pgs_nil fun us σ H Q ⟨μ, ρ, S, xs, D, sw, r, hD, hp⟩ => ?_
    cases r with
    | nil => exact ⟨rfl, hD _ _ (PostS.here hp sw)⟩
    | cons => exact hp.elim
  | @cons o i p eo ei es l ho hi ha r ih =>
    refine PGs.mono (pgs_cons (pg_sub ho hi (set_any hu) ha) ih rfl) fun us σ H Q ⟨μ, ρ, S, xs, D, sw, r, hD, hp⟩ => ?_
    cases r with
    | nil => exact hp.elim
    | @cons d v ds vs rd rr =>
      refine ⟨v, vs, rfl, μ, ρ, S, sw, PostS.bind sw hp fun d2 S2 x H2 μ2 e2 sw2 r2 p2 => ?_⟩
      refine ⟨μ2, ρ, S2, sw2, PostS.bind sw2 p2 fun d3 S3 y H3 μ3 e3 sw3 r3 p3 => ?_⟩
      cases hS : setD S3 d2 d3 d with
      | none => rw [hS] at p3; exact p3.elim
      | some S4 =>
        rw [hS] at p3
        exact set_ok sw3.wf (r2.ext sw2.wf e3) r3 ((rd.ext sw.wf e2).ext sw2.wf e3) hS fun H' ee w' =>
          ⟨μ3, ρ, S4, ds, D, sw3.ext ee w', ((rr.ext sw.wf e2).ext sw2.wf e3).ext sw3.wf ee, hD, PostS.ext ee p3⟩
theorem ok_sets {es : List Expr} {l : List (EvE × EvE)} {k : Nat} {tp pos : Pos} {e : Expr} {ev : EvE} (hc : X.calm = true) (hu : X.A.units + 1 < cLine) (h : Tgs X fa ca W es l) (he : PE X e (rdE (cfx X fa ca) W ev)) (hn : (assignEach es X.env).length = l.length) (hst : (assignEach es X.env).findIdx? (·.1) = none)
    (hs : swapsWithSole [.Tuple es k tp] e pos.line X.env = pure false) (hw : swappedStores [.Tuple es k tp] e X.env = pure none) : PS X (.Assign [.Tuple es k tp] e pos) (rdS (cfx X fa ca) W (sSets l ev)) := by
  refine PS.mono (ps_asg he (pg_tup hc (ok_go hu h) hn hst) hs hw rfl) fun D σ H ⟨μ, ρ, S, sw, hp⟩ => ⟨μ, ρ, S, sw, PostS.bind sw hp fun d S1 v H1 μ1 e1 sw1 r1 p1 => ?_⟩
  split at p1
  · rename_i xs
    split at p1
    · rename_i hl
      cases r1 with
      | tup hsq rr => exact ⟨_, _, rfl, hsq, by rw [rr.length]; exact hl, μ1, ρ, S1, xs, D, sw1, rr, fun _ _ z => z, p1⟩
    · exact p1.elim
  · exact p1.elim
end
end Mk

set_option Elab.async false
set_option linter.all false
set_option maxRecDepth 100000
set_option maxHeartbeats 1000000
/-! MkD: what has been checked holds. -/
namespace Mk
open PySem PySem.Spec PyProof.Rows L2
structure Good (tb : Tb) (cf : CF) (G : List PyData) (X : Cx) (fa : Fa) (ca : Nat → Option Addr) (k : Nat) (W : WX) (st : Stc) : Prop where
  N : X.N = st.N
  nd : X.N.Nodup
  sc : X.env.scope = st.sc
  fn : ∀ x, st.fn x = true → X.fn x = true
  calm : st.calm = true → X.calm = true
  tab : st.calm = true → Tab X (cfx X fa ca) cf tb.nm k
  un : X.A.units + 70 < cLine
  gd : X.A.guards = some []
  tk : Takes X W
  po : PassesOwn (model X.prog X.w) X.A X.env X.xe
  stk : st.top = true → X.stack = X.env :: X.outer ∧ X.env.frame = some X.env.locals
  kind : X.env.scope.kind = .function
  blt : ∀ x, bltN.contains x = true → X.mg x = none
  gl : ∀ (i : Nat) (x : Str) (d : PyData), tb.gl[i]? = some (x, d) → ∃ v u, X.mg x = some u ∧ RelV v u ∧ ∀ (fb : Fa) (μ : List Addr) (H : Hp), RelD X.K fb μ H d v
  G : G = tb.gl.map (·.2)
  cl : ∀ (c : Nat) (x : Str), tb.cl c = some x → fieldN c = none → ∃ ac bmB B newId initId, ca c = some ac ∧ ExcBaseFacts B newId initId bmB ∧ PySem.W.excIn X.K ac bmB newId = true ∧ X.mg x = some (.ref ac) ∧ PySem.W.keepIn X.K (.ref ac) = true ∧ Raises X (.ref ac)
  lev : 2 ≤ k
  cx : ∀ (c : Nat) (x fld : Str), tb.cl c = some x → fieldN c = some fld → ∃ C fI fd self_ arg, ca c = some C ∧ IniC X.prog X.K C fI fd self_ arg fld ∧ X.mg x = some (.ref C)
  xf : ∀ (c : Nat) (a : Addr) (fn : Str), ca c = some a → fieldN c = some fn → XfC X.K a ∧ PySem.W.findIn X.K (.ref a) fn = some none
  isx : ∀ (c : Nat) (a : Addr), ca c = some a → ExcC X.K a ∧ PySem.W.kitOne X.K (.ref a) (.type "ValueError") = some true ∧ ∀ x cs, tb.ex.lookup x = some cs → ∃ a', X.mg x = some (.ref a') ∧ PySem.W.kitOne X.K (.ref a) (.ref a') = some (cs.contains c)
  ex : ∀ (x : Str) (cs : List Nat), tb.ex.lookup x = some cs → ∃ cv, X.mg x = some cv ∧ ∀ c a, ca c = some a → PySem.W.exmOne X.K (.ref a) cv = some (cs.contains c)
section
variable {tb : Tb} {cf : CF} {G : List PyData} {X : Cx} {fa : Fa} {ca : Nat → Option Addr} {k : Nat} {W : WX} {st : Stc}
theorem Good.look (g : Good tb cf G X fa ca k W st) {x : Str} {kk : NameKind} (h : kindIs st x kk = true) : X.env.scope.names.lookup x = some kk := by
  rw [g.sc]; exact of_decide_eq_true h
theorem Good.glob (g : Good tb cf G X fa ca k W st) {x : Str} (h : glB st x = true) : Gl X x ∧ (x == ("__debug__" : Str)) = false := by
  unfold glB okN at h
  simp only [Bool.and_eq_true, Bool.not_eq_true'] at h
  exact ⟨g.look h.1, h.2.1⟩
theorem Good.vis (g : Good tb cf G X fa ca k W st) {x : Str} (h : visB st x = true) : Vis X.env.scope x ∧ (x == ("__debug__" : Str)) = false ∧ (x == ("__classdict__" : Str)) = false := by
  unfold visB okN at h
  simp only [Bool.and_eq_true, Bool.or_eq_true, Bool.not_eq_true'] at h
  obtain ⟨(h1 | h1) | h1, h2, h3⟩ := h
  · exact ⟨.inl (g.look h1), h2, h3⟩
  · exact ⟨.inr (.inl (g.look h1)), h2, h3⟩
  · exact ⟨.inr (.inr (g.look h1)), h2, h3⟩
theorem Good.sto (g : Good tb cf G X fa ca k W st) {x : Str} (h : stoB st x = true) : Loc X.env.scope x ∧ (X.fn x = true ∨ X.env.scope.names.lookup x = some .local) := by
  unfold stoB okN at h
  simp only [Bool.and_eq_true, Bool.or_eq_true, Bool.not_eq_true'] at h
  obtain ⟨h1 | ⟨h1, h4⟩, h2, h3⟩ := h
  · exact ⟨.inl (g.look h1), .inr (g.look h1)⟩
  · exact ⟨.inr (g.look h1), .inl (g.fn x h4)⟩
theorem Good.slot (g : Good tb cf G X fa ca k W st) {i : Nat} {x : Str} (h : slotB st i x = true) : X.N[i]? = some x := by
  rw [g.N]; exact of_decide_eq_true h
theorem Good.bltn (g : Good tb cf G X fa ca k W st) {x : Str} (h : bltB st x = true) : Gl X x ∧ X.mg x = none ∧ x ≠ "__name__" ∧ (x == ("__debug__" : Str)) = false := by
  unfold bltB at h
  simp only [Bool.and_eq_true, Bool.not_eq_true'] at h
  obtain ⟨⟨h1, h2⟩, h3⟩ := h
  exact ⟨(g.glob h1).1, g.blt x h2, beq_eq_false_iff_ne.mp h3, (g.glob h1).2⟩
theorem Good.blk (g : Good tb cf G X fa ca k W st) (hid : Addr → Prop) {scope : Scope} (hk : scope.kind = .function) (s : Shared) (H : Hp) (C : Addr) (cl : List (Str × Addr)) (fp : List Addr) : Good tb cf G (Mk.blk X scope s H C cl fp) (fa.hide hid) ca k W0 (inB st scope) where
  N := g.N
  nd := g.nd
  sc := by show relS scope X.env.scope = relS scope st.sc; rw [g.sc]
  fn := fun x h => h
  calm := g.calm
  tab := fun h => ⟨(g.tab h).fn, (g.tab h).mg, (g.tab h).room, (g.tab h).gd⟩
  un := g.un
  gd := g.gd
  tk := fun _ _ ⟨_, _, _, _, _, _, _, _, _, _, _, _, _, _, _, _, w⟩ => w.elim
  po := PassesOwn.never
  stk := fun h => by cases h
  kind := by show (relS scope X.env.scope).kind = _; exact hk
  blt := g.blt
  gl := g.gl
  G := g.G
  cl := g.cl
  lev := g.lev
  cx := g.cx
  xf := g.xf
  isx := g.isx
  ex := g.ex
theorem Good.tr (g : Good tb cf G X fa ca k W st) {W' : WX} {pn : List (Addr × Obj)} {xe : Value → Shared → Prop} (tk : Takes (X.tr pn xe) W') (po : PassesOwn (model X.prog X.w) X.A X.env xe) : Good tb cf G (X.tr pn xe) fa ca k W' st where
  N := g.N
  nd := g.nd
  sc := g.sc
  fn := g.fn
  calm := g.calm
  tab := fun h => ⟨(g.tab h).fn, (g.tab h).mg, (g.tab h).room, (g.tab h).gd⟩
  un := g.un
  gd := g.gd
  tk := tk
  po := po
  stk := g.stk
  kind := g.kind
  blt := g.blt
  gl := g.gl
  G := g.G
  cl := g.cl
  lev := g.lev
  cx := g.cx
  xf := g.xf
  isx := g.isx
  ex := g.ex
theorem Good.suite (g : Good tb cf G X fa ca k W st) (a : Addr) (pn : List (Addr × Obj)) : Good tb cf G (X.suite a pn) fa ca k W0 { st with calm := false } where
  N := g.N
  nd := g.nd
  sc := g.sc
  fn := g.fn
  calm := fun h => by cases h
  tab := fun h => by cases h
  un := g.un
  gd := g.gd
  tk := fun _ _ ⟨_, _, _, _, _, _, _, _, _, _, _, _, _, _, _, _, w⟩ => w.elim
  po := PassesOwn.never
  stk := g.stk
  kind := g.kind
  blt := g.blt
  gl := g.gl
  G := g.G
  cl := g.cl
  lev := g.lev
  cx := g.cx
  xf := g.xf
  isx := g.isx
  ex := g.ex
end
/-! ### shapes -/
theorem op_eq {o : Operator} {op : BOp} (h : decide (o = opOf op) = true) : o = opOf op := of_decide_eq_true h
theorem cst_ok {X : Cx} {fa : Fa} {ca : Nat → Option Addr} {W : WX} {d : PyData} {c : Const} {j : Nat} {pos : Pos} (h : cstB d c = true) : PE X (.Constant c j pos) (rdE (cfx X fa ca) W (eCst d)) := by
  unfold cstB at h
  split at h
  · exact ok_none
  · rename_i b c'
    have e : b = c' := by simpa using h
    subst e; exact ok_bool
  · have e := of_decide_eq_true h
    subst e; exact ok_int
  · have e := of_decide_eq_true h
    subst e; exact ok_str
  · cases h
theorem tru_ok {e : Expr} (h : truE e = true) : ∀ {env : PySem.Env} (whole : Sem Value), isTrue e env whole = (do let v ← whole; standAt e.pos; holding [v] (truthy v)) := by
  intro env whole
  unfold truE at h
  split at h
  · cases h
  · cases h
  · cases h
  · cases h
  · rename_i h1 h2 h3 h4
    cases e with
    | UnaryOp op x p =>
      cases op with
      | Not => exact (h1 x p rfl).elim
      | _ => rfl
    | BoolOp a b c => exact (h2 a b c rfl).elim
    | IfExp a b c d => exact (h3 a b c d rfl).elim
    | Compare a b c d => exact (h4 a b c d rfl).elim
    | _ => rfl
theorem set_ok' {e : Expr} (h : notSet e = true) (env : PySem.Env) : ∀ x, foldedSetIterable e env x = pure x := by
  intro x
  unfold foldedSetIterable
  split
  · cases h
  · rfl
theorem ix_ok {e : Expr} (h : plainIx e = true) : PlainIx e := by
  intro o i
  unfold subscripted
  split
  · cases h
  · rename_i h1; cases h1
  · rfl
theorem aug_ok {e : Expr} (h : plainIx e = true) : ∀ ov iv new, augStore e ov iv new = (do holding [new, ov, iv] (setItem ov iv new); release [new, ov, iv] []; pure .next) := by
  intro ov iv new
  unfold augStore
  split
  · cases h
  · rfl
theorem asg_sub (o i : Expr) (p : Pos) (env : PySem.Env) (h : plainIx i = true) : ∀ v, assign (.Subscript o i p) env v = (do
      let ov ← holding [v] (eval o env)
      let iv ← holding [v, ov] (eval i env)
      standAt p
      holding [v, ov, iv] (setItem ov iv v)
      release [v, ov, iv] []) := by
  intro v
  cases i <;> first | rfl | cases h
theorem swap_no {e : Expr} (h : isComp e = false) (t : Option Expr) (n : Nat) (env : PySem.Env) : swapsWith e t n env = pure false := by
  unfold swapsWith
  split
  · rename_i s hs
    split at hs
    · cases h
    · cases h
    · cases h
    · cases hs
  · rfl
theorem asg_cons {e : Expr} {es : List Expr} {env : PySem.Env} (h : plainE e = true) : assignEach (e :: es) env = (false, assign e env) :: assignEach es env := by
  cases e <;> first | rfl | cases h
theorem asg_len : ∀ {es : List Expr} {env : PySem.Env}, es.all plainE = true → (assignEach es env).length = es.length ∧ (assignEach es env).findIdx? (·.1) = none
  | [], _, _ => ⟨rfl, rfl⟩
  | e :: es, env, h => by
    rw [List.all_cons, Bool.and_eq_true] at h
    obtain ⟨h1, h2⟩ := asg_len (env := env) h.2
    rw [asg_cons h.1]
    refine ⟨by rw [List.length_cons, List.length_cons, h1], ?_⟩
    rw [List.findIdx?_cons, if_neg (by simp), h2]; rfl
/-! ### soundness -/
section
variable (tb : Tb) (cf : CF) (wf : Nat) (G : List PyData)
def SE (t : T) : Prop := ∀ (X : Cx) (fa : Fa) (ca : Nat → Option Addr) (k : Nat) (W : WX) (st : Stc), Good tb cf G X fa ca k W st → ∀ e, (chk tb t).e st e = true → PE X e (rdE (cfx X fa ca) W (den cf wf G t).e)
def SF (t : T) : Prop := ∀ (X : Cx) (fa : Fa) (ca : Nat → Option Addr) (k : Nat) (W : WX) (st : Stc), Good tb cf G X fa ca k W st → ∀ e, (chk tb t).f st e = true → PE X e (rdF (cfx X fa ca) W (den cf wf G t).e)
def SB (t : T) : Prop := ∀ (X : Cx) (fa : Fa) (ca : Nat → Option Addr) (k : Nat) (W : WX) (st : Stc), Good tb cf G X fa ca k W st → ∀ e, (chk tb t).b st e = true → PT X e (rdB (cfx X fa ca) W (den cf wf G t).b)
def SEs (t : T) : Prop := ∀ (X : Cx) (fa : Fa) (ca : Nat → Option Addr) (k : Nat) (W : WX) (st : Stc), Good tb cf G X fa ca k W st → ∀ l, (chk tb t).es st l = true → PA X l (rdEs (cfx X fa ca) W (den cf wf G t).es)
def SI (t : T) : Prop := ∀ (X : Cx) (fa : Fa) (ca : Nat → Option Addr) (k : Nat) (W : WX) (st : Stc), Good tb cf G X fa ca k W st → ∀ tg e, (chk tb t).it st tg e = true → PI X tg e (rdI (cfx X fa ca) W (den cf wf G t).it)
def SO (t : T) : Prop := ∀ (X : Cx) (fa : Fa) (ca : Nat → Option Addr) (k : Nat) (W : WX) (st : Stc), Good tb cf G X fa ca k W st → ∀ o, (chk tb t).po st o = true → PO X o (rdP (cfx X fa ca) W (den cf wf G t).p)
def SP' (t : T) : Prop := ∀ (X : Cx) (fa : Fa) (ca : Nat → Option Addr) (k : Nat) (W : WX) (st : Stc), Good tb cf G X fa ca k W st → ∀ e vs, (∀ j ∈ slotsT t, j ∈ vs) → (chk tb t).pt st e = true → PG X e (rdG (cfx X fa ca) vs (den cf wf G t).pt)
def SPs' (t : T) : Prop := ∀ (X : Cx) (fa : Fa) (ca : Nat → Option Addr) (k : Nat) (W : WX) (st : Stc), Good tb cf G X fa ca k W st → ∀ l vs, (∀ j ∈ slotsT t, j ∈ vs) → (chk tb t).pts st l = true → PGs X l (rdGs (cfx X fa ca) vs (den cf wf G t).pts) ∧ Takesn (den cf wf G t).pts l.length ∧ l.all plainE = true
def SS (t : T) : Prop := ∀ (X : Cx) (fa : Fa) (ca : Nat → Option Addr) (k : Nat) (W : WX) (st : Stc), Good tb cf G X fa ca k W st → ∀ s, (chk tb t).s st s = true → PS X s (rdS (cfx X fa ca) W (den cf wf G t).s)
def SSs (t : T) : Prop := ∀ (X : Cx) (fa : Fa) (ca : Nat → Option Addr) (k : Nat) (W : WX) (st : Stc), Good tb cf G X fa ca k W st → ∀ l, (chk tb t).ss st l = true → PSs X l (rdS (cfx X fa ca) W (den cf wf G t).s)
structure Sound0 (t : T) : Prop where
  e : SE tb cf wf G t
  f : SF tb cf wf G t
  b : SB tb cf wf G t
  es : SEs tb cf wf G t
  it : SI tb cf wf G t
  po : SO tb cf wf G t
  pt : SP' tb cf wf G t
  pts : SPs' tb cf wf G t
  s : SS tb cf wf G t
  ss : SSs tb cf wf G t
/-- .. with the parts that are taken apart elsewhere -/
def Sound : T → Prop
  | .cons a b => Sound0 tb cf wf G (.cons a b) ∧ Sound a ∧ Sound b
  | .comp own g elt => Sound0 tb cf wf G (.comp own g elt) ∧ Sound g ∧ Sound elt
  | .gen p it c r => Sound0 tb cf wf G (.gen p it c r) ∧ Sound p ∧ Sound it ∧ Sound c ∧ Sound r
  | .thaw a => Sound0 tb cf wf G (.thaw a) ∧ Sound a
  | t => Sound0 tb cf wf G t
end
section
variable {tb : Tb} {cf : CF} {wf : Nat} {G : List PyData} {t : T}
theorem Sound.to0 (h : Sound tb cf wf G t) : Sound0 tb cf wf G t := by
  cases t <;> first | exact h | exact h.1
theorem sB (he : SE tb cf wf G t) (hb : (chk tb t).b = fun st x => truE x && (chk tb t).e st x) (db : (den cf wf G t).b = bOf (den cf wf G t).e) : SB tb cf wf G t := by
  intro X fa ca k W st g e h
  rw [hb] at h
  have h' : (truE e && (chk tb t).e st e) = true := h
  rw [Bool.and_eq_true] at h'
  rw [db]
  exact ok_truth (fun whole => tru_ok h'.1 whole) (he X fa ca k W st g e h'.2)
theorem sI (he : SE tb cf wf G t) (hb : (chk tb t).it = fun st _ x => (chk tb t).e st x) (db : (den cf wf G t).it = iOf (den cf wf G t).e) : SI tb cf wf G t := by
  intro X fa ca k W st g tg e h
  rw [hb] at h
  rw [db]
  exact ok_iter (he X fa ca k W st g e h)
theorem sO (he : SE tb cf wf G t) (hb : (chk tb t).po = poOf (chk tb t).e) (db : (den cf wf G t).p = pOf (den cf wf G t).e) : SO tb cf wf G t := by
  intro X fa ca k W st g o h
  rw [hb] at h
  rw [db]
  cases o with
  | none => cases h
  | some x => exact po_ok_some (he X fa ca k W st g x h)
theorem sE_of (hf : SF tb cf wf G t) (h : (chk tb t).e = (chk tb t).f) : SE tb cf wf G t := by
  intro X fa ca k W st g e q
  rw [h] at q
  exact PE.ofF (hf X fa ca k W st g e q)
theorem vF (h : (chk tb t).f = fun _ _ => false) : SF tb cf wf G t := fun X fa ca k W st g e q => by rw [h] at q; cases q
theorem vE (h : (chk tb t).e = fun _ _ => false) : SE tb cf wf G t := fun X fa ca k W st g e q => by rw [h] at q; cases q
theorem vB (h : (chk tb t).b = fun _ _ => false) : SB tb cf wf G t := fun X fa ca k W st g e q => by rw [h] at q; cases q
theorem vEs (h : (chk tb t).es = fun _ _ => false) : SEs tb cf wf G t := fun X fa ca k W st g e q => by rw [h] at q; cases q
theorem vI (h : (chk tb t).it = fun _ _ _ => false) : SI tb cf wf G t := fun X fa ca k W st g tg e q => by rw [h] at q; cases q
theorem vO (h : (chk tb t).po = fun _ _ => false) : SO tb cf wf G t := fun X fa ca k W st g e q => by rw [h] at q; cases q
theorem vP (h : (chk tb t).pt = fun _ _ => false) : SP' tb cf wf G t := fun X fa ca k W st g e vs _ q => by rw [h] at q; cases q
theorem vPs (h : (chk tb t).pts = fun _ _ => false) : SPs' tb cf wf G t := fun X fa ca k W st g e vs _ q => by rw [h] at q; cases q
theorem vS (h : (chk tb t).s = fun _ _ => false) : SS tb cf wf G t := fun X fa ca k W st g e q => by rw [h] at q; cases q
theorem vSs (h : (chk tb t).ss = fun _ _ => false) : SSs tb cf wf G t := fun X fa ca k W st g e q => by rw [h] at q; cases q
/-- an expression -/
theorem mkE (he : SE tb cf wf G t) (h1 : (chk tb t).f = fun _ _ => false) (h2 : (chk tb t).b = fun st x => truE x && (chk tb t).e st x) (d2 : (den cf wf G t).b = bOf (den cf wf G t).e) (h3 : (chk tb t).es = fun _ _ => false) (h4 : (chk tb t).it = fun st _ x => (chk tb t).e st x) (d4 : (den cf wf G t).it = iOf (den cf wf G t).e)
    (h5 : (chk tb t).po = poOf (chk tb t).e) (d5 : (den cf wf G t).p = pOf (den cf wf G t).e) (h6 : (chk tb t).pt = fun _ _ => false) (h7 : (chk tb t).pts = fun _ _ => false) (h8 : (chk tb t).s = fun _ _ => false) (h9 : (chk tb t).ss = fun _ _ => false) : Sound0 tb cf wf G t :=
  ⟨he, vF h1, sB he h2 d2, vEs h3, sI he h4 d4, sO he h5 d5, vP h6, vPs h7, vS h8, vSs h9⟩
/-- an expression that makes a list -/
theorem mkF (hf : SF tb cf wf G t) (h1 : (chk tb t).e = (chk tb t).f) (h2 : (chk tb t).b = fun st x => truE x && (chk tb t).e st x) (d2 : (den cf wf G t).b = bOf (den cf wf G t).e) (h3 : (chk tb t).es = fun _ _ => false) (h4 : (chk tb t).it = fun st _ x => (chk tb t).e st x) (d4 : (den cf wf G t).it = iOf (den cf wf G t).e)
    (h5 : (chk tb t).po = poOf (chk tb t).e) (d5 : (den cf wf G t).p = pOf (den cf wf G t).e) (h6 : (chk tb t).pt = fun _ _ => false) (h7 : (chk tb t).pts = fun _ _ => false) (h8 : (chk tb t).s = fun _ _ => false) (h9 : (chk tb t).ss = fun _ _ => false) : Sound0 tb cf wf G t :=
  ⟨sE_of hf h1, hf, sB (sE_of hf h1) h2 d2, vEs h3, sI (sE_of hf h1) h4 d4, sO (sE_of hf h1) h5 d5, vP h6, vPs h7, vS h8, vSs h9⟩
/-- .. with its own test -/
theorem mkB (he : SE tb cf wf G t) (hb : SB tb cf wf G t) (h1 : (chk tb t).f = fun _ _ => false) (h3 : (chk tb t).es = fun _ _ => false) (h4 : (chk tb t).it = fun st _ x => (chk tb t).e st x) (d4 : (den cf wf G t).it = iOf (den cf wf G t).e)
    (h5 : (chk tb t).po = poOf (chk tb t).e) (d5 : (den cf wf G t).p = pOf (den cf wf G t).e) (h6 : (chk tb t).pt = fun _ _ => false) (h7 : (chk tb t).pts = fun _ _ => false) (h8 : (chk tb t).s = fun _ _ => false) (h9 : (chk tb t).ss = fun _ _ => false) : Sound0 tb cf wf G t :=
  ⟨he, vF h1, hb, vEs h3, sI he h4 d4, sO he h5 d5, vP h6, vPs h7, vS h8, vSs h9⟩
/-- a statement -/
theorem mkS (hs : SS tb cf wf G t) (h0 : (chk tb t).e = fun _ _ => false) (h1 : (chk tb t).f = fun _ _ => false) (h2 : (chk tb t).b = fun _ _ => false) (h3 : (chk tb t).es = fun _ _ => false) (h4 : (chk tb t).it = fun _ _ _ => false) (h5 : (chk tb t).po = fun _ _ => false) (h6 : (chk tb t).pt = fun _ _ => false) (h7 : (chk tb t).pts = fun _ _ => false) (h9 : (chk tb t).ss = fun _ _ => false) : Sound0 tb cf wf G t :=
  ⟨vE h0, vF h1, vB h2, vEs h3, vI h4, vO h5, vP h6, vPs h7, hs, vSs h9⟩
/-- a source -/
theorem mkI (hi : SI tb cf wf G t) (h0 : (chk tb t).e = fun _ _ => false) (h1 : (chk tb t).f = fun _ _ => false) (h2 : (chk tb t).b = fun _ _ => false) (h3 : (chk tb t).es = fun _ _ => false) (h5 : (chk tb t).po = fun _ _ => false) (h6 : (chk tb t).pt = fun _ _ => false) (h7 : (chk tb t).pts = fun _ _ => false) (h8 : (chk tb t).s = fun _ _ => false) (h9 : (chk tb t).ss = fun _ _ => false) : Sound0 tb cf wf G t :=
  ⟨vE h0, vF h1, vB h2, vEs h3, hi, vO h5, vP h6, vPs h7, vS h8, vSs h9⟩
end
end Mk

set_option Elab.async false
set_option linter.all false
set_option maxRecDepth 100000
set_option maxHeartbeats 1000000
/-! MkE: soundness, constructor by constructor: expressions. -/
namespace Mk
open PySem PySem.Spec PyProof.Rows L2
section
variable {tb : Tb} {cf : CF} {wf : Nat} {G : List PyData}
theorem un65 {tb : Tb} {cf : CF} {G : List PyData} {X : Cx} {fa : Fa} {ca : Nat → Option Addr} {k : Nat} {W : WX} {st : Stc} (g : Good tb cf G X fa ca k W st) : X.A.units + 65 < cLine := by have := g.un; omega
theorem un1 {tb : Tb} {cf : CF} {G : List PyData} {X : Cx} {fa : Fa} {ca : Nat → Option Addr} {k : Nat} {W : WX} {st : Stc} (g : Good tb cf G X fa ca k W st) : X.A.units + 1 < cLine := by have := g.un; omega
theorem s_nil : (Sound0 tb cf wf G) .nil := by
  refine ⟨vE rfl, vF rfl, vB rfl, fun X fa ca k W st g l h => ?_, vI rfl, fun X fa ca k W st g o h => ?_, vP rfl, fun X fa ca k W st g l vs _ h => ?_, vS rfl, fun X fa ca k W st g l h => ?_⟩
  · cases l with
    | nil => exact oks_nil
    | cons => cases h
  · cases o with
    | none => exact po_ok_none
    | some => cases h
  · cases l with
    | nil => exact ⟨ok_pnil, takes_nil, rfl⟩
    | cons => cases h
  · cases l with
    | nil => exact oks_nilS
    | cons => cases h
theorem s_cons {a b : T} (ha : (Sound0 tb cf wf G) a) (hb : (Sound0 tb cf wf G) b) : (Sound0 tb cf wf G) (.cons a b) := by
  refine ⟨vE rfl, vF rfl, vB rfl, fun X fa ca k W st g l h => ?_, vI rfl, vO rfl, vP rfl, fun X fa ca k W st g l vs hv h => ?_, vS rfl, fun X fa ca k W st g l h => ?_⟩
  · cases l with
    | nil => cases h
    | cons e r =>
      replace h : (plainE e && (chk tb a).e st e && (chk tb b).es st r) = true := h
      simp only [Bool.and_eq_true] at h
      exact oks_cons (star_cons h.1.1) (ha.e X fa ca k W st g e h.1.2) (hb.es X fa ca k W st g r h.2)
  · cases l with
    | nil => cases h
    | cons e r =>
      replace h : (plainE e && (chk tb a).pt st e && (chk tb b).pts st r) = true := h
      simp only [Bool.and_eq_true] at h
      obtain ⟨h1, h2, h3⟩ := hb.pts X fa ca k W st g r vs (fun j hj => hv j (List.mem_append_right _ hj)) h.2
      refine ⟨ok_pcons (ha.pt X fa ca k W st g e vs (fun j hj => hv j (List.mem_append_left _ hj)) h.1.2) h1 (by rw [asg_cons h.1.1]; rfl), ?_, by rw [List.all_cons, h.1.1, h3]; rfl⟩
      exact takes_cons h2
  · cases l with
    | nil => cases h
    | cons e r =>
      replace h : ((chk tb a).s st e && (chk tb b).ss st r) = true := h
      simp only [Bool.and_eq_true] at h
      exact oks_consS (ha.s X fa ca k W st g e h.1) (hb.ss X fa ca k W st g r h.2)
theorem s_cst {d : PyData} : (Sound0 tb cf wf G) (.cst d) := mkE (fun X fa ca k W st g e h => by
  dsimp only [chk, deC] at h
  split at h
  · exact cst_ok h
  · cases h) rfl rfl rfl rfl rfl rfl rfl rfl rfl rfl rfl rfl
theorem s_glo {i : Nat} : (Sound0 tb cf wf G) (.glo i) := mkE (fun X fa ca k W st g e h => by
  dsimp only [chk, deC] at h
  split at h
  · simp only [Bool.and_eq_true, decide_eq_true_eq] at h
    obtain ⟨h1, h2⟩ := h
    obtain ⟨⟨y, d⟩, e1, e2⟩ := Option.map_eq_some_iff.mp h2
    obtain ⟨v, u, q1, q2, q3⟩ := g.gl i y d e1
    simp only at e2
    subst e2
    have hG : G.getD i .none = d := by rw [g.G, List.getD_eq_getElem?_getD, List.getElem?_map, e1]; rfl
    show PE X _ (rdE _ _ (eCst (G.getD i .none)))
    rw [hG]
    exact ok_glo (g.glob h1).1 q1 q2 (fun μ H => q3 fa μ H) (g.glob h1).2
  · cases h) rfl rfl rfl rfl rfl rfl rfl rfl rfl rfl rfl rfl
theorem s_fnv {f : Nat} : (Sound0 tb cf wf G) (.fnv f) := mkE (fun X fa ca k W st g e h => by
  dsimp only [chk, deC] at h
  split at h
  · simp only [Bool.and_eq_true, decide_eq_true_eq] at h
    exact ok_fnv (g.tab h.1.2) h.2 (g.glob h.1.1).1 (g.glob h.1.1).2
  · cases h) rfl rfl rfl rfl rfl rfl rfl rfl rfl rfl rfl rfl
theorem s_var {i : Nat} : (Sound0 tb cf wf G) (.var i) := by
  have he : SE tb cf wf G (.var i) := fun X fa ca k W st g e h => by
    dsimp only [chk, deC] at h
    split at h
    · simp only [Bool.and_eq_true] at h
      obtain ⟨h1, h2, h3⟩ := g.vis h.1
      exact ok_var (g.slot h.2) h1 h2 h3
    · cases h
  refine ⟨he, vF rfl, sB he rfl rfl, vEs rfl, sI he rfl rfl, sO he rfl rfl, fun X fa ca k W st g e vs hv h => ?_, vPs rfl, vS rfl, vSs rfl⟩
  dsimp only [chk] at h
  split at h
  · simp only [Bool.and_eq_true] at h
    obtain ⟨h1, h2⟩ := g.sto h.1
    exact ok_pvar g.nd (g.slot h.2) h1 h2 (hv i (by simp [slotsT]))
  · cases h
theorem s_bin {op : BOp} {a b : T} (ha : (Sound0 tb cf wf G) a) (hb : (Sound0 tb cf wf G) b) : (Sound0 tb cf wf G) (.bin op a b) := mkF (fun X fa ca k W st g e h => by
  dsimp only [chk, deF, deC] at h
  split at h
  · simp only [Bool.and_eq_true, decide_eq_true_eq] at h
    obtain ⟨⟨h1, h2⟩, h3⟩ := h
    subst h1
    exact ok_bin (ha.e X fa ca k W st g _ h2) (hb.e X fa ca k W st g _ h3)
  · cases h) rfl rfl rfl rfl rfl rfl rfl rfl rfl rfl rfl rfl
theorem s_cmp {op : COp} {a b : T} (ha : (Sound0 tb cf wf G) a) (hb : (Sound0 tb cf wf G) b) : (Sound0 tb cf wf G) (.cmp op a b) := mkB (fun X fa ca k W st g e h => by
  dsimp only [chk, deC] at h
  split at h
  · simp only [Bool.and_eq_true, decide_eq_true_eq, Bool.not_eq_true'] at h
    obtain ⟨⟨⟨h1, h2⟩, h3⟩, h4⟩ := h
    subst h1
    exact ok_cmp (un65 g) h2 (ha.e X fa ca k W st g _ h3) (hb.e X fa ca k W st g _ h4)
  · cases h) (fun X fa ca k W st g e h => by
  dsimp only [chk, deC] at h
  split at h
  · simp only [Bool.and_eq_true, decide_eq_true_eq, Bool.not_eq_true'] at h
    obtain ⟨⟨⟨h1, h2⟩, h3⟩, h4⟩ := h
    subst h1
    exact ok_cmpB (un65 g) h2 (ha.e X fa ca k W st g _ h3) (hb.e X fa ca k W st g _ h4)
  · cases h) rfl rfl rfl rfl rfl rfl rfl rfl rfl rfl
theorem s_chn {p q : COp} {a b c : T} (ha : (Sound0 tb cf wf G) a) (hb : (Sound0 tb cf wf G) b) (hc : (Sound0 tb cf wf G) c) : (Sound0 tb cf wf G) (.chn p q a b c) := mkB (fun X fa ca k W st g e h => by
  dsimp only [chk, deC] at h
  split at h
  · simp only [Bool.and_eq_true, decide_eq_true_eq, Bool.not_eq_true'] at h
    obtain ⟨⟨⟨⟨⟨h1, h2⟩, h3⟩, h4⟩, h5⟩, h6⟩ := h
    subst h1 h2
    exact ok_chn (un65 g) h3 (ha.e X fa ca k W st g _ h4) (hb.e X fa ca k W st g _ h5) (hc.e X fa ca k W st g _ h6)
  · cases h) (fun X fa ca k W st g e h => by
  dsimp only [chk, deC] at h
  split at h
  · simp only [Bool.and_eq_true, decide_eq_true_eq, Bool.not_eq_true'] at h
    obtain ⟨⟨⟨⟨⟨h1, h2⟩, h3⟩, h4⟩, h5⟩, h6⟩ := h
    subst h1 h2
    exact ok_chnB (un65 g) h3 (ha.e X fa ca k W st g _ h4) (hb.e X fa ca k W st g _ h5) (hc.e X fa ca k W st g _ h6)
  · cases h) rfl rfl rfl rfl rfl rfl rfl rfl rfl rfl
theorem s_neg {a : T} (ha : (Sound0 tb cf wf G) a) : (Sound0 tb cf wf G) (.neg a) := mkE (fun X fa ca k W st g e h => by
  dsimp only [chk, deC] at h
  split at h
  · exact ok_neg (ha.e X fa ca k W st g _ h)
  · cases h) rfl rfl rfl rfl rfl rfl rfl rfl rfl rfl rfl rfl
theorem s_inv {a : T} (ha : (Sound0 tb cf wf G) a) : (Sound0 tb cf wf G) (.inv a) := mkE (fun X fa ca k W st g e h => by
  dsimp only [chk, deC] at h
  split at h
  · exact ok_inv (ha.e X fa ca k W st g _ h)
  · cases h) rfl rfl rfl rfl rfl rfl rfl rfl rfl rfl rfl rfl
theorem s_not {a : T} (ha : (Sound0 tb cf wf G) a) : (Sound0 tb cf wf G) (.not a) := mkB (fun X fa ca k W st g e h => by
  dsimp only [chk, deC] at h
  split at h
  · exact ok_not (ha.e X fa ca k W st g _ h)
  · cases h) (fun X fa ca k W st g e h => by
  dsimp only [chk, deC] at h
  split at h
  · exact ok_notB (ha.b X fa ca k W st g _ h)
  · cases h) rfl rfl rfl rfl rfl rfl rfl rfl rfl rfl
theorem ptOfW {X : Cx} {e : Expr} {t : TT} (h : PW X e t) : PT X e t := ⟨fun pins s σ H Q I q => h.run _ pins s σ H Q I q⟩
theorem pwOf {X : Cx} {e : Expr} {t : TT} {op : BoolOp} {es : List Expr} {pos : Pos} (he : e = .BoolOp op es pos) (h : PT X e t) : PW X e t := by
  subst he
  exact ⟨fun wh pins s σ H Q I q => h.run pins s σ H Q I q⟩
theorem s_and {a b : T} (ha : (Sound0 tb cf wf G) a) (hb : (Sound0 tb cf wf G) b) : (Sound0 tb cf wf G) (.and a b) := mkB (fun X fa ca k W st g e h => by
  dsimp only [chk, deC] at h
  split at h
  · simp only [Bool.and_eq_true] at h
    exact ok_and (ha.e X fa ca k W st g _ h.1) (pe_one (hb.e X fa ca k W st g _ h.2))
  · simp only [Bool.and_eq_true] at h
    exact ok_and (ha.e X fa ca k W st g _ h.1) (hb.e X fa ca k W st g _ h.2)
  · cases h) (fun X fa ca k W st g e h => by
  dsimp only [chk, deC] at h
  split at h
  · simp only [Bool.and_eq_true] at h
    exact ptOfW (ok_andB (ha.b X fa ca k W st g _ h.1) (pw_and1 (hb.b X fa ca k W st g _ h.2)))
  · simp only [Bool.and_eq_true] at h
    exact ptOfW (ok_andB (ha.b X fa ca k W st g _ h.1) (pwOf rfl (hb.b X fa ca k W st g _ h.2)))
  · cases h) rfl rfl rfl rfl rfl rfl rfl rfl rfl rfl
theorem s_or {a b : T} (ha : (Sound0 tb cf wf G) a) (hb : (Sound0 tb cf wf G) b) : (Sound0 tb cf wf G) (.or a b) := mkB (fun X fa ca k W st g e h => by
  dsimp only [chk, deC] at h
  split at h
  · simp only [Bool.and_eq_true] at h
    exact ok_or (ha.e X fa ca k W st g _ h.1) (pe_one (hb.e X fa ca k W st g _ h.2))
  · simp only [Bool.and_eq_true] at h
    exact ok_or (ha.e X fa ca k W st g _ h.1) (hb.e X fa ca k W st g _ h.2)
  · cases h) (fun X fa ca k W st g e h => by
  dsimp only [chk, deC] at h
  split at h
  · simp only [Bool.and_eq_true] at h
    exact ptOfW (ok_orB (ha.b X fa ca k W st g _ h.1) (pw_or1 (hb.b X fa ca k W st g _ h.2)))
  · simp only [Bool.and_eq_true] at h
    exact ptOfW (ok_orB (ha.b X fa ca k W st g _ h.1) (pwOf rfl (hb.b X fa ca k W st g _ h.2)))
  · cases h) rfl rfl rfl rfl rfl rfl rfl rfl rfl rfl
theorem s_ife {c a b : T} (hc : (Sound0 tb cf wf G) c) (ha : (Sound0 tb cf wf G) a) (hb : (Sound0 tb cf wf G) b) : (Sound0 tb cf wf G) (.ife c a b) := mkB (fun X fa ca k W st g e h => by
  dsimp only [chk, deC] at h
  split at h
  · simp only [Bool.and_eq_true] at h
    exact ok_ife (hc.b X fa ca k W st g _ h.1.1) (ha.e X fa ca k W st g _ h.1.2) (hb.e X fa ca k W st g _ h.2)
  · cases h) (fun X fa ca k W st g e h => by
  dsimp only [chk, deC] at h
  split at h
  · simp only [Bool.and_eq_true] at h
    exact ok_ifeB (hc.b X fa ca k W st g _ h.1.1) (ha.b X fa ca k W st g _ h.1.2) (hb.b X fa ca k W st g _ h.2)
  · cases h) rfl rfl rfl rfl rfl rfl rfl rfl rfl rfl
theorem s_tup {es : T} (hs : (Sound0 tb cf wf G) es) : (Sound0 tb cf wf G) (.tup es) := by
  have he : SE tb cf wf G (.tup es) := fun X fa ca k W st g e h => by
    dsimp only [chk, deC] at h
    split at h
    · exact ok_tup (hs.es X fa ca k W st g _ h)
    · cases h
  refine ⟨he, vF rfl, sB he rfl rfl, vEs rfl, sI he rfl rfl, sO he rfl rfl, fun X fa ca k W st g e vs hv h => ?_, vPs rfl, vS rfl, vSs rfl⟩
  dsimp only [chk] at h
  split at h
  · simp only [Bool.and_eq_true] at h
    obtain ⟨h1, h2, h3⟩ := hs.pts X fa ca k W st g _ vs (fun j hj => hv j hj) h.2
    obtain ⟨h4, h5⟩ := asg_len (env := X.env) h3
    exact ok_ptup (g.calm h.1) h1 h4 h2 h5
  · cases h
theorem s_lst {es : T} (hs : (Sound0 tb cf wf G) es) : (Sound0 tb cf wf G) (.lst es) := mkF (fun X fa ca k W st g e h => by
  dsimp only [chk, deF, deC] at h
  split at h
  · exact ok_lst (hs.es X fa ca k W st g _ h)
  · cases h) rfl rfl rfl rfl rfl rfl rfl rfl rfl rfl rfl rfl
theorem s_thaw {a : T} (ha : (Sound0 tb cf wf G) a) : (Sound0 tb cf wf G) (.thaw a) := by
  have he : SE tb cf wf G (.thaw a) := fun X fa ca k W st g e h => PE.thaw (ha.f X fa ca k W st g e h)
  exact ⟨he, vF rfl, sB he rfl rfl, vEs rfl, fun X fa ca k W st g tg e h => ok_keys (ha.e X fa ca k W st g e h), sO he rfl rfl, vP rfl, vPs rfl, vS rfl, vSs rfl⟩
end
end Mk

set_option Elab.async false
set_option linter.all false
set_option maxRecDepth 100000
set_option maxHeartbeats 1000000
/-! MkE2: soundness, constructor by constructor: calls, built-ins, parts, comprehensions, sources. -/
namespace Mk
open PySem PySem.Spec PyProof.Rows L2
section
variable {tb : Tb} {cf : CF} {wf : Nat} {G : List PyData}
theorem s_dct0 {t : Bool} : (Sound0 tb cf wf G) (.dct t .nil) := mkE (fun X fa ca k W st g e h => by
  dsimp only [chk, deC] at h
  split at h
  · cases t with
    | true => cases h
    | false => exact ok_dct0
  · cases h) rfl rfl rfl rfl rfl rfl rfl rfl rfl rfl rfl rfl
theorem s_dct1 {t : Bool} {a b : T} (ha : (Sound0 tb cf wf G) a) (hb : (Sound0 tb cf wf G) b) : (Sound0 tb cf wf G) (.dct t (.cons a (.cons b .nil))) := mkE (fun X fa ca k W st g e h => by
  dsimp only [chk, deC] at h
  split at h
  · simp only [Bool.and_eq_true] at h
    cases t with
    | true => exact absurd h.1.1 Bool.false_ne_true
    | false =>
      exact ok_dct (ps := [((den cf wf G a).e, (den cf wf G b).e)]) (pps_cons (ha.e X fa ca k W st g _ h.1.2) (hb.e X fa ca k W st g _ h.2) pps_nil) rfl rfl (by simp) (by simp)
  · cases h) rfl rfl rfl rfl rfl rfl rfl rfl rfl rfl rfl rfl
theorem s_dct2 {t : Bool} {a b c d : T} (ha : (Sound0 tb cf wf G) a) (hb : (Sound0 tb cf wf G) b) (hc : (Sound0 tb cf wf G) c) (hd : (Sound0 tb cf wf G) d) : (Sound0 tb cf wf G) (.dct t (.cons a (.cons b (.cons c (.cons d .nil))))) := mkE (fun X fa ca k W st g e h => by
  dsimp only [chk, deC] at h
  split at h
  · simp only [Bool.and_eq_true] at h
    cases t with
    | true => exact absurd h.1.1.1.1 Bool.false_ne_true
    | false =>
      exact ok_dct (ps := [((den cf wf G a).e, (den cf wf G b).e), ((den cf wf G c).e, (den cf wf G d).e)]) (pps_cons (ha.e X fa ca k W st g _ h.1.1.1.2) (hb.e X fa ca k W st g _ h.1.1.2) (pps_cons (hc.e X fa ca k W st g _ h.1.2) (hd.e X fa ca k W st g _ h.2) pps_nil)) rfl rfl (by simp) (by simp)
  · cases h) rfl rfl rfl rfl rfl rfl rfl rfl rfl rfl rfl rfl
theorem s_dct3 {t : Bool} {a b c d m n : T} (ha : (Sound0 tb cf wf G) a) (hb : (Sound0 tb cf wf G) b) (hc : (Sound0 tb cf wf G) c) (hd : (Sound0 tb cf wf G) d) (hm : (Sound0 tb cf wf G) m) (hn : (Sound0 tb cf wf G) n) : (Sound0 tb cf wf G) (.dct t (.cons a (.cons b (.cons c (.cons d (.cons m (.cons n .nil))))))) := mkE (fun X fa ca k W st g e h => by
  dsimp only [chk, deC] at h
  split at h
  · simp only [Bool.and_eq_true] at h
    cases t with
    | true => exact absurd h.1.1.1.1.1.1 Bool.false_ne_true
    | false =>
      exact ok_dct (ps := [((den cf wf G a).e, (den cf wf G b).e), ((den cf wf G c).e, (den cf wf G d).e), ((den cf wf G m).e, (den cf wf G n).e)]) (pps_cons (ha.e X fa ca k W st g _ h.1.1.1.1.1.2) (hb.e X fa ca k W st g _ h.1.1.1.1.2) (pps_cons (hc.e X fa ca k W st g _ h.1.1.1.2) (hd.e X fa ca k W st g _ h.1.1.2) (pps_cons (hm.e X fa ca k W st g _ h.1.2) (hn.e X fa ca k W st g _ h.2) pps_nil))) rfl rfl (by simp) (by simp)
  · cases h) rfl rfl rfl rfl rfl rfl rfl rfl rfl rfl rfl rfl
theorem s_dct4 {t : Bool} {a b c d m n u v : T} (ha : (Sound0 tb cf wf G) a) (hb : (Sound0 tb cf wf G) b) (hc : (Sound0 tb cf wf G) c) (hd : (Sound0 tb cf wf G) d) (hm : (Sound0 tb cf wf G) m) (hn : (Sound0 tb cf wf G) n) (hu : (Sound0 tb cf wf G) u) (hv : (Sound0 tb cf wf G) v) : (Sound0 tb cf wf G) (.dct t (.cons a (.cons b (.cons c (.cons d (.cons m (.cons n (.cons u (.cons v .nil))))))))) := mkE (fun X fa ca k W st g e h => by
  dsimp only [chk, deC] at h
  split at h
  · simp only [Bool.and_eq_true] at h
    cases t with
    | true => exact absurd h.1.1.1.1.1.1.1.1 Bool.false_ne_true
    | false =>
      exact ok_dct (ps := [((den cf wf G a).e, (den cf wf G b).e), ((den cf wf G c).e, (den cf wf G d).e), ((den cf wf G m).e, (den cf wf G n).e), ((den cf wf G u).e, (den cf wf G v).e)]) (pps_cons (ha.e X fa ca k W st g _ h.1.1.1.1.1.1.1.2) (hb.e X fa ca k W st g _ h.1.1.1.1.1.1.2) (pps_cons (hc.e X fa ca k W st g _ h.1.1.1.1.1.2) (hd.e X fa ca k W st g _ h.1.1.1.1.2) (pps_cons (hm.e X fa ca k W st g _ h.1.1.1.2) (hn.e X fa ca k W st g _ h.1.1.2) (pps_cons (hu.e X fa ca k W st g _ h.1.2) (hv.e X fa ca k W st g _ h.2) pps_nil)))) rfl rfl (by simp) (by simp)
  · cases h) rfl rfl rfl rfl rfl rfl rfl rfl rfl rfl rfl rfl
theorem isNil_eq {t : T} (h : isNil t = true) : t = .nil := by cases t <;> first | rfl | cases h
theorem s_call {f : Nat} {es : T} (hs : (Sound0 tb cf wf G) es) : (Sound0 tb cf wf G) (.call f es) := mkE (fun X fa ca k W st g e h => by
  dsimp only [chk, deC] at h
  split at h
  · simp only [Bool.and_eq_true, decide_eq_true_eq] at h
    obtain ⟨⟨⟨h1, h2⟩, h3⟩, h4⟩ := h
    obtain rfl := isNil_eq h4
    exact ok_call0 (g.tab h2) g.tk h3 (g.glob h1).1 (g.glob h1).2
  · simp only [Bool.and_eq_true, decide_eq_true_eq] at h
    obtain ⟨⟨⟨⟨h1, h2⟩, h3⟩, h4⟩, h5⟩ := h
    have h4' := h4
    rw [List.all_cons, Bool.and_eq_true] at h4'
    exact ok_call (g.tab h2) g.tk h3 (g.glob h1).1 (g.glob h1).2 (star_cons h4'.1) (star_none h4'.2) (hs.es X fa ca k W st g _ h5)
  · cases h) rfl rfl rfl rfl rfl rfl rfl rfl rfl rfl rfl rfl
theorem s_callv {a es : T} (ha : (Sound0 tb cf wf G) a) (hs : (Sound0 tb cf wf G) es) : (Sound0 tb cf wf G) (.callv a es) := mkE (fun X fa ca k W st g e h => by
  dsimp only [chk, deC] at h
  split at h
  · rename_i fe a0 l pos
    simp only [Bool.and_eq_true] at h
    obtain ⟨⟨⟨⟨h1, h2⟩, h3⟩, h4⟩, h5⟩ := h
    have h4' := h4
    rw [List.all_cons, Bool.and_eq_true] at h4'
    refine ok_callv (g.tab h1) g.tk (ha.e X fa ca k W st g _ h3) ?_ (star_cons h4'.1) (star_none h4'.2) (hs.es X fa ca k W st g _ h5)
    cases fe <;> first | rfl | cases h2
  · cases h) rfl rfl rfl rfl rfl rfl rfl rfl rfl rfl rfl rfl
theorem bltF_ok {X : Cx} {fa : Fa} {ca : Nat → Option Addr} {W : WX} {b : Blt} {q : Bool} {n : String} (h : bltF b = some (q, n)) (hc : X.calm = true) (hu : X.A.units + 70 < cLine) (hgd : X.A.guards = some []) :
    if q then CallR X (.builtin n) (relN X fa ca W (bltD b)) ∧ bootBuiltins (Str.ofString n) = some (.builtin n) else CallR X (.type n) (relN X fa ca W (bltD b)) ∧ bootBuiltins (Str.ofString n) = some (.type n) := by
  cases b <;> cases h
  · exact ⟨b_len, by first | rfl | decide +kernel | kernel_rfl⟩
  · exact ⟨b_abs, by first | rfl | decide +kernel | kernel_rfl⟩
  · exact ⟨b_int, by first | rfl | decide +kernel | kernel_rfl⟩
  · exact ⟨b_str, by first | rfl | decide +kernel | kernel_rfl⟩
  · exact ⟨b_tuple, by first | rfl | decide +kernel | kernel_rfl⟩
  · exact ⟨b_list hc, by first | rfl | decide +kernel | kernel_rfl⟩
  · exact ⟨b_all hc, by first | rfl | decide +kernel | kernel_rfl⟩
  · exact ⟨b_any hc, by first | rfl | decide +kernel | kernel_rfl⟩
  · exact ⟨b_sorted hc hu, by first | rfl | decide +kernel | kernel_rfl⟩
  · exact ⟨b_max1 hc, by first | rfl | decide +kernel | kernel_rfl⟩
  · exact ⟨b_max2 hc, by first | rfl | decide +kernel | kernel_rfl⟩
  · exact ⟨b_min1 hc, by first | rfl | decide +kernel | kernel_rfl⟩
  · exact ⟨b_min2 hc, by first | rfl | decide +kernel | kernel_rfl⟩
  · exact ⟨b_sum hc, by first | rfl | decide +kernel | kernel_rfl⟩
  · exact ⟨b_repr hu hgd, by first | rfl | decide +kernel | kernel_rfl⟩
theorem blt_core {X : Cx} {fa : Fa} {ca : Nat → Option Addr} {k : Nat} {W : WX} {st : Stc} (g : Good tb cf G X fa ca k W st) {b : Blt} {es : T} (hs : (Sound0 tb cf wf G) es) {e : Expr}
    (h : (match e, bltF b with
    | .Call (.Name x _) (a :: l) [] _, some (_, n) => decide (x = Str.ofString n) && bltB st (Str.ofString n) && st.calm && (a :: l).all plainE && (chk tb es).es st (a :: l)
    | _, _ => false) = true) : PE X e (rdF (cfx X fa ca) W (eBlt b (den cf wf G es).es)) := by
  split at h
  · rename_i x p a l pos q n hb
    simp only [Bool.and_eq_true, decide_eq_true_eq] at h
    obtain ⟨⟨⟨⟨h1, h2⟩, h3⟩, h4⟩, h5⟩ := h
    have h4' := h4
    rw [List.all_cons, Bool.and_eq_true] at h4'
    obtain ⟨q1, q2, q3, q4⟩ := g.bltn h2
    have hk := bltF_ok (X := X) (fa := fa) (ca := ca) (W := W) hb (g.calm h3) g.un g.gd
    subst h1
    cases q with
    | true => exact ok_bltB hk.1 q1 q2 hk.2 (hs.es X fa ca k W st g _ h5) q3 q4 (star_cons h4'.1) (star_none h4'.2)
    | false => exact ok_bltT hk.1 q1 q2 hk.2 (hs.es X fa ca k W st g _ h5) q3 q4 (star_cons h4'.1) (star_none h4'.2)
  · cases h
theorem s_isi {t : Ty} {a : T} (ha : (Sound0 tb cf wf G) a) : (Sound0 tb cf wf G) (.blt (.isi t) (.cons a .nil)) := mkF (fun X fa ca k W st g e h => by
  dsimp only [chk, deF, deC] at h
  split at h
  · simp only [Bool.and_eq_true, decide_eq_true_eq] at h
    obtain ⟨⟨⟨⟨⟨h1, h2⟩, h3⟩, h4⟩, h5⟩, h6⟩ := h
    subst h1 h3
    obtain ⟨q1, q2, _, _⟩ := g.bltn h2
    obtain ⟨r1, r2, _, _⟩ := g.bltn h4
    exact ok_isi q1 q2 r1 r2 (star_cons h5) (star_cons rfl) (star_none rfl) (ha.e X fa ca k W st g _ h6)
  · cases h) rfl rfl rfl rfl rfl rfl rfl rfl rfl rfl rfl rfl
theorem s_range1 {a : T} (ha : (Sound0 tb cf wf G) a) : (Sound0 tb cf wf G) (.blt .range1 (.cons a .nil)) := mkF (fun X fa ca k W st g e h => by
  dsimp only [chk, deF, deC] at h
  split at h
  · simp only [Bool.and_eq_true, decide_eq_true_eq] at h
    obtain ⟨⟨⟨⟨⟨⟨h1, h2⟩, h3⟩, h4⟩, h5⟩, h6⟩, h7⟩ := h
    subst h1 h2
    obtain ⟨q1, q2, _, _⟩ := g.bltn h3
    obtain ⟨r1, r2, _, _⟩ := g.bltn h4
    exact ok_lrange1 (g.calm h5) q1 q2 r1 r2 h6 (ha.e X fa ca k W st g _ h7)
  · cases h) rfl rfl rfl rfl rfl rfl rfl rfl rfl rfl rfl rfl
theorem s_range2 {a b : T} (ha : (Sound0 tb cf wf G) a) (hb : (Sound0 tb cf wf G) b) : (Sound0 tb cf wf G) (.blt .range2 (.cons a (.cons b .nil))) := mkF (fun X fa ca k W st g e h => by
  dsimp only [chk, deF, deC] at h
  split at h
  · simp only [Bool.and_eq_true, decide_eq_true_eq] at h
    obtain ⟨⟨⟨⟨⟨⟨⟨⟨h1, h2⟩, h3⟩, h4⟩, h5⟩, h6⟩, h7⟩, h8⟩, h9⟩ := h
    subst h1 h2
    obtain ⟨q1, q2, _, _⟩ := g.bltn h3
    obtain ⟨r1, r2, _, _⟩ := g.bltn h4
    exact ok_lrange2 (g.calm h5) q1 q2 r1 r2 h6 h7 (ha.e X fa ca k W st g _ h8) (hb.e X fa ca k W st g _ h9)
  · cases h) rfl rfl rfl rfl rfl rfl rfl rfl rfl rfl rfl rfl
theorem s_lenset {a : T} (ha : (Sound0 tb cf wf G) a) : (Sound0 tb cf wf G) (.blt .lenset (.cons a .nil)) := mkF (fun X fa ca k W st g e h => by
  dsimp only [chk, deF, deC] at h
  split at h
  · simp only [Bool.and_eq_true, decide_eq_true_eq] at h
    obtain ⟨⟨⟨⟨⟨⟨h1, h2⟩, h3⟩, h4⟩, h5⟩, h6⟩, h7⟩ := h
    subst h1 h2
    obtain ⟨q1, q2, _, _⟩ := g.bltn h3
    obtain ⟨r1, r2, _, _⟩ := g.bltn h4
    exact ok_lenset (g.calm h5) (by have := un65 g; omega) q1 q2 r1 r2 (star_cons h6) (ha.e X fa ca k W st g _ h7)
  · cases h) rfl rfl rfl rfl rfl rfl rfl rfl rfl rfl rfl rfl
theorem s_sortset {a : T} (ha : (Sound0 tb cf wf G) a) : (Sound0 tb cf wf G) (.blt .sortset (.cons a .nil)) := mkF (fun X fa ca k W st g e h => by
  dsimp only [chk, deF, deC] at h
  split at h
  · simp only [Bool.and_eq_true, decide_eq_true_eq] at h
    obtain ⟨⟨⟨⟨⟨⟨h1, h2⟩, h3⟩, h4⟩, h5⟩, h6⟩, h7⟩ := h
    subst h1 h2
    obtain ⟨q1, q2, _, _⟩ := g.bltn h3
    obtain ⟨r1, r2, _, _⟩ := g.bltn h4
    exact ok_sortset (g.calm h5) (un65 g) q1 q2 r1 r2 (star_cons h6) (ha.e X fa ca k W st g _ h7)
  · cases h) rfl rfl rfl rfl rfl rfl rfl rfl rfl rfl rfl rfl
theorem s_get1 {o a : T} (ho : (Sound0 tb cf wf G) o) (ha : (Sound0 tb cf wf G) a) : (Sound0 tb cf wf G) (.mth .get1 o (.cons a .nil)) := mkE (fun X fa ca k W st g e h => by
  dsimp only [chk, deC] at h
  split at h
  · simp only [Bool.and_eq_true, decide_eq_true_eq] at h
    obtain ⟨⟨⟨⟨⟨h1, h2⟩, h3⟩, h4⟩, h5⟩, h6⟩ := h
    subst h1
    exact ok_get1 (un1 g) (ho.e X fa ca k W st g _ h5) (ha.e X fa ca k W st g _ h6) h2 h3 h4
  · cases h) rfl rfl rfl rfl rfl rfl rfl rfl rfl rfl rfl rfl
theorem mth_core {X : Cx} {fa : Fa} {ca : Nat → Option Addr} {k : Nat} {W : WX} {st : Stc} (g : Good tb cf G X fa ca k W st) {b : Blt} {o es : T} (ho : (Sound0 tb cf wf G) o) (hs : (Sound0 tb cf wf G) es) {e : Expr}
    (h : (match e, mthF b with
    | .Call (.Attribute ob nm ap) (a :: l) [] cp, some n => decide (nm = Str.ofString n) && noBase ob && (a :: l).all plainE && decide ((a :: l).length < 30) && linesB ap cp && (chk tb o).e st ob && (chk tb es).es st (a :: l)
    | _, _ => false) = true) : PE X e (rdF (cfx X fa ca) W (eMth b (den cf wf G o).e (den cf wf G es).es)) := by
  split at h
  · rename_i ob nm ap a l cp n hb
    simp only [Bool.and_eq_true, decide_eq_true_eq] at h
    obtain ⟨⟨⟨⟨⟨⟨h1, h2⟩, h3⟩, h4⟩, h5⟩, h6⟩, h7⟩ := h
    subst h1
    cases b <;> cases hb
    · exact ok_split (ho.e X fa ca k W st g _ h6) (hs.es X fa ca k W st g _ h7) h2 h3 h4 h5
    · exact ok_join (ho.e X fa ca k W st g _ h6) (hs.es X fa ca k W st g _ h7) h2 h3 h4 h5
    · exact ok_index (un65 g) (ho.e X fa ca k W st g _ h6) (hs.es X fa ca k W st g _ h7) h2 h3 h4 h5
    · exact ok_part (ho.e X fa ca k W st g _ h6) (hs.es X fa ca k W st g _ h7) h2 h3 h4 h5
  · cases h
theorem s_pop {o es : T} (ho : (Sound0 tb cf wf G) o) (hs : (Sound0 tb cf wf G) es) : (Sound0 tb cf wf G) (.pop o es) := mkE (fun X fa ca k W st g e h => by
  dsimp only [chk, deC] at h
  split at h
  · simp only [Bool.and_eq_true, decide_eq_true_eq] at h
    obtain ⟨⟨⟨⟨h1, h2⟩, h3⟩, h4⟩, h5⟩ := h
    subst h1
    obtain rfl := isNil_eq h5
    exact ok_pop0 (ho.e X fa ca k W st g _ h4) h2 h3
  · simp only [Bool.and_eq_true, decide_eq_true_eq] at h
    obtain ⟨⟨⟨⟨⟨⟨h1, h2⟩, h3⟩, h4⟩, h5⟩, h6⟩, h7⟩ := h
    subst h1
    exact ok_pop (ho.e X fa ca k W st g _ h6) (hs.es X fa ca k W st g _ h7) h2 h3 h4 h5
  · cases h) rfl rfl rfl rfl rfl rfl rfl rfl rfl rfl rfl rfl
theorem s_sub {a i : T} (ha : (Sound0 tb cf wf G) a) (hi : (Sound0 tb cf wf G) i) : (Sound0 tb cf wf G) (.sub a i) := mkE (fun X fa ca k W st g e h => by
  dsimp only [chk, deC] at h
  split at h
  · simp only [Bool.and_eq_true] at h
    exact ok_sub (un1 g) (ix_ok h.1.1) (ha.e X fa ca k W st g _ h.1.2) (hi.e X fa ca k W st g _ h.2)
  · cases h) rfl rfl rfl rfl rfl rfl rfl rfl rfl rfl rfl rfl
theorem s_slc {a lo hi : T} (ha : (Sound0 tb cf wf G) a) (hl : (Sound0 tb cf wf G) lo) (hh : (Sound0 tb cf wf G) hi) : (Sound0 tb cf wf G) (.slc a lo hi) := mkF (fun X fa ca k W st g e h => by
  dsimp only [chk, deF, deC] at h
  split at h
  · simp only [Bool.and_eq_true] at h
    exact ok_slc (ha.e X fa ca k W st g _ h.1.1) (hl.po X fa ca k W st g _ h.1.2) (hh.po X fa ca k W st g _ h.2)
  · cases h) rfl rfl rfl rfl rfl rfl rfl rfl rfl rfl rfl rfl
theorem s_rev {a : T} (ha : (Sound0 tb cf wf G) a) : (Sound0 tb cf wf G) (.rev a) := mkF (fun X fa ca k W st g e h => by
  dsimp only [chk, deF, deC] at h
  split at h
  · exact ok_rev (ha.e X fa ca k W st g _ h)
  · cases h) rfl rfl rfl rfl rfl rfl rfl rfl rfl rfl rfl rfl
/-! ### sources -/
theorem s_enum {a : T} (ha : (Sound0 tb cf wf G) a) : (Sound0 tb cf wf G) (.enum a) := mkI (fun X fa ca k W st g tg e h => by
  dsimp only [chk] at h
  split at h
  · simp only [Bool.and_eq_true, decide_eq_true_eq] at h
    obtain ⟨⟨⟨h1, h2⟩, h3⟩, h4⟩ := h
    subst h1
    obtain ⟨q1, q2, _, _⟩ := g.bltn h2
    exact ok_enum q1 q2 h3 (ha.e X fa ca k W st g _ h4)
  · cases h) rfl rfl rfl rfl rfl rfl rfl rfl rfl
theorem s_zip {a b : T} (ha : (Sound0 tb cf wf G) a) (hb : (Sound0 tb cf wf G) b) : (Sound0 tb cf wf G) (.zip a b) := mkI (fun X fa ca k W st g tg e h => by
  dsimp only [chk] at h
  split at h
  · simp only [Bool.and_eq_true, decide_eq_true_eq] at h
    obtain ⟨⟨⟨⟨⟨h1, h2⟩, h3⟩, h4⟩, h5⟩, h6⟩ := h
    subst h1
    obtain ⟨q1, q2, _, _⟩ := g.bltn h2
    exact ok_zip q1 q2 h3 h4 (ha.e X fa ca k W st g _ h5) (hb.e X fa ca k W st g _ h6)
  · cases h) rfl rfl rfl rfl rfl rfl rfl rfl rfl
theorem s_rng {a b : T} (ha : (Sound0 tb cf wf G) a) (hb : (Sound0 tb cf wf G) b) : (Sound0 tb cf wf G) (.rng a b) := mkI (fun X fa ca k W st g tg e h => by
  dsimp only [chk] at h
  split at h
  · simp only [Bool.and_eq_true, decide_eq_true_eq] at h
    obtain ⟨⟨⟨⟨h1, h2⟩, h3⟩, h4⟩, h5⟩ := h
    subst h1
    obtain ⟨q1, q2, _, _⟩ := g.bltn h2
    split at h4
    · exact ok_rng1 q1 q2 h3 (hb.e X fa ca k W st g _ h5)
    · cases h4
  · simp only [Bool.and_eq_true, decide_eq_true_eq] at h
    obtain ⟨⟨⟨⟨⟨h1, h2⟩, h3⟩, h4⟩, h5⟩, h6⟩ := h
    subst h1
    obtain ⟨q1, q2, _, _⟩ := g.bltn h2
    exact ok_rng2 q1 q2 h3 h4 (ha.e X fa ca k W st g _ h5) (hb.e X fa ca k W st g _ h6)
  · cases h) rfl rfl rfl rfl rfl rfl rfl rfl rfl
end
end Mk

set_option Elab.async false
set_option linter.all false
set_option maxRecDepth 100000
set_option maxHeartbeats 1000000
/-! MkE3: soundness: comprehensions, statements; the whole. -/
namespace Mk
open PySem PySem.Spec PyProof.Rows L2
section
variable {tb : Tb} {cf : CF} {wf : Nat} {G : List PyData}
theorem own_snd (N : List Str) (own : List Nat) : (ownOf N own).map (·.2) = own := by
  unfold ownOf
  rw [List.map_map]
  exact List.map_id _
theorem own_fst (N : List Str) (own : List Nat) : (ownOf N own).map (·.1) = own.map fun i => N.getD i "" := by
  unfold ownOf
  rw [List.map_map]; rfl
theorem blk_ok {N : List Str} {sc scope : Scope} {own : List Nat} (h : blkB N sc scope own = true) : BlkOk N sc scope (ownOf N own) := by
  unfold blkB at h
  simp only [Bool.and_eq_true, decide_eq_true_eq, List.all_eq_true, Bool.or_eq_true, Bool.not_eq_true', decide_eq_false_iff_not, List.any_eq_true] at h
  obtain ⟨⟨⟨⟨h1, h2⟩, h3⟩, h4⟩, h5⟩ := h
  refine ⟨h1, h2, fun p hp => ?_, fun y hy e => ?_, fun y hy e => ?_⟩
  · obtain ⟨i, hi, rfl⟩ := List.mem_map.mp hp
    obtain ⟨x, hx⟩ := Option.isSome_iff_exists.mp (h3 i hi)
    show N[i]? = some (N.getD i "")
    rw [List.getD_eq_getElem?_getD, hx]; rfl
  · rcases h4 y hy with (q | q) | q
    · exact absurd e q
    · exact .inl q
    · exact .inr q
  · rcases h5 y hy with (q | ⟨i, hi, q⟩) | q
    · rw [Bool.or_eq_false_iff] at q
      rcases e with e | e
      · exact absurd e (of_decide_eq_false q.1)
      · exact absurd e (of_decide_eq_false q.2)
    · refine .inl ?_
      rw [own_fst]
      refine List.mem_map.mpr ⟨i, hi, ?_⟩
      rw [List.getD_eq_getElem?_getD, q]; rfl
    · refine .inr fun m => ?_
      rw [List.contains_iff_mem.mpr m] at q; cases q
theorem ifs_ok {X : Cx} {fa : Fa} {ca : Nat → Option Addr} {k : Nat} {W : WX} {st : Stc} {c : T} (g : Good tb cf G X fa ca k W st) (hc : (Sound0 tb cf wf G) c) {ifs : List Expr} (h : ifsB (chk tb c).b (isNil c) st ifs = true) : PTs X ifs (rdB (cfx X fa ca) W (den cf wf G c).b) := by
  unfold ifsB at h
  split at h
  · obtain rfl := isNil_eq h
    exact ok_noifs
  · rw [Bool.and_eq_true] at h
    exact pts_one (hc.b X fa ca k W st g _ h.2)
  · cases h
/-- what a comprehension's check gives -/
structure LcOk (tb : Tb) (st : Stc) (own : List Nat) (p it c elt : T) (tg iter : Expr) (ifs : List Expr) (scope : Scope) (el : Expr) : Prop where
  calm : st.calm = true
  blk : blkB st.N st.sc scope own = true
  sl : ∀ j ∈ slotsT p, j ∈ own
  ns : notSet iter = true
  it : (chk tb it).it st tg iter = true
  pt : (chk tb p).pt (inB st scope) tg = true
  ifs : ifsB (chk tb c).b (isNil c) (inB st scope) ifs = true
  el : (chk tb elt).e (inB st scope) el = true
theorem lc_rule {own : List Nat} {p it c elt : T} {tg iter : Expr} {ifs : List Expr} {scope : Scope} {el : Expr} {X : Cx} {fa : Fa} {ca : Nat → Option Addr} {k : Nat} {W : WX} {st : Stc} (g : Good tb cf G X fa ca k W st) (q : LcOk tb st own p it c elt tg iter ifs scope el) (hp : (Sound0 tb cf wf G) p) (hi : (Sound0 tb cf wf G) it) (hc : (Sound0 tb cf wf G) c) (he : (Sound0 tb cf wf G) elt) {pos : Pos} :
    PE X (.ListComp el [⟨tg, iter, ifs, 0⟩] scope pos) (rdF (cfx X fa ca) W (eComp own (gCons (slotsT p) (den cf wf G p).pt (den cf wf G it).it (den cf wf G c).b gNil) (den cf wf G elt).e)) := by
  have hb := blk_ok q.blk
  have := ok_lc (X := X) (fa := fa) (ca := ca) (W := W) (own := ownOf st.N own) (pos := pos) (vs0 := slotsT p) (evI := (den cf wf G it).it) (p := (den cf wf G p).pt) (c := (den cf wf G c).b) (ev := (den cf wf G elt).e) (elt := el) (tg := tg) (iter := iter) (ifs := ifs) (scope := scope)
    (g.calm q.calm) g.nd (hi.it X fa ca k W st g tg iter q.it) (by rw [g.N, g.sc]; exact hb) (by rw [own_snd]; exact q.sl)
    (fun hid s H C cl fp => hp.pt _ _ ca k W0 _ (g.blk hid hb.kind s H C cl fp) tg _ (fun _ z => z) q.pt) (fun hid s H C cl fp => ifs_ok (g.blk hid hb.kind s H C cl fp) hc q.ifs) (fun hid s H C cl fp => he.e _ _ ca k W0 _ (g.blk hid hb.kind s H C cl fp) el q.el) (set_ok' q.ns X.env)
  rw [own_snd] at this
  exact this
theorem blockKind_fn {env : PySem.Env} (h : env.scope.kind = .function) : env.blockKind = .function := by
  unfold Env.blockKind
  rw [h]; rfl
theorem setLc_rule {own : List Nat} {p it c elt : T} {tg iter : Expr} {ifs : List Expr} {scope : Scope} {el : Expr} {X : Cx} {fa : Fa} {ca : Nat → Option Addr} {k : Nat} {W : WX} {st : Stc} (g : Good tb cf G X fa ca k W st) (q : LcOk tb st own p it c elt tg iter ifs scope el) (hp : (Sound0 tb cf wf G) p) (hi : (Sound0 tb cf wf G) it) (hc : (Sound0 tb cf wf G) c) (he : (Sound0 tb cf wf G) elt) {pos np spos : Pos} {i : Nat} {x : Str}
    (h1 : slotB st i x = true) (h2 : swpB st scope x np.line pos.line = true) :
    PS X (.Assign [.Name x np] (.ListComp el [⟨tg, iter, ifs, 0⟩] scope pos) spos) (tAsg (rdF (cfx X fa ca) W (eComp own (gCons (slotsT p) (den cf wf G p).pt (den cf wf G it).it (den cf wf G c).b gNil) (den cf wf G elt).e)) (gName i)) := by
  have hb := blk_ok q.blk
  unfold swpB at h2
  rw [Bool.or_eq_true] at h2
  rcases h2 with h2 | h2
  case inr =>
    rw [Bool.and_eq_true, Bool.not_eq_true'] at h2
    obtain ⟨q1, q2⟩ := g.sto h2.2
    refine ps_set g.nd (g.slot h1) q1 (lc_rule g q hp hi hc he) ?_ q2
    have hn : (X.env.kindOf x == some .local) = false := by
      have e : st.sc.names.lookup x ≠ some .local := of_decide_eq_false h2.1
      rw [show X.env.kindOf x = st.sc.names.lookup x from by rw [← g.sc]; rfl]
      exact beq_eq_false_iff_ne.mpr e
    show (pure (X.env.blockKind == .function && X.env.kindOf x == some .local && np.line == pos.line && !(scope.names.any fun (n, k) => n == x && (k == .local || k == .cell))) : Sem Bool) = pure false
    rw [hn, Bool.and_false, Bool.false_and, Bool.false_and]
  rw [Bool.and_eq_true] at h2
  obtain ⟨h2, h3⟩ := h2
  unfold swapB at h2
  rw [Bool.and_eq_true] at h2
  have hl := g.look h2.1
  have hsw : swapsWith (.ListComp el [⟨tg, iter, ifs, 0⟩] scope pos) (some (.Name x np)) spos.line X.env = pure true := by
    show (pure (X.env.blockKind == .function && X.env.kindOf x == some .local && np.line == pos.line && !(scope.names.any fun (n, k) => n == x && (k == .local || k == .cell))) : Sem Bool) = pure true
    rw [blockKind_fn g.kind, show X.env.kindOf x = some .local from hl, h3, h2.2]
    rfl
  have := ok_setLc (X := X) (fa := fa) (ca := ca) (W := W) (i := i) (y := x) (py := np) (own := ownOf st.N own) (pos := pos) (spos := spos) (vs0 := slotsT p) (evI := (den cf wf G it).it) (p := (den cf wf G p).pt) (c := (den cf wf G c).b) (ev := (den cf wf G elt).e) (elt := el) (tg := tg) (iter := iter) (ifs := ifs) (scope := scope)
    (g.calm q.calm) g.nd (g.slot h1) hl hsw (hi.it X fa ca k W st g tg iter q.it) (by rw [g.N, g.sc]; exact hb) (by rw [own_snd]; exact q.sl)
    (fun hid s H C cl fp => hp.pt _ _ ca k W0 _ (g.blk hid hb.kind s H C cl fp) tg _ (fun _ z => z) q.pt) (fun hid s H C cl fp => ifs_ok (g.blk hid hb.kind s H C cl fp) hc q.ifs) (fun hid s H C cl fp => he.e _ _ ca k W0 _ (g.blk hid hb.kind s H C cl fp) el q.el) (set_ok' q.ns X.env)
  rw [own_snd] at this
  exact this
theorem all_in {own vs : List Nat} (h : vs.all (own.contains ·) = true) : ∀ j ∈ vs, j ∈ own := fun j hj => List.contains_iff_mem.mp (List.all_eq_true.mp h j hj)
theorem s_comp {own : List Nat} {p it c elt : T} (hp : (Sound0 tb cf wf G) p) (hi : (Sound0 tb cf wf G) it) (hc : (Sound0 tb cf wf G) c) (he : (Sound0 tb cf wf G) elt) : (Sound0 tb cf wf G) (.comp own (.gen p it c .nil) elt) := mkF (fun X fa ca k W st g e h => by
  dsimp only [chk, deF, deC] at h
  split at h
  · simp only [Bool.and_eq_true] at h
    obtain ⟨⟨⟨⟨⟨⟨⟨h1, h2⟩, h3⟩, h4⟩, h5⟩, h6⟩, h7⟩, h8⟩ := h
    exact lc_rule g ⟨h1, h2, all_in h3, h4, h5, h6, h7, h8⟩ hp hi hc he
  · cases h) rfl rfl rfl rfl rfl rfl rfl rfl rfl rfl rfl rfl
/-- .. of two clauses -/
structure Lc2Ok (tb : Tb) (st : Stc) (own : List Nat) (p it c p2 it2 c2 elt : T) (tg iter : Expr) (ifs : List Expr) (tg2 iter2 : Expr) (ifs2 : List Expr) (scope : Scope) (el : Expr) : Prop where
  one : LcOk tb st own p it c elt tg iter ifs scope el
  sl : ∀ j ∈ slotsT p2, j ∈ own
  ns : notSet iter2 = true
  it : (chk tb it2).it (inB st scope) tg2 iter2 = true
  pt : (chk tb p2).pt (inB st scope) tg2 = true
  ifs : ifsB (chk tb c2).b (isNil c2) (inB st scope) ifs2 = true
section
variable {own : List Nat} {p it c p2 it2 c2 elt : T} {tg iter : Expr} {ifs : List Expr} {tg2 iter2 : Expr} {ifs2 : List Expr} {scope : Scope} {el : Expr} {X : Cx} {fa : Fa} {ca : Nat → Option Addr} {k : Nat} {W : WX} {st : Stc}
theorem lc2_rule (g : Good tb cf G X fa ca k W st) (q : Lc2Ok tb st own p it c p2 it2 c2 elt tg iter ifs tg2 iter2 ifs2 scope el) (hp : (Sound0 tb cf wf G) p) (hi : (Sound0 tb cf wf G) it) (hc : (Sound0 tb cf wf G) c) (hp2 : (Sound0 tb cf wf G) p2) (hi2 : (Sound0 tb cf wf G) it2) (hc2 : (Sound0 tb cf wf G) c2) (he : (Sound0 tb cf wf G) elt) {pos : Pos} :
    PE X (.ListComp el [⟨tg, iter, ifs, 0⟩, ⟨tg2, iter2, ifs2, 0⟩] scope pos) (rdF (cfx X fa ca) W (eComp own (gCons (slotsT p) (den cf wf G p).pt (den cf wf G it).it (den cf wf G c).b (gCons (slotsT p2) (den cf wf G p2).pt (den cf wf G it2).it (den cf wf G c2).b gNil)) (den cf wf G elt).e)) := by
  have hb := blk_ok q.one.blk
  have := ok_lc2 (X := X) (fa := fa) (ca := ca) (W := W) (own := ownOf st.N own) (pos := pos) (vs0 := slotsT p) (vs1 := slotsT p2) (evI := (den cf wf G it).it) (evJ := (den cf wf G it2).it) (p := (den cf wf G p).pt) (q := (den cf wf G p2).pt) (c := (den cf wf G c).b) (d := (den cf wf G c2).b) (ev := (den cf wf G elt).e) (elt := el) (tg := tg) (iter := iter) (ifs := ifs) (tg1 := tg2) (iter1 := iter2) (ifs1 := ifs2) (scope := scope)
    (g.calm q.one.calm) g.nd (hi.it X fa ca k W st g tg iter q.one.it) (by rw [g.N, g.sc]; exact hb) (by rw [own_snd]; exact q.one.sl) (by rw [own_snd]; exact q.sl)
    (fun hid s H C cl fp => hp.pt _ _ ca k W0 _ (g.blk hid hb.kind s H C cl fp) tg _ (fun _ z => z) q.one.pt) (fun hid s H C cl fp => ifs_ok (g.blk hid hb.kind s H C cl fp) hc q.one.ifs)
    (fun hid s H C cl fp => hi2.it _ _ ca k W0 _ (g.blk hid hb.kind s H C cl fp) tg2 iter2 q.it) (fun hid s H C cl fp => hp2.pt _ _ ca k W0 _ (g.blk hid hb.kind s H C cl fp) tg2 _ (fun _ z => z) q.pt) (fun hid s H C cl fp => ifs_ok (g.blk hid hb.kind s H C cl fp) hc2 q.ifs)
    (fun hid s H C cl fp => he.e _ _ ca k W0 _ (g.blk hid hb.kind s H C cl fp) el q.one.el) (set_ok' q.one.ns X.env) (fun env => set_ok' q.ns env)
  rw [own_snd] at this
  exact this
theorem setLc2_rule (g : Good tb cf G X fa ca k W st) (q : Lc2Ok tb st own p it c p2 it2 c2 elt tg iter ifs tg2 iter2 ifs2 scope el) (hp : (Sound0 tb cf wf G) p) (hi : (Sound0 tb cf wf G) it) (hc : (Sound0 tb cf wf G) c) (hp2 : (Sound0 tb cf wf G) p2) (hi2 : (Sound0 tb cf wf G) it2) (hc2 : (Sound0 tb cf wf G) c2) (he : (Sound0 tb cf wf G) elt) {pos np spos : Pos} {i : Nat} {x : Str}
    (h1 : slotB st i x = true) (h2 : swpB st scope x np.line pos.line = true) :
    PS X (.Assign [.Name x np] (.ListComp el [⟨tg, iter, ifs, 0⟩, ⟨tg2, iter2, ifs2, 0⟩] scope pos) spos) (tAsg (rdF (cfx X fa ca) W (eComp own (gCons (slotsT p) (den cf wf G p).pt (den cf wf G it).it (den cf wf G c).b (gCons (slotsT p2) (den cf wf G p2).pt (den cf wf G it2).it (den cf wf G c2).b gNil)) (den cf wf G elt).e)) (gName i)) := by
  have hb := blk_ok q.one.blk
  unfold swpB at h2
  rw [Bool.or_eq_true] at h2
  rcases h2 with h2 | h2
  case inr =>
    rw [Bool.and_eq_true, Bool.not_eq_true'] at h2
    obtain ⟨q1, q2⟩ := g.sto h2.2
    refine ps_set g.nd (g.slot h1) q1 (lc2_rule g q hp hi hc hp2 hi2 hc2 he) ?_ q2
    have hn : (X.env.kindOf x == some .local) = false := by
      have e : st.sc.names.lookup x ≠ some .local := of_decide_eq_false h2.1
      rw [show X.env.kindOf x = st.sc.names.lookup x from by rw [← g.sc]; rfl]
      exact beq_eq_false_iff_ne.mpr e
    show (pure (X.env.blockKind == .function && X.env.kindOf x == some .local && np.line == pos.line && !(scope.names.any fun (n, k) => n == x && (k == .local || k == .cell))) : Sem Bool) = pure false
    rw [hn, Bool.and_false, Bool.false_and, Bool.false_and]
  rw [Bool.and_eq_true] at h2
  obtain ⟨h2, h3⟩ := h2
  unfold swapB at h2
  rw [Bool.and_eq_true] at h2
  have hl := g.look h2.1
  have hsw : swapsWith (.ListComp el [⟨tg, iter, ifs, 0⟩, ⟨tg2, iter2, ifs2, 0⟩] scope pos) (some (.Name x np)) spos.line X.env = pure true := by
    show (pure (X.env.blockKind == .function && X.env.kindOf x == some .local && np.line == pos.line && !(scope.names.any fun (n, k) => n == x && (k == .local || k == .cell))) : Sem Bool) = pure true
    rw [blockKind_fn g.kind, show X.env.kindOf x = some .local from hl, h3, h2.2]
    rfl
  have := ok_setLc2 (X := X) (fa := fa) (ca := ca) (W := W) (i := i) (y := x) (py := np) (own := ownOf st.N own) (pos := pos) (spos := spos) (vs0 := slotsT p) (vs1 := slotsT p2) (evI := (den cf wf G it).it) (evJ := (den cf wf G it2).it) (p := (den cf wf G p).pt) (q := (den cf wf G p2).pt) (c := (den cf wf G c).b) (d := (den cf wf G c2).b) (ev := (den cf wf G elt).e) (elt := el) (tg := tg) (iter := iter) (ifs := ifs) (tg1 := tg2) (iter1 := iter2) (ifs1 := ifs2) (scope := scope)
    (g.calm q.one.calm) g.nd (g.slot h1) hl hsw (hi.it X fa ca k W st g tg iter q.one.it) (by rw [g.N, g.sc]; exact hb) (by rw [own_snd]; exact q.one.sl) (by rw [own_snd]; exact q.sl)
    (fun hid s H C cl fp => hp.pt _ _ ca k W0 _ (g.blk hid hb.kind s H C cl fp) tg _ (fun _ z => z) q.one.pt) (fun hid s H C cl fp => ifs_ok (g.blk hid hb.kind s H C cl fp) hc q.one.ifs)
    (fun hid s H C cl fp => hi2.it _ _ ca k W0 _ (g.blk hid hb.kind s H C cl fp) tg2 iter2 q.it) (fun hid s H C cl fp => hp2.pt _ _ ca k W0 _ (g.blk hid hb.kind s H C cl fp) tg2 _ (fun _ z => z) q.pt) (fun hid s H C cl fp => ifs_ok (g.blk hid hb.kind s H C cl fp) hc2 q.ifs)
    (fun hid s H C cl fp => he.e _ _ ca k W0 _ (g.blk hid hb.kind s H C cl fp) el q.one.el) (set_ok' q.one.ns X.env) (fun env => set_ok' q.ns env)
  rw [own_snd] at this
  exact this
end
theorem s_comp2 {own : List Nat} {p it c p2 it2 c2 elt : T} (hp : (Sound0 tb cf wf G) p) (hi : (Sound0 tb cf wf G) it) (hc : (Sound0 tb cf wf G) c) (hp2 : (Sound0 tb cf wf G) p2) (hi2 : (Sound0 tb cf wf G) it2) (hc2 : (Sound0 tb cf wf G) c2) (he : (Sound0 tb cf wf G) elt) : (Sound0 tb cf wf G) (.comp own (.gen p it c (.gen p2 it2 c2 .nil)) elt) := mkF (fun X fa ca k W st g e h => by
  dsimp only [chk, deF, deC] at h
  split at h
  · simp only [Bool.and_eq_true] at h
    obtain ⟨⟨⟨⟨⟨⟨⟨⟨⟨⟨⟨⟨h1, h2⟩, h3⟩, h4⟩, h5⟩, h6⟩, h7⟩, h8⟩, k1⟩, k2⟩, k3⟩, k4⟩, k5⟩ := h
    exact lc2_rule g ⟨⟨h1, h2, all_in h3, h4, h5, h6, h7, h8⟩, all_in k1, k2, k3, k4, k5⟩ hp hi hc hp2 hi2 hc2 he
  · cases h) rfl rfl rfl rfl rfl rfl rfl rfl rfl rfl rfl rfl
/-! ### statements -/
theorem s_pass : (Sound0 tb cf wf G) .pass := mkS (fun X fa ca k W st g s h => by
  dsimp only [chk] at h
  split at h
  · exact ok_pass
  · cases h) rfl rfl rfl rfl rfl rfl rfl rfl rfl
theorem s_brk : (Sound0 tb cf wf G) .brk := mkS (fun X fa ca k W st g s h => by
  dsimp only [chk] at h
  split at h
  · exact ok_brk
  · cases h) rfl rfl rfl rfl rfl rfl rfl rfl rfl
theorem s_cnt : (Sound0 tb cf wf G) .cnt := mkS (fun X fa ca k W st g s h => by
  dsimp only [chk] at h
  split at h
  · exact ok_cnt
  · cases h) rfl rfl rfl rfl rfl rfl rfl rfl rfl
theorem s_retN : (Sound0 tb cf wf G) .retN := mkS (fun X fa ca k W st g s h => by
  dsimp only [chk] at h
  split at h
  · exact ok_retN
  · cases h) rfl rfl rfl rfl rfl rfl rfl rfl rfl
theorem s_ret {a : T} (ha : (Sound0 tb cf wf G) a) : (Sound0 tb cf wf G) (.ret a) := mkS (fun X fa ca k W st g s h => by
  dsimp only [chk] at h
  split at h
  · exact ok_ret (ha.e X fa ca k W st g _ h)
  · cases h) rfl rfl rfl rfl rfl rfl rfl rfl rfl
theorem s_expr {a : T} (ha : (Sound0 tb cf wf G) a) : (Sound0 tb cf wf G) (.expr a) := mkS (fun X fa ca k W st g s h => by
  dsimp only [chk] at h
  split at h
  · simp only [Bool.and_eq_true, Bool.not_eq_true'] at h
    exact ok_expr (ha.e X fa ca k W st g _ h.2) (swap_no h.1 _ _ _)
  · cases h) rfl rfl rfl rfl rfl rfl rfl rfl rfl
theorem s_mut {m : Mut} {o a : T} (ho : (Sound0 tb cf wf G) o) (ha : (Sound0 tb cf wf G) a) : (Sound0 tb cf wf G) (.mutm m o a) := mkS (fun X fa ca k W st g s h => by
  dsimp only [chk] at h
  split at h
  · simp only [Bool.and_eq_true] at h
    obtain ⟨⟨⟨⟨⟨h1, h2⟩, h3⟩, h4⟩, h5⟩, h6⟩ := h
    cases m with
    | append =>
      have e := of_decide_eq_true h1
      subst e
      exact ok_append (ho.e X fa ca k W st g _ h5) (ha.e X fa ca k W st g _ h6) h2 h3 h4
    | extend =>
      have e := of_decide_eq_true h1
      subst e
      exact ok_extend (ho.e X fa ca k W st g _ h5) (ha.e X fa ca k W st g _ h6) h2 h3 h4
    | remove =>
      have e := of_decide_eq_true h1
      subst e
      exact ok_remove (ho.e X fa ca k W st g _ h5) (ha.e X fa ca k W st g _ h6) h2 h3 h4
  · cases h) rfl rfl rfl rfl rfl rfl rfl rfl rfl
theorem s_if {c a b : T} (hc : (Sound0 tb cf wf G) c) (ha : (Sound0 tb cf wf G) a) (hb : (Sound0 tb cf wf G) b) : (Sound0 tb cf wf G) (.if_ c a b) := mkS (fun X fa ca k W st g s h => by
  dsimp only [chk] at h
  split at h
  · simp only [Bool.and_eq_true] at h
    exact ok_if (hc.b X fa ca k W st g _ h.1.1) (ha.ss X fa ca k W st g _ h.1.2) (hb.ss X fa ca k W st g _ h.2)
  · cases h) rfl rfl rfl rfl rfl rfl rfl rfl rfl
theorem s_while {c b : T} (hc : (Sound0 tb cf wf G) c) (hb : (Sound0 tb cf wf G) b) : (Sound0 tb cf wf G) (.while_ c b) := mkS (fun X fa ca k W st g s h => by
  dsimp only [chk] at h
  split at h
  · simp only [Bool.and_eq_true] at h
    exact ok_while g.po (hc.b X fa ca k W st g _ h.1) (hb.ss X fa ca k W st g _ h.2)
  · cases h) rfl rfl rfl rfl rfl rfl rfl rfl rfl
theorem s_for {p it b : T} (hp : (Sound0 tb cf wf G) p) (hi : (Sound0 tb cf wf G) it) (hb : (Sound0 tb cf wf G) b) : (Sound0 tb cf wf G) (.for_ p it b) := mkS (fun X fa ca k W st g s h => by
  dsimp only [chk] at h
  split at h
  · simp only [Bool.and_eq_true] at h
    obtain ⟨⟨⟨⟨h1, h2⟩, h3⟩, h4⟩, h5⟩ := h
    exact ok_for g.po (g.calm h1) (hi.it X fa ca k W st g _ _ h3) (hp.pt X fa ca k W st g _ _ (fun _ z => z) h4) (hb.ss X fa ca k W st g _ h5) (set_ok' h2 X.env)
  · cases h) rfl rfl rfl rfl rfl rfl rfl rfl rfl
theorem s_asgC {i : Nat} {own : List Nat} {p it c elt : T} (hp : (Sound0 tb cf wf G) p) (hi : (Sound0 tb cf wf G) it) (hc : (Sound0 tb cf wf G) c) (he : (Sound0 tb cf wf G) elt) : (Sound0 tb cf wf G) (.asg (.var i) (.comp own (.gen p it c .nil) elt)) := mkS (fun X fa ca k W st g s h => by
  dsimp only [chk] at h
  split at h
  · simp only [Bool.and_eq_true] at h
    obtain ⟨⟨⟨⟨⟨⟨⟨⟨⟨a1, a2⟩, h1⟩, h2⟩, h3⟩, h4⟩, h5⟩, h6⟩, h7⟩, h8⟩ := h
    exact PS.mono (setLc_rule g ⟨h1, h2, all_in h3, h4, h5, h6, h7, h8⟩ hp hi hc he a1 a2) fun D σ H q => rdF_of (rd_set q)
  · cases h) rfl rfl rfl rfl rfl rfl rfl rfl rfl
theorem s_asgT {i : Nat} {own : List Nat} {p it c elt : T} (hp : (Sound0 tb cf wf G) p) (hi : (Sound0 tb cf wf G) it) (hc : (Sound0 tb cf wf G) c) (he : (Sound0 tb cf wf G) elt) : (Sound0 tb cf wf G) (.asg (.var i) (.thaw (.comp own (.gen p it c .nil) elt))) := mkS (fun X fa ca k W st g s h => by
  dsimp only [chk] at h
  split at h
  · simp only [Bool.and_eq_true] at h
    obtain ⟨⟨⟨⟨⟨⟨⟨⟨⟨a1, a2⟩, h1⟩, h2⟩, h3⟩, h4⟩, h5⟩, h6⟩, h7⟩, h8⟩ := h
    exact PS.mono (setLc_rule g ⟨h1, h2, all_in h3, h4, h5, h6, h7, h8⟩ hp hi hc he a1 a2) fun D σ H q => rdF_thaw (rd_set q)
  · cases h) rfl rfl rfl rfl rfl rfl rfl rfl rfl
theorem s_asgC2 {i : Nat} {own : List Nat} {p it c p2 it2 c2 elt : T} (hp : (Sound0 tb cf wf G) p) (hi : (Sound0 tb cf wf G) it) (hc : (Sound0 tb cf wf G) c) (hp2 : (Sound0 tb cf wf G) p2) (hi2 : (Sound0 tb cf wf G) it2) (hc2 : (Sound0 tb cf wf G) c2) (he : (Sound0 tb cf wf G) elt) : (Sound0 tb cf wf G) (.asg (.var i) (.comp own (.gen p it c (.gen p2 it2 c2 .nil)) elt)) := mkS (fun X fa ca k W st g s h => by
  dsimp only [chk] at h
  split at h
  · simp only [Bool.and_eq_true] at h
    obtain ⟨⟨⟨⟨⟨⟨⟨⟨⟨⟨⟨⟨⟨⟨a1, a2⟩, h1⟩, h2⟩, h3⟩, h4⟩, h5⟩, h6⟩, h7⟩, h8⟩, k1⟩, k2⟩, k3⟩, k4⟩, k5⟩ := h
    exact PS.mono (setLc2_rule g ⟨⟨h1, h2, all_in h3, h4, h5, h6, h7, h8⟩, all_in k1, k2, k3, k4, k5⟩ hp hi hc hp2 hi2 hc2 he a1 a2) fun D σ H q => rdF_of (rd_set q)
  · cases h) rfl rfl rfl rfl rfl rfl rfl rfl rfl
theorem s_asgT2 {i : Nat} {own : List Nat} {p it c p2 it2 c2 elt : T} (hp : (Sound0 tb cf wf G) p) (hi : (Sound0 tb cf wf G) it) (hc : (Sound0 tb cf wf G) c) (hp2 : (Sound0 tb cf wf G) p2) (hi2 : (Sound0 tb cf wf G) it2) (hc2 : (Sound0 tb cf wf G) c2) (he : (Sound0 tb cf wf G) elt) : (Sound0 tb cf wf G) (.asg (.var i) (.thaw (.comp own (.gen p it c (.gen p2 it2 c2 .nil)) elt))) := mkS (fun X fa ca k W st g s h => by
  dsimp only [chk] at h
  split at h
  · simp only [Bool.and_eq_true] at h
    obtain ⟨⟨⟨⟨⟨⟨⟨⟨⟨⟨⟨⟨⟨⟨a1, a2⟩, h1⟩, h2⟩, h3⟩, h4⟩, h5⟩, h6⟩, h7⟩, h8⟩, k1⟩, k2⟩, k3⟩, k4⟩, k5⟩ := h
    exact PS.mono (setLc2_rule g ⟨⟨h1, h2, all_in h3, h4, h5, h6, h7, h8⟩, all_in k1, k2, k3, k4, k5⟩ hp hi hc hp2 hi2 hc2 he a1 a2) fun D σ H q => rdF_thaw (rd_set q)
  · cases h) rfl rfl rfl rfl rfl rfl rfl rfl rfl
theorem fm_lt {α β : Type} {p : α → Bool} {f : α → Option β} (hf : ∀ t, p t = true → f t = none) : ∀ l : List α, l.any p = true → (l.filterMap f).length < l.length
  | [], h => by cases h
  | a :: r, h => by
    rw [List.any_cons, Bool.or_eq_true] at h
    rw [List.filterMap_cons]
    have hle := List.length_filterMap_le f r
    rcases h with h | h
    · rw [hf a h]; simp only [List.length_cons]; omega
    · have ih := fm_lt hf r h
      split <;> simp only [List.length_cons] <;> omega
theorem swapped_no {X : Cx} {st : Stc} (hsc : X.env.scope = st.sc) {l : List Expr} {kk : Nat} {tp : Pos} {e : Expr} (h : cellB st l e = true) : swappedStores [.Tuple l kk tp] e X.env = pure none := by
  unfold swappedStores
  split
  · rename_i ts vs hq
    split at hq
    · rename_i hx
      cases hq
      rename_i ts2 k2 p2 vs2 k3 p3 hh
      cases hh
      simp only [cellB] at h
      split
      · rfl
      · split
        · rfl
        · have hn := fm_lt (p := fun t => match t with | .Name x _ => !kindIs st x .local | _ => true) (f := fun t => match t with
            | .Name id pos => if X.env.kindOf id == some .local && pos.line == ((l.head?.map (·.pos.line)).getD 0) then some id else none
            | _ => none) (fun t ht => by
              cases t with
              | Name x q =>
                have hk : (X.env.kindOf x == some .local) = false := by
                  have : decide (st.sc.names.lookup x = some .local) = false := by simpa [kindIs] using ht
                  rw [show X.env.kindOf x = st.sc.names.lookup x from by rw [← hsc]; rfl]
                  simpa using of_decide_eq_false this
                simp [hk]
              | _ => rfl) l h
          cases hx
          exact if_pos (by rw [Bool.or_eq_true]; left; rw [bne_iff_ne]; exact Nat.ne_of_lt hn)
    · cases hq
      rename_i hh
      cases hh
    · cases hq
  · rfl
theorem swap_tup (e : Expr) (l : List Expr) (kk : Nat) (tp : Pos) (n : Nat) (env : PySem.Env) : swapsWith e (some (.Tuple l kk tp)) n env = pure false := by
  cases e <;> rfl
theorem asg_core {X : Cx} {fa : Fa} {ca : Nat → Option Addr} {k : Nat} {W : WX} {st : Stc} (g : Good tb cf G X fa ca k W st) {p a : T} (hp : (Sound0 tb cf wf G) p) (ha : (Sound0 tb cf wf G) a) {s : Stmt}
    (h : (match s with
      | .Assign [.Name x np] e sp => !isComp e && (chk tb p).pt st (.Name x np) && (chk tb a).e st e
      | .Assign [.Tuple l k tp] e sp => cellB st l e && (chk tb p).pt st (.Tuple l k tp) && (chk tb a).e st e
      | _ => false) = true) : PS X s (rdS (cfx X fa ca) W (sAsg (den cf wf G p).pt (den cf wf G a).e)) := by
  split at h
  · rename_i x np e sp
    simp only [Bool.and_eq_true, Bool.not_eq_true'] at h
    obtain ⟨⟨h1, h2⟩, h3⟩ := h
    exact ok_asg (ha.e X fa ca k W st g _ h3) (hp.pt X fa ca k W st g _ _ (fun _ z => z) h2) (by unfold swapsWithSole; exact swap_no h1 _ _ _) (by
      unfold swappedStores
      split
      · rename_i ts vs hq
        split at hq
        · rename_i hh; cases hh
        · rename_i hh; cases hh
        · cases hq
      · rfl) rfl
  · rename_i l kk tp e sp
    simp only [Bool.and_eq_true] at h
    obtain ⟨⟨h4, h2⟩, h3⟩ := h
    exact ok_asg (ha.e X fa ca k W st g _ h3) (hp.pt X fa ca k W st g _ _ (fun _ z => z) h2) (by unfold swapsWithSole; exact swap_tup _ _ _ _ _ _) (swapped_no g.sc h4) rfl
  · cases h
theorem no_star {l : List Expr} {P : Expr → Bool} (hP : ∀ e, P e = true → plainE e = false) (h : l.all plainE = true) : l.any P = false := by
  rw [List.any_eq_false]
  intro e he hp
  have := List.all_eq_true.mp h e he
  rw [hP e hp] at this; cases this
theorem names2 {X : Cx} {x y : Str} {px py pt p2 : Pos} {kt k2 : Nat} {a b : Expr} (hk : X.env.scope.kind = .function) (hx : X.env.scope.names.lookup x = some .local) (hy : X.env.scope.names.lookup y = some .local) (hl : (px.line == py.line) = true) (hne : x ≠ y) (hn : namesB [a, b] = true) :
    swappedStores [.Tuple [.Name x px, .Name y py] kt pt] (.Tuple [a, b] k2 p2) X.env = pure (some [x, y]) := by
  unfold namesB at hn
  simp only [Bool.and_eq_true, Bool.not_eq_true'] at hn
  obtain ⟨⟨h1, h2⟩, h3⟩ := hn
  have hyl : (py.line == px.line) = true := by rw [beq_iff_eq] at hl ⊢; exact hl.symm
  have hkx : (X.env.kindOf x == some .local) = true := by rw [show X.env.kindOf x = some .local from hx]; rfl
  have hky : (X.env.kindOf y == some .local) = true := by rw [show X.env.kindOf y = some .local from hy]; rfl
  have hd : [x, y].eraseDups = [x, y] := by
    rw [List.eraseDups_cons, List.filter_cons, if_pos (by simpa using Ne.symm hne), List.filter_nil, List.eraseDups_cons, List.filter_nil, List.eraseDups_nil]
  unfold swappedStores
  dsimp only
  rw [blockKind_fn hk, no_star (l := [a, b]) (fun e he => by cases e <;> first | rfl | cases he) h3]
  simp only [List.filterMap_cons, List.filterMap_nil, List.head?_cons, Option.map_some, Option.getD_some, Expr.pos, hkx, hky, hyl, beq_self_eq_true, Bool.and_self, if_true, hd, h1, h2]
  rfl
end
end Mk

set_option Elab.async false
set_option linter.all false
set_option maxRecDepth 100000
set_option maxHeartbeats 1000000
/-! MkE4: soundness: the rest of the statements; the whole. -/
namespace Mk
open PySem PySem.Spec PyProof.Rows L2
section
variable {tb : Tb} {cf : CF} {wf : Nat} {G : List PyData}
theorem names3 {X : Cx} {x y z : Str} {px py pz pt p2 : Pos} {kt k2 : Nat} {a b c : Expr} (hk : X.env.scope.kind = .function) (hx : X.env.scope.names.lookup x = some .local) (hy : X.env.scope.names.lookup y = some .local) (hz : X.env.scope.names.lookup z = some .local) (hl : (px.line == py.line) = true) (hl2 : (px.line == pz.line) = true)
    (hne : x ≠ y) (hne2 : x ≠ z) (hne3 : y ≠ z) (hn : namesB [a, b, c] = true) :
    swappedStores [.Tuple [.Name x px, .Name y py, .Name z pz] kt pt] (.Tuple [a, b, c] k2 p2) X.env = pure (some [x, y, z]) := by
  unfold namesB at hn
  simp only [Bool.and_eq_true, Bool.not_eq_true'] at hn
  obtain ⟨⟨h1, h2⟩, h3⟩ := hn
  have hyl : (py.line == px.line) = true := by rw [beq_iff_eq] at hl ⊢; exact hl.symm
  have hzl : (pz.line == px.line) = true := by rw [beq_iff_eq] at hl2 ⊢; exact hl2.symm
  have hkx : (X.env.kindOf x == some .local) = true := by rw [show X.env.kindOf x = some .local from hx]; rfl
  have hky : (X.env.kindOf y == some .local) = true := by rw [show X.env.kindOf y = some .local from hy]; rfl
  have hkz : (X.env.kindOf z == some .local) = true := by rw [show X.env.kindOf z = some .local from hz]; rfl
  have hd : [x, y, z].eraseDups = [x, y, z] := by
    rw [List.eraseDups_cons, List.filter_cons, if_pos (by simpa using Ne.symm hne), List.filter_cons, if_pos (by simpa using Ne.symm hne2), List.filter_nil, List.eraseDups_cons, List.filter_cons, if_pos (by simpa using Ne.symm hne3), List.filter_nil, List.eraseDups_cons, List.filter_nil, List.eraseDups_nil]
  unfold swappedStores
  dsimp only
  rw [blockKind_fn hk, no_star (l := [a, b, c]) (fun e he => by cases e <;> first | rfl | cases he) h3]
  simp only [List.filterMap_cons, List.filterMap_nil, List.head?_cons, Option.map_some, Option.getD_some, Expr.pos, hkx, hky, hkz, hyl, hzl, beq_self_eq_true, Bool.and_self, if_true, hd, h1, h2]
  rfl
theorem s_par2 {i j : Nat} {es : T} (hs : (Sound0 tb cf wf G) es) : (Sound0 tb cf wf G) (.par (.cons (.var i) (.cons (.var j) .nil)) es) := mkS (fun X fa ca k W st g s h => by
  dsimp only [chk] at h
  split at h
  · simp only [Bool.and_eq_true, Bool.not_eq_true', decide_eq_false_iff_not] at h
    obtain ⟨⟨⟨⟨⟨⟨⟨⟨⟨h1, h2⟩, h3⟩, h4⟩, h5⟩, h6⟩, h7⟩, h8⟩, h9⟩, h10⟩ := h
    exact ok_par (g.calm h1) g.nd (g.slot h2) (g.slot h3) (beq_eq_false_iff_ne.mp h4) (g.look h6) (g.look h7) (hs.es X fa ca k W st g _ h10) (names2 g.kind (g.look h6) (g.look h7) h8 h5 h9)
  · cases h) rfl rfl rfl rfl rfl rfl rfl rfl rfl
theorem s_par3 {i j l : Nat} {es : T} (hs : (Sound0 tb cf wf G) es) : (Sound0 tb cf wf G) (.par (.cons (.var i) (.cons (.var j) (.cons (.var l) .nil))) es) := mkS (fun X fa ca k W st g s h => by
  dsimp only [chk] at h
  split at h
  · simp only [Bool.and_eq_true, Bool.not_eq_true', decide_eq_false_iff_not] at h
    obtain ⟨⟨⟨⟨⟨⟨⟨⟨⟨⟨⟨⟨⟨⟨⟨⟨h1, a1⟩, a2⟩, a3⟩, b1⟩, b2⟩, b3⟩, c1⟩, c2⟩, c3⟩, d1⟩, d2⟩, d3⟩, e1⟩, e2⟩, e3⟩, e4⟩ := h
    exact ok_par3 (g.calm h1) g.nd (g.slot a1) (g.slot a2) (g.slot a3) (beq_eq_false_iff_ne.mp b1) (beq_eq_false_iff_ne.mp b2) (beq_eq_false_iff_ne.mp b3) (g.look d1) (g.look d2) (g.look d3) (hs.es X fa ca k W st g _ e4) (names3 g.kind (g.look d1) (g.look d2) (g.look d3) e1 e2 c1 c2 c3 e3)
  · cases h) rfl rfl rfl rfl rfl rfl rfl rfl rfl
theorem s_aug {i : Nat} {op : BOp} {a : T} (ha : (Sound0 tb cf wf G) a) : (Sound0 tb cf wf G) (.aug i op a) := mkS (fun X fa ca k W st g s h => by
  dsimp only [chk] at h
  split at h
  · simp only [Bool.and_eq_true, decide_eq_true_eq] at h
    obtain ⟨⟨⟨h1, h2⟩, h3⟩, h4⟩ := h
    subst h1
    obtain ⟨q1, q2⟩ := g.sto h2
    exact ok_aug g.nd (g.slot h3) q1 (ha.e X fa ca k W st g _ h4) q2
  · cases h) rfl rfl rfl rfl rfl rfl rfl rfl rfl
theorem s_set {o i a : T} (ho : (Sound0 tb cf wf G) o) (hi : (Sound0 tb cf wf G) i) (ha : (Sound0 tb cf wf G) a) : (Sound0 tb cf wf G) (.set o i a) := mkS (fun X fa ca k W st g s h => by
  dsimp only [chk] at h
  split at h
  · simp only [Bool.and_eq_true, Bool.not_eq_true'] at h
    obtain ⟨⟨⟨⟨h1, h2⟩, h3⟩, h4⟩, h5⟩ := h
    exact ok_setI (un1 g) (ho.e X fa ca k W st g _ h3) (hi.e X fa ca k W st g _ h4) (ha.e X fa ca k W st g _ h5) (by unfold swapsWithSole; exact swap_no h1 _ _ _) (asg_sub _ _ _ _ h2)
  · cases h) rfl rfl rfl rfl rfl rfl rfl rfl rfl
theorem s_augset {o i a : T} {op : BOp} (ho : (Sound0 tb cf wf G) o) (hi : (Sound0 tb cf wf G) i) (ha : (Sound0 tb cf wf G) a) : (Sound0 tb cf wf G) (.augset o i op a) := mkS (fun X fa ca k W st g s h => by
  dsimp only [chk] at h
  split at h
  · simp only [Bool.and_eq_true, decide_eq_true_eq] at h
    obtain ⟨⟨⟨⟨h1, h2⟩, h3⟩, h4⟩, h5⟩ := h
    subst h1
    exact ok_augset (un1 g) (ho.e X fa ca k W st g _ h3) (hi.e X fa ca k W st g _ h4) (ha.e X fa ca k W st g _ h5) (aug_ok h2)
  · cases h) rfl rfl rfl rfl rfl rfl rfl rfl rfl
theorem s_raise {c : Nat} {es : T} (hs : (Sound0 tb cf wf G) es) : (Sound0 tb cf wf G) (.raise_ c es) := mkS (fun X fa ca k W st g s h => by
  dsimp only [chk] at h
  split at h
  · simp only [Bool.and_eq_true, Bool.or_eq_true, decide_eq_true_eq] at h
    obtain ⟨⟨⟨⟨⟨h1, h2⟩, h3⟩, h4⟩, h5⟩, h6⟩ := h
    cases hf : fieldN c with
    | none =>
      obtain ⟨ac, bmB, B, newId, initId, q1, q2, q3, q4, q5, q6⟩ := g.cl c _ h3 hf
      exact ok_raise (g.calm h1) g.tk hf q1 q2 q3 q4 q5 q6 (g.glob h2).1 (hs.es X fa ca k W st g _ h6) (g.glob h2).2 h5
    | some fld =>
      rename_i x p a l cpos pos
      rw [hf] at h4
      have hl : l = [] := by simpa using h4
      subst hl
      obtain ⟨C, fI, fd, self_, arg, q1, q2, q3⟩ := g.cx c _ fld h3 hf
      exact ok_raiseX (g.calm h1) g.tk ((g.tab h1).room.mono g.lev) hf q1 q2 q3 (g.glob h2).1 (hs.es X fa ca k W st g _ h6) (g.glob h2).2 (by simpa using h5)
  · cases h) rfl rfl rfl rfl rfl rfl rfl rfl rfl
theorem s_sets2 {o i o2 i2 a : T} (ho : (Sound0 tb cf wf G) o) (hi : (Sound0 tb cf wf G) i) (ho2 : (Sound0 tb cf wf G) o2) (hi2 : (Sound0 tb cf wf G) i2) (ha : (Sound0 tb cf wf G) a) : (Sound0 tb cf wf G) (.sets2 o i o2 i2 a) := mkS (fun X fa ca k W st g s h => by
  dsimp only [chk] at h
  split at h
  · simp only [Bool.and_eq_true, Bool.not_eq_true'] at h
    obtain ⟨⟨⟨⟨⟨⟨⟨⟨⟨h0, h1⟩, h2⟩, p1⟩, p2⟩, a1⟩, b1⟩, a2⟩, b2⟩, h3⟩ := h
    exact ok_sets (g.calm h1) (un1 g) (.cons (ho.e X fa ca k W st g _ a1) (hi.e X fa ca k W st g _ b1) (asg_sub _ _ _ _ p1) (.cons (ho2.e X fa ca k W st g _ a2) (hi2.e X fa ca k W st g _ b2) (asg_sub _ _ _ _ p2) .nil)) (ha.e X fa ca k W st g _ h3) rfl rfl (by unfold swapsWithSole; exact swap_no h0 _ _ _) (swapped_no g.sc h2)
  · cases h) rfl rfl rfl rfl rfl rfl rfl rfl rfl
theorem s_sets4 {o i o2 i2 o3 i3 o4 i4 a : T} (ho : (Sound0 tb cf wf G) o) (hi : (Sound0 tb cf wf G) i) (ho2 : (Sound0 tb cf wf G) o2) (hi2 : (Sound0 tb cf wf G) i2) (ho3 : (Sound0 tb cf wf G) o3) (hi3 : (Sound0 tb cf wf G) i3) (ho4 : (Sound0 tb cf wf G) o4) (hi4 : (Sound0 tb cf wf G) i4) (ha : (Sound0 tb cf wf G) a) : (Sound0 tb cf wf G) (.sets4 o i o2 i2 o3 i3 o4 i4 a) := mkS (fun X fa ca k W st g s h => by
  dsimp only [chk] at h
  split at h
  · simp only [Bool.and_eq_true, Bool.not_eq_true'] at h
    obtain ⟨⟨⟨⟨⟨⟨⟨⟨⟨⟨⟨⟨⟨⟨⟨h0, h1⟩, h2⟩, p1⟩, p2⟩, p3⟩, p4⟩, a1⟩, b1⟩, a2⟩, b2⟩, a3⟩, b3⟩, a4⟩, b4⟩, h3⟩ := h
    exact ok_sets (g.calm h1) (un1 g) (.cons (ho.e X fa ca k W st g _ a1) (hi.e X fa ca k W st g _ b1) (asg_sub _ _ _ _ p1) (.cons (ho2.e X fa ca k W st g _ a2) (hi2.e X fa ca k W st g _ b2) (asg_sub _ _ _ _ p2) (.cons (ho3.e X fa ca k W st g _ a3) (hi3.e X fa ca k W st g _ b3) (asg_sub _ _ _ _ p3) (.cons (ho4.e X fa ca k W st g _ a4) (hi4.e X fa ca k W st g _ b4) (asg_sub _ _ _ _ p4) .nil)))) (ha.e X fa ca k W st g _ h3) rfl rfl (by unfold swapsWithSole; exact swap_no h0 _ _ _) (swapped_no g.sc h2)
  · cases h) rfl rfl rfl rfl rfl rfl rfl rfl rfl
theorem s_tryx {b : T} {hs : List Hd} (hb : (Sound0 tb cf wf G) b) : (Sound0 tb cf wf G) (.tryx b hs) := mkS (fun X fa ca k W st g s q => by
  dsimp only [chk] at q
  split at q
  · simp only [Bool.and_eq_true] at q
    obtain ⟨⟨⟨h1, h2⟩, h3⟩, h4⟩ := q
    obtain ⟨s1, s2⟩ := g.stk h1
    exact ok_tryx s1 s2 g.nd g.N g.sc (fun x h => g.glob h) g.ex g.xf (fun x h => (g.bltn h).2.1) g.isx h4 g.tk (fun W' pn xe tk po => hb.ss _ fa ca k W' st (g.tr tk po) _ h3)
  · cases q) rfl rfl rfl rfl rfl rfl rfl rfl rfl
theorem s_try {b h : T} {cs : List Nat} (hb : (Sound0 tb cf wf G) b) (hh : (Sound0 tb cf wf G) h) : (Sound0 tb cf wf G) (.try_ b cs h) := mkS (fun X fa ca k W st g s q => by
  dsimp only [chk] at q
  split at q
  · simp only [Bool.and_eq_true, decide_eq_true_eq] at q
    obtain ⟨⟨⟨⟨⟨h1, h2⟩, h3⟩, h4⟩, h5⟩, h6⟩ := q
    obtain ⟨s1, s2⟩ := g.stk h1
    obtain ⟨cv, q1, q2⟩ := g.ex _ cs h4
    exact ok_try s1 s2 ⟨(g.glob h3).1, (g.glob h3).2, .inl q1⟩ g.tk q2 (fun W' pn xe tk po => hb.ss _ fa ca k W' st (g.tr tk po) _ h5) (fun a pn => hh.ss _ fa ca k W0 _ (g.suite a pn) _ h6)
  · cases q) rfl rfl rfl rfl rfl rfl rfl rfl rfl
/-- nothing is said of such a term -/
theorem s_none {t : T} (h0 : (chk tb t).e = fun _ _ => false) (h1 : (chk tb t).f = fun _ _ => false) (h2 : (chk tb t).b = fun _ _ => false) (h3 : (chk tb t).es = fun _ _ => false) (h4 : (chk tb t).it = fun _ _ _ => false) (h5 : (chk tb t).po = fun _ _ => false) (h6 : (chk tb t).pt = fun _ _ => false) (h7 : (chk tb t).pts = fun _ _ => false) (h8 : (chk tb t).s = fun _ _ => false) (h9 : (chk tb t).ss = fun _ _ => false) : (Sound0 tb cf wf G) t :=
  ⟨vE h0, vF h1, vB h2, vEs h3, vI h4, vO h5, vP h6, vPs h7, vS h8, vSs h9⟩
theorem s_gen {p it c r : T} : (Sound0 tb cf wf G) (.gen p it c r) := s_none rfl rfl rfl rfl rfl rfl rfl rfl rfl rfl
/-- the parts of a list, of a clause -/
theorem Sound.consL {a b : T} (h : Sound tb cf wf G (.cons a b)) : Sound tb cf wf G a ∧ Sound tb cf wf G b := h.2
theorem Sound.genL {p it c r : T} (h : Sound tb cf wf G (.gen p it c r)) : Sound tb cf wf G p ∧ Sound tb cf wf G it ∧ Sound tb cf wf G c ∧ Sound tb cf wf G r := h.2
theorem Sound.compL {own : List Nat} {a b : T} (h : Sound tb cf wf G (.comp own a b)) : Sound tb cf wf G a ∧ Sound tb cf wf G b := h.2
theorem Sound.thawL {a : T} (h : Sound tb cf wf G (.thaw a)) : Sound tb cf wf G a := h.2
theorem a_dct {t : Bool} {kvs : T} (h : Sound tb cf wf G kvs) : (Sound0 tb cf wf G) (.dct t kvs) := by
  cases kvs with
  | nil => exact s_dct0
  | cons a b =>
    have h1 := h.consL
    cases b with
    | cons b c =>
      have h2 := h1.2.consL
      cases c with
      | nil => exact s_dct1 h1.1.to0 h2.1.to0
      | cons c d =>
        have h3 := h2.2.consL
        cases d with
        | cons d e =>
          have h4 := h3.2.consL
          cases e with
          | nil => exact s_dct2 h1.1.to0 h2.1.to0 h3.1.to0 h4.1.to0
          | cons m f =>
            have h5 := h4.2.consL
            cases f with
            | cons n i =>
              have h6 := h5.2.consL
              cases i with
              | nil => exact s_dct3 h1.1.to0 h2.1.to0 h3.1.to0 h4.1.to0 h5.1.to0 h6.1.to0
              | cons u j =>
                have h7 := h6.2.consL
                cases j with
                | cons v l =>
                  have h8 := h7.2.consL
                  cases l with
                  | nil => exact s_dct4 h1.1.to0 h2.1.to0 h3.1.to0 h4.1.to0 h5.1.to0 h6.1.to0 h7.1.to0 h8.1.to0
                  | _ => exact s_none rfl rfl rfl rfl rfl rfl rfl rfl rfl rfl
                | _ => exact s_none rfl rfl rfl rfl rfl rfl rfl rfl rfl rfl
              | _ => exact s_none rfl rfl rfl rfl rfl rfl rfl rfl rfl rfl
            | _ => exact s_none rfl rfl rfl rfl rfl rfl rfl rfl rfl rfl
          | _ => exact s_none rfl rfl rfl rfl rfl rfl rfl rfl rfl rfl
        | _ => exact s_none rfl rfl rfl rfl rfl rfl rfl rfl rfl rfl
      | _ => exact s_none rfl rfl rfl rfl rfl rfl rfl rfl rfl rfl
    | _ => exact s_none rfl rfl rfl rfl rfl rfl rfl rfl rfl rfl
  | _ => exact s_none rfl rfl rfl rfl rfl rfl rfl rfl rfl rfl
theorem g_blt {b : Blt} {es : T} (hs : (Sound0 tb cf wf G) es) (h : (chk tb (.blt b es)) = deF fun st e => match e, bltF b with
    | .Call (.Name x _) (a :: l) [] _, some (_, n) => decide (x = Str.ofString n) && bltB st (Str.ofString n) && st.calm && (a :: l).all plainE && (chk tb es).es st (a :: l)
    | _, _ => false) : (Sound0 tb cf wf G) (.blt b es) := by
  have hf : SF tb cf wf G (.blt b es) := fun X fa ca k W st g e q => by
    rw [h] at q
    exact blt_core g hs q
  exact mkF hf (by rw [h]; rfl) (by rw [h]; rfl) rfl (by rw [h]; rfl) (by rw [h]; rfl) rfl (by rw [h]; rfl) rfl (by rw [h]; rfl) (by rw [h]; rfl) (by rw [h]; rfl) (by rw [h]; rfl)
theorem a_blt {b : Blt} {es : T} (h : Sound tb cf wf G es) : (Sound0 tb cf wf G) (.blt b es) := by
  cases b with
  | isi t =>
    cases es with
    | cons a r =>
      cases r with
      | nil => exact s_isi h.consL.1.to0
      | _ => exact g_blt h.to0 rfl
    | _ => exact g_blt h.to0 rfl
  | lenset =>
    cases es with
    | cons a r =>
      cases r with
      | nil => exact s_lenset h.consL.1.to0
      | _ => exact g_blt h.to0 rfl
    | _ => exact g_blt h.to0 rfl
  | sortset =>
    cases es with
    | cons a r =>
      cases r with
      | nil => exact s_sortset h.consL.1.to0
      | _ => exact g_blt h.to0 rfl
    | _ => exact g_blt h.to0 rfl
  | range1 =>
    cases es with
    | cons a r =>
      cases r with
      | nil => exact s_range1 h.consL.1.to0
      | _ => exact g_blt h.to0 rfl
    | _ => exact g_blt h.to0 rfl
  | range2 =>
    cases es with
    | cons a r =>
      cases r with
      | cons b r2 =>
        cases r2 with
        | nil => exact s_range2 h.consL.1.to0 h.consL.2.consL.1.to0
        | _ => exact g_blt h.to0 rfl
      | _ => exact g_blt h.to0 rfl
    | _ => exact g_blt h.to0 rfl
  | _ => exact g_blt h.to0 rfl
theorem g_mth {b : Blt} {o es : T} (ho : (Sound0 tb cf wf G) o) (hs : (Sound0 tb cf wf G) es) (h : (chk tb (.mth b o es)) = deF fun st e => match e, mthF b with
    | .Call (.Attribute ob nm ap) (a :: l) [] cp, some n => decide (nm = Str.ofString n) && noBase ob && (a :: l).all plainE && decide ((a :: l).length < 30) && linesB ap cp && (chk tb o).e st ob && (chk tb es).es st (a :: l)
    | _, _ => false) : (Sound0 tb cf wf G) (.mth b o es) := by
  have hf : SF tb cf wf G (.mth b o es) := fun X fa ca k W st g e q => by
    rw [h] at q
    exact mth_core g ho hs q
  exact mkF hf (by rw [h]; rfl) (by rw [h]; rfl) rfl (by rw [h]; rfl) (by rw [h]; rfl) rfl (by rw [h]; rfl) rfl (by rw [h]; rfl) (by rw [h]; rfl) (by rw [h]; rfl) (by rw [h]; rfl)
theorem a_mth {b : Blt} {o es : T} (ho : (Sound0 tb cf wf G) o) (h : Sound tb cf wf G es) : (Sound0 tb cf wf G) (.mth b o es) := by
  cases b with
  | get1 =>
    cases es with
    | cons a r =>
      cases r with
      | nil => exact s_get1 ho h.consL.1.to0
      | _ => exact g_mth ho h.to0 rfl
    | _ => exact g_mth ho h.to0 rfl
  | _ => exact g_mth ho h.to0 rfl
theorem a_comp {own : List Nat} {gs el : T} (h : Sound tb cf wf G gs) (he : (Sound0 tb cf wf G) el) : (Sound0 tb cf wf G) (.comp own gs el) := by
  cases gs with
  | gen p it c r =>
    have q := h.genL
    cases r with
    | nil => exact s_comp q.1.to0 q.2.1.to0 q.2.2.1.to0 he
    | gen p2 it2 c2 r2 =>
      have q2 := q.2.2.2.genL
      cases r2 with
      | nil => exact s_comp2 q.1.to0 q.2.1.to0 q.2.2.1.to0 q2.1.to0 q2.2.1.to0 q2.2.2.1.to0 he
      | _ => exact s_none rfl rfl rfl rfl rfl rfl rfl rfl rfl rfl
    | _ => exact s_none rfl rfl rfl rfl rfl rfl rfl rfl rfl rfl
  | _ => exact s_none rfl rfl rfl rfl rfl rfl rfl rfl rfl rfl
theorem g_asg {p a : T} (hp : (Sound0 tb cf wf G) p) (ha : (Sound0 tb cf wf G) a) (h : (chk tb (.asg p a)) = { s := fun st s => match s with
      | .Assign [.Name x np] e sp => !isComp e && (chk tb p).pt st (.Name x np) && (chk tb a).e st e
      | .Assign [.Tuple l k tp] e sp => cellB st l e && (chk tb p).pt st (.Tuple l k tp) && (chk tb a).e st e
      | _ => false }) : (Sound0 tb cf wf G) (.asg p a) := by
  have hs : SS tb cf wf G (.asg p a) := fun X fa ca k W st g e q => by
    rw [h] at q
    exact asg_core g hp ha q
  exact mkS hs (by rw [h]) (by rw [h]) (by rw [h]) (by rw [h]) (by rw [h]) (by rw [h]) (by rw [h]) (by rw [h]) (by rw [h])
theorem a_asg {p a : T} (hp : (Sound0 tb cf wf G) p) (h : Sound tb cf wf G a) : (Sound0 tb cf wf G) (.asg p a) := by
  cases p with
  | var i =>
    cases a with
    | comp own gs el =>
      have q := h.compL
      cases gs with
      | gen p it c r =>
        have q1 := q.1.genL
        cases r with
        | nil => exact s_asgC q1.1.to0 q1.2.1.to0 q1.2.2.1.to0 q.2.to0
        | gen p2 it2 c2 r2 =>
          have q2 := q1.2.2.2.genL
          cases r2 with
          | nil => exact s_asgC2 q1.1.to0 q1.2.1.to0 q1.2.2.1.to0 q2.1.to0 q2.2.1.to0 q2.2.2.1.to0 q.2.to0
          | _ => exact g_asg hp h.to0 rfl
        | _ => exact g_asg hp h.to0 rfl
      | _ => exact g_asg hp h.to0 rfl
    | thaw a =>
      have q0 := h.thawL
      cases a with
      | comp own gs el =>
        have q := q0.compL
        cases gs with
        | gen p it c r =>
          have q1 := q.1.genL
          cases r with
          | nil => exact s_asgT q1.1.to0 q1.2.1.to0 q1.2.2.1.to0 q.2.to0
          | gen p2 it2 c2 r2 =>
            have q2 := q1.2.2.2.genL
            cases r2 with
            | nil => exact s_asgT2 q1.1.to0 q1.2.1.to0 q1.2.2.1.to0 q2.1.to0 q2.2.1.to0 q2.2.2.1.to0 q.2.to0
            | _ => exact g_asg hp h.to0 rfl
          | _ => exact g_asg hp h.to0 rfl
        | _ => exact g_asg hp h.to0 rfl
      | _ => exact g_asg hp h.to0 rfl
    | _ => exact g_asg hp h.to0 rfl
  | _ => exact g_asg hp h.to0 rfl
theorem n_par {ps es : T} (h : chk tb (.par ps es) = {}) : (Sound0 tb cf wf G) (.par ps es) := s_none (by rw [h]) (by rw [h]) (by rw [h]) (by rw [h]) (by rw [h]) (by rw [h]) (by rw [h]) (by rw [h]) (by rw [h]) (by rw [h])
theorem a_par {ps es : T} (hs : (Sound0 tb cf wf G) es) : (Sound0 tb cf wf G) (.par ps es) := by
  cases ps with
  | cons a b =>
    cases a with
    | var i =>
      cases b with
      | cons a b =>
        cases a with
        | var j =>
          cases b with
          | nil => exact s_par2 hs
          | cons a b =>
            cases a with
            | var l =>
              cases b with
              | nil => exact s_par3 hs
              | _ => exact n_par rfl
            | _ => exact n_par rfl
          | _ => exact n_par rfl
        | _ => exact n_par rfl
      | _ => exact n_par rfl
    | _ => exact n_par rfl
  | _ => exact n_par rfl
/-- EVERY term that is checked against a tree says what the tree does -/
theorem sound (t : T) : Sound tb cf wf G t := by
  induction t with
  | nil => exact s_nil
  | cons a b ha hb => exact ⟨s_cons ha.to0 hb.to0, ha, hb⟩
  | cst d => exact s_cst
  | var i => exact s_var
  | glo i => exact s_glo
  | fnv f => exact s_fnv
  | bin op a b ha hb => exact s_bin ha.to0 hb.to0
  | cmp op a b ha hb => exact s_cmp ha.to0 hb.to0
  | chn p q a b c ha hb hc => exact s_chn ha.to0 hb.to0 hc.to0
  | neg a ha => exact s_neg ha.to0
  | inv a ha => exact s_inv ha.to0
  | and a b ha hb => exact s_and ha.to0 hb.to0
  | or a b ha hb => exact s_or ha.to0 hb.to0
  | not a ha => exact s_not ha.to0
  | ife c a b hc ha hb => exact s_ife hc.to0 ha.to0 hb.to0
  | tup es h => exact s_tup h.to0
  | lst es h => exact s_lst h.to0
  | dct t kvs h => exact a_dct h
  | thaw a h => exact ⟨s_thaw h.to0, h⟩
  | call f es h => exact s_call h.to0
  | callv a es ha h => exact s_callv ha.to0 h.to0
  | blt b es h => exact a_blt h
  | mth b o es ho h => exact a_mth ho.to0 h
  | pop o es ho h => exact s_pop ho.to0 h.to0
  | sub a i ha hi => exact s_sub ha.to0 hi.to0
  | slc a lo hi ha hl hh => exact s_slc ha.to0 hl.to0 hh.to0
  | rev a ha => exact s_rev ha.to0
  | comp own g el hg he => exact ⟨a_comp hg he.to0, hg, he⟩
  | gen p it c r hp hi hc hr => exact ⟨s_gen, hp, hi, hc, hr⟩
  | enum a ha => exact s_enum ha.to0
  | zip a b ha hb => exact s_zip ha.to0 hb.to0
  | rng a b ha hb => exact s_rng ha.to0 hb.to0
  | pass => exact s_pass
  | brk => exact s_brk
  | cnt => exact s_cnt
  | retN => exact s_retN
  | ret a ha => exact s_ret ha.to0
  | expr a ha => exact s_expr ha.to0
  | mutm m o a ho ha => exact s_mut ho.to0 ha.to0
  | if_ c a b hc ha hb => exact s_if hc.to0 ha.to0 hb.to0
  | while_ c b hc hb => exact s_while hc.to0 hb.to0
  | for_ p it b hp hi hb => exact s_for hp.to0 hi.to0 hb.to0
  | asg p a hp ha => exact a_asg hp.to0 ha
  | aug i op a ha => exact s_aug ha.to0
  | set o i a ho hi ha => exact s_set ho.to0 hi.to0 ha.to0
  | augset o i op a ho hi ha => exact s_augset ho.to0 hi.to0 ha.to0
  | par ps es hp h => exact a_par h.to0
  | raise_ c es h => exact s_raise h.to0
  | try_ b cs h hb hh => exact s_try hb.to0 hh.to0
  | tryx b hs hb => exact s_tryx hb.to0
  | sets2 o i o2 i2 a h1 h2 h3 h4 h5 => exact s_sets2 h1.to0 h2.to0 h3.to0 h4.to0 h5.to0
  | sets4 o i o2 i2 o3 i3 o4 i4 a h1 h2 h3 h4 h5 h6 h7 h8 h9 => exact s_sets4 h1.to0 h2.to0 h3.to0 h4.to0 h5.to0 h6.to0 h7.to0 h8.to0 h9.to0
end
end Mk

set_option Elab.async false
set_option linter.all false
set_option maxRecDepth 100000
set_option maxHeartbeats 1000000
/-! MkF: each def keeps the promise that its term gives. -/
namespace Mk
open PySem PySem.Spec PyProof.Rows L2
section
variable {K : PySem.W.Frag} {fa : Fa} {μ μ2 : List Addr} {H : Hp} {S : Store}
theorem mem_take {μ : List Addr} {n : Nat} {a : Addr} (h : a ∈ μ.take n) : a ∈ μ := List.mem_of_mem_take h
mutual
/-- data without cells, seen with fewer cells -/
theorem RelD.cl (s : ∀ b ∈ μ2, b ∈ μ) : ∀ {d : PyData} {v : V}, clD d = true → RelD K fa μ H d v → RelD K fa μ2 H d v
  | _, _, _, .non => .non
  | _, _, _, .bl b => .bl b
  | _, _, _, .int i => .int i
  | _, _, _, .str x => .str x
  | _, _, c, .tup h r => .tup h (RelDs.cl s (by simpa [clD] using c) r)
  | _, _, c, .lst h q hh r => .lst h (fun z => q (s _ z)) hh (RelDs.cl s (by simpa [clD] using c) r)
  | _, _, c, .cell _ => by simp [clD] at c
  | _, _, c, .fn _ => by simp [clD] at c
  | _, _, c, .lk _ _ => by simp [clD] at c
theorem RelDs.cl (s : ∀ b ∈ μ2, b ∈ μ) : ∀ {ds : List PyData} {vs : List V}, clDs ds = true → RelDs K fa μ H ds vs → RelDs K fa μ2 H ds vs
  | _, _, _, .nil => .nil
  | _, _, c, .cons h t => by
    rw [clDs, Bool.and_eq_true] at c
    exact .cons (RelD.cl s c.1 h) (RelDs.cl s c.2 t)
end
structure Sub (n : Nat) (μ μ2 : List Addr) : Prop where
  mem : ∀ b ∈ μ2, b ∈ μ
  low : ∀ (k : Nat) (a : Addr), k < n → μ[k]? = some a → μ2[k]? = some a
theorem take_get {n k : Nat} {a : Addr} (h : μ[k]? = some a) (hk : k < n) : (μ.take n)[k]? = some a := by
  rw [List.getElem?_take, if_pos hk]; exact h
theorem Sub.take (n : Nat) (μ : List Addr) : Sub n μ (μ.take n) := ⟨fun _ h => mem_take h, fun _ _ hk h => take_get h hk⟩
theorem take_out (hN : μ.Nodup) {n k : Nat} {a : Addr} (h : μ[k]? = some a) (hk : ¬ k < n) : a ∉ μ.take n := fun hm => by
  obtain ⟨j, hj, e⟩ := List.mem_iff_getElem.mp hm
  have h2 : (μ.take n)[j]? = some a := by rw [List.getElem?_eq_getElem hj, e]
  rw [List.getElem?_take] at h2
  split at h2
  · rename_i hjn
    exact hk (nodup_ixA hN h2 h ▸ hjn)
  · cases h2
/-- cells within stand below n -/
theorem RelD.blw {n : Nat} (s : Sub n μ μ2) {d : PyData} {v : V} (h : blwD n d = true) (r : RelD K fa μ H d v) : RelD K fa μ2 H d v := by
  unfold blwD at h
  split at h
  · cases r with
    | cell hk => exact .cell (s.low _ _ (of_decide_eq_true h) hk)
  · cases r with
    | fn hf => exact .fn hf
  · exact r.cl s.mem h
theorem RelDs.blw {n : Nat} (s : Sub n μ μ2) : ∀ {ds : List PyData} {vs : List V}, ds.all (blwD n) = true → RelDs K fa μ H ds vs → RelDs K fa μ2 H ds vs
  | _, _, _, .nil => .nil
  | _, _, c, .cons h t => by
    rw [List.all_cons, Bool.and_eq_true] at c
    exact .cons (h.blw s c.1) (RelDs.blw s c.2 t)
theorem COk.blw {n : Nat} (s : Sub n μ μ2) {a : Addr} {c : Cell} (h : blwC n c = true) (o : COk K fa μ H a c) : COk K fa μ2 H a c := by
  cases c with
  | lst ds => obtain ⟨xs, e, r⟩ := o; exact ⟨xs, e, r.blw s h⟩
  | dct t ks vs =>
    cases t with
    | true =>
      obtain ⟨ob, kvs, e, e2, r⟩ := o
      have h' : (clDs ks && vs.all (blwD n)) = true := h
      rw [Bool.and_eq_true] at h'
      exact ⟨ob, kvs, e, e2, r.blw s h'.2⟩
    | false =>
      obtain ⟨kvs, e, e2, r⟩ := o
      have h' : (clDs ks && vs.all (blwD n)) = true := h
      rw [Bool.and_eq_true] at h'
      exact ⟨kvs, e, e2, r.blw s h'.2⟩
theorem Wf.take (w : Wf K fa μ S H) {n : Nat} (h : (S.take n).all (blwC n) = true) : Wf K fa (μ.take n) (S.take n) H := by
  refine ⟨by rw [List.length_take, List.length_take, w.len], w.nd.sublist (List.take_sublist _ _), fun k a c h1 h2 => ?_, fun b hb => ⟨fun z => (w.hd b hb).1 (mem_take z), (w.hd b hb).2⟩⟩
  have hc := List.all_eq_true.mp h c (List.mem_of_getElem? h2)
  rw [List.getElem?_take] at h1 h2
  split at h1
  · rw [if_pos (by assumption)] at h2
    exact (w.cells k a c h1 h2).blw (Sub.take n μ) hc
  · cases h1
theorem out1_ok (w : Wf K fa μ S H) {n : Nat} {d d2 : PyData} {v : V} (h : out1 S n d = some d2) (r : RelD K fa μ H d v) : RelD K fa (μ.take n) H d2 v := by
  unfold out1 at h
  split at h
  · rename_i k
    cases r with
    | cell hk =>
      rename_i a
      split at h
      · rename_i hlt
        cases h
        exact .cell (take_get hk hlt)
      · rename_i hlt
        split at h
        · rename_i ds e
          split at h
          · rename_i hc
            cases h
            obtain ⟨xs, e2, r2⟩ := w.cells k a _ hk e
            exact .lst e2 (take_out w.nd hk hlt) (fun z => (w.hd a z).1 (List.mem_of_getElem? hk)) (r2.cl (Sub.take n μ).mem hc)
          · cases h
        · cases h
  · cases h
    cases r with
    | fn hf => exact .fn hf
  · split at h
    · rename_i hc
      cases h
      exact r.cl (Sub.take n μ).mem hc
    · cases h
theorem outs_ok (w : Wf K fa μ S H) {n : Nat} : ∀ {ds : List PyData} {es : List PyData} {vs : List V}, RelDs K fa μ H ds vs → outs S n ds = some es → RelDs K fa (μ.take n) H es vs
  | _, _, _, .nil, h => by cases h; exact .nil
  | _, _, _, .cons (d := d) (ds := ds) q t, h => by
    obtain ⟨x, h1, h⟩ := Option.bind_eq_some_iff.mp (show (out1 S n d).bind (fun x => (outs S n ds).map (x :: ·)) = some _ from h)
    obtain ⟨xs, h2, rfl⟩ := Option.map_eq_some_iff.mp h
    exact .cons (out1_ok w h1 q) (outs_ok w t h2)
theorem outD_ok (w : Wf K fa μ S H) {n : Nat} {d d2 : PyData} {v : V} (h : outD S n d = some d2) (r : RelD K fa μ H d v) : RelD K fa (μ.take n) H d2 v := by
  unfold outD at h
  split at h
  · cases r with
    | tup hs r1 =>
      split at h
      · rename_i hc
        cases h
        exact .tup hs (r1.cl (Sub.take n μ).mem hc)
      · obtain ⟨es, e, rfl⟩ := Option.map_eq_some_iff.mp h
        exact .tup hs (outs_ok w r1 e)
  · exact out1_ok w h r
/-- what the caller sees -/
theorem Ext.at0 {μ0 : List Addr} {H0 : Hp} (e : Ext fa μ0 H0 μ H) : μ.take μ0.length = μ0 := by
  obtain ⟨ν, r, f⟩ := e.pre
  rw [r, List.take_left' rfl]
theorem Ext.back {μ0 : List Addr} {H0 : Hp} (e : Ext fa μ0 H0 μ H) : Ext fa μ0 H0 (μ.take μ0.length) H := by
  rw [e.at0]
  exact ⟨⟨[], by simp, fun _ z => nomatch z⟩, e.keep, e.there⟩
theorem leave_ok {C : Cf} {W : WX} {σ : St} {μ0 μ' : List Addr} {H0 H' : Hp} {S0 S' : Store} {Q : VK} {keep : Bool} {d : PyData} {v : V} (w0 : Wf C.K C.fa μ0 S0 H0) (e : Ext C.fa μ0 H0 μ' H') (w : Wf C.K C.fa μ' S' H') (r : RelD C.K C.fa μ' H' d v)
    (h : PostE C W σ μ0 H0 Q (leave keep S0.length d S')) : Q v H' := by
  unfold leave at h
  split at h
  · rename_i hc
    rw [Bool.and_eq_true] at hc
    have wt := w.take hc.2
    have et := e.back
    have ht := e.at0
    rw [w0.len] at et ht
    split at h
    · rename_i hkp
      split at h
      · rename_i k
        split at h
        · rename_i c hS
          split at h
          · rename_i hb
            rw [Bool.and_eq_true] at hb
            have hle := of_decide_eq_true hb.2
            cases r with
            | cell hk =>
              rename_i a
              have hn : ¬ k < S0.length := by omega
              have hnot : a ∉ μ'.take S0.length := take_out w.nd hk hn
              have hfresh : H0 a = none := by
                obtain ⟨ν, e1, f⟩ := e.pre
                have hm := List.mem_of_getElem? hk
                rw [e1] at hm
                rcases List.mem_append.mp hm with z | z
                · exact absurd (by rw [ht]; exact z) hnot
                · exact f a z
              have hlen : (μ'.take S0.length).length = S0.length := by
                rw [wt.len, List.length_take]
                exact Nat.min_eq_left (of_decide_eq_true hc.1)
              have hlen2 : (S'.take S0.length).length = S0.length := by rw [← wt.len]; exact hlen
              have e2 : Ext C.fa μ0 H0 (μ'.take S0.length ++ [a]) H' := by
                rw [ht]
                exact ⟨⟨[a], rfl, fun b hb => by rw [List.mem_singleton] at hb; rw [hb]; exact hfresh⟩, e.keep, e.there⟩
              have sb : Sub S0.length μ' (μ'.take S0.length ++ [a]) := by
                refine ⟨fun b hb => ?_, fun j b hj hb => ?_⟩
                · rcases List.mem_append.mp hb with z | z
                  · exact mem_take z
                  · rw [List.mem_singleton] at z; rw [z]; exact List.mem_of_getElem? hk
                · rw [List.getElem?_append_left (by rw [hlen]; exact hj)]
                  exact take_get hb hj
              have wf2 : Wf C.K C.fa (μ'.take S0.length ++ [a]) (S'.take S0.length ++ [c]) H' := by
                refine ⟨by rw [List.length_append, List.length_append, hlen, hlen2]; rfl, ?_, fun j b c' h1 h2 => ?_, fun b hb => ⟨fun z => (w.hd b hb).1 (sb.mem b z), (w.hd b hb).2⟩⟩
                · rw [List.nodup_append]
                  refine ⟨wt.nd, by simp, fun x hx y hy z => ?_⟩
                  rw [List.mem_singleton] at hy
                  subst hy; subst z
                  exact hnot hx
                · by_cases hj : j < S0.length
                  · rw [List.getElem?_append_left (by rw [hlen]; exact hj)] at h1
                    rw [List.getElem?_append_left (by rw [hlen2]; exact hj)] at h2
                    have hc' := List.all_eq_true.mp hc.2 c' (List.mem_of_getElem? h2)
                    rw [List.getElem?_take, if_pos hj] at h1 h2
                    exact (w.cells j b c' h1 h2).blw sb hc'
                  · have hjl : j = S0.length := by
                      have := (List.getElem?_eq_some_iff.mp h1).1
                      rw [List.length_append, hlen] at this
                      simp at this
                      omega
                    subst hjl
                    rw [List.getElem?_append_right (by rw [hlen]; exact Nat.le_refl _), hlen, Nat.sub_self] at h1
                    rw [List.getElem?_append_right (by rw [hlen2]; exact Nat.le_refl _), hlen2, Nat.sub_self] at h2
                    simp at h1 h2
                    subst h1; subst h2
                    exact (w.cells k _ _ hk hS).blw sb hb.1
              exact h (.ref a) H' _ e2 wf2 (.cell (by rw [List.getElem?_append_right (by rw [hlen]; exact Nat.le_refl _), hlen, Nat.sub_self]; rfl))
          · exact h.elim
        · exact h.elim
      · exact h.elim
    · obtain ⟨d2, hd, h⟩ := PostG.ofO h
      exact h v H' _ et wt (outD_ok w hd r)
  · exact h.elim
end

/-! ### a def -/
theorem start_get {N : List Str} {vs : List V} {i : Nat} {v : V} (hi : i < N.length) (h : vs[i]? = some v) : (start N vs)[i]? = some (some v) := by
  unfold L2.start
  have hv : i < vs.length := (List.getElem?_eq_some_iff.mp h).1
  rw [List.getElem?_append_left (by rw [List.length_map]; exact hv), List.getElem?_map, h]; rfl
theorem startE_get {np ns : Nat} {ds : List PyData} {i : Nat} {d : PyData} (h : (startE np ns ds)[i]? = some (some d)) : ds[i]? = some d := by
  unfold startE at h
  by_cases hi : i < ds.length
  · rw [List.getElem?_append_left (by rw [List.length_map]; exact hi), List.getElem?_map] at h
    rw [List.getElem?_eq_getElem hi] at h ⊢
    exact Option.some.inj h
  · rw [List.getElem?_append_right (by rw [List.length_map]; omega)] at h
    obtain ⟨h1, h2⟩ := List.getElem?_eq_some_iff.mp h
    rw [List.getElem_replicate] at h2
    cases h2
section
variable {P : Program} {w : World} {K : PySem.W.Frag} {mg : Str → Option Value} {base : Heap}
/-- the promise, for some bound of the loops -/
def spW (C : Cf) (Φ : Nat → Option Fn) (G : List PyData) (n f : Nat) : Sp := fun vs H Q E => ∃ wf, spF C (callN Φ wf G n) f vs H Q E
theorem callN_some {Φ : Nat → Option Fn} {wf : Nat} {G : List PyData} {n f : Nat} {fn : Fn} (h : Φ f = some fn) : callN Φ wf G (n + 1) f = runF (callN Φ wf G n) wf G fn := by
  funext xs S
  show (match Φ f with
    | some fn => runF (callN Φ wf G n) wf G fn xs S
    | none => .stuck) = _
  rw [h]
theorem spW_len {C : Cf} {Φ : Nat → Option Fn} {G : List PyData} {n f : Nat} {fn : Fn} (h : Φ f = some fn) {vs : List V} {H : Hp} {Q : VK} {E : XK} (q : spW C Φ G (n + 1) f vs H Q E) : vs.length = fn.np := by
  obtain ⟨wf, hid, μ, S, ds, w, r, p⟩ := q
  rw [callN_some h] at p
  unfold runF at p
  split at p
  · rename_i e
    rw [r.length]; exact e
  · exact p.elim
/-- the facts that hold in every def's body -/
structure Base (tb : Tb) (P : Program) (K : PySem.W.Frag) (mg : Str → Option Value) (G : List PyData) (ca : Nat → Option Addr) : Prop where
  blt : ∀ x, bltN.contains x = true → mg x = none
  gl : ∀ (i : Nat) (x : Str) (d : PyData), tb.gl[i]? = some (x, d) → ∃ v u, mg x = some u ∧ RelV v u ∧ ∀ (fb : Fa) (μ : List Addr) (H : Hp), RelD K fb μ H d v
  G : G = tb.gl.map (·.2)
  cl : ∀ (c : Nat) (x : Str), tb.cl c = some x → fieldN c = none → ∃ ac bmB B newId initId, ca c = some ac ∧ ExcBaseFacts B newId initId bmB ∧ PySem.W.excIn K ac bmB newId = true ∧ mg x = some (.ref ac) ∧ PySem.W.keepIn K (.ref ac) = true ∧ PySem.W.subIn K (.ref ac) (.type "BaseException") = some true ∧ PySem.W.typeIn K (.ref ac) = some (.type "type")
  cx : ∀ (c : Nat) (x fld : Str), tb.cl c = some x → fieldN c = some fld → ∃ C fI fd self_ arg, ca c = some C ∧ IniC P K C fI fd self_ arg fld ∧ mg x = some (.ref C)
  xf : ∀ (c : Nat) (a : Addr) (fn : Str), ca c = some a → fieldN c = some fn → XfC K a ∧ PySem.W.findIn K (.ref a) fn = some none
  isx : ∀ (c : Nat) (a : Addr), ca c = some a → ExcC K a ∧ PySem.W.kitOne K (.ref a) (.type "ValueError") = some true ∧ ∀ x cs, tb.ex.lookup x = some cs → ∃ a', mg x = some (.ref a') ∧ PySem.W.kitOne K (.ref a) (.ref a') = some (cs.contains c)
  ex : ∀ (x : Str) (cs : List Nat), tb.ex.lookup x = some cs → ∃ cv, mg x = some cv ∧ ∀ c a, ca c = some a → PySem.W.exmOne K (.ref a) cv = some (cs.contains c)
/-- what is asked of a def's term -/
structure DefOk (tb : Tb) (fn : Fn) (N ps : List Str) (scope : Scope) (body : List Stmt) : Prop where
  np : fn.np = ps.length
  ns : fn.ns = N.length
  le : ps.length ≤ N.length
  sc : FnScope N ps scope
  chk : (chk tb fn.body).ss ⟨N, scope, fun _ => true, true, true⟩ body = true
/-- the table at a level -/
structure Lvl (tb : Tb) (P : Program) (w : World) (K : PySem.W.Frag) (mg : Str → Option Value) (base : Heap) (adr : Nat → Option Addr) (ca : Nat → Option Addr) (Φ : Nat → Option Fn) (G : List PyData) (n : Nat) : Prop where
  fn : ∀ (f : Nat) (a : Addr), adr f = some a → ∃ fd ps, FnG P w K mg base (L2.CX P w) (n + 2) a fd ps (spW ⟨K, ⟨adr, fun _ => False⟩, ca⟩ Φ G n f) ∧ PySem.W.keepIn K (.ref a) = true ∧ Binds K fd ps []
theorem fn_step {tb : Tb} {adr : Nat → Option Addr} {ca : Nat → Option Addr} {Φ : Nat → Option Fn} {G : List PyData} {n : Nat} (B : Base tb P K mg G ca) (T : ∀ (f : Nat) (x : Str), tb.nm f = some x → ∃ a, adr f = some a ∧ mg x = some (.ref a)) (L : Lvl tb P w K mg base adr ca Φ G n)
    {f : Nat} {fn : Fn} {a : Addr} {fd : FuncData} {x qual : Str} {params : Arguments} {body : List Stmt} {scope : Scope} {N ps : List Str} (hf : Φ f = some fn) (F : FunD K x qual params body scope [] [] a fd) (D : DefOk tb fn N ps scope body) :
    FnG P w K mg base (L2.CX P w) (n + 3) a fd ps (spW ⟨K, ⟨adr, fun _ => False⟩, ca⟩ Φ G (n + 1) f) := by
  refine Mk.FunD.okG F D.sc (fun vs H Q E h => (spW_len hf h).trans D.np) fun cdv A outer s H vs Q E hgd hr h => ?_
  have hlv := (spW_len hf h).trans D.np
  obtain ⟨wf, hid, μ, S, ds, w0, r0, p⟩ := h
  rw [callN_some hf] at p
  unfold runF at p
  split at p
  · rename_i hlen
    have g : Good tb (callN Φ wf G n) G (cxOf (L2.CX P w) P w K mg base N qual scope a cdv A outer s H E) ⟨adr, hid⟩ ca (n + 2) (fun cls d _ H => E cls d H) ⟨N, scope, fun _ => true, true, true⟩ :=
      { N := rfl, nd := D.sc.nd, sc := rfl, fn := fun _ _ => rfl, calm := fun _ => rfl,
        tab := fun _ => ⟨fun f' a' h' => by
          obtain ⟨fd', ps', h1, h2, h3⟩ := L.fn f' a' h'
          exact ⟨fd', ps', h1.imp fun vs H Q E q => ⟨wf, q⟩, h2, h3⟩, T, hr, hgd⟩,
        gd := hgd
        un := by have := hr.un; show (A.deeper (envOfC qual scope s.heap.objs.size a cdv)).units + 70 < cLine; omega
        tk := takes_of rfl rfl rfl rfl, po := passes_of rfl, stk := fun _ => ⟨rfl, rfl⟩, kind := D.sc.kind, blt := B.blt, gl := B.gl, G := B.G,
        cl := fun c x h1 h2 => by
          obtain ⟨ac, bmB, B', newId, initId, q1, q2, q3, q4, q5, q6, q7⟩ := B.cl c x h1 h2
          exact ⟨ac, bmB, B', newId, initId, q1, q2, q3, q4, q5, raises_own q6 q7⟩,
        lev := Nat.le_add_left 2 n, cx := B.cx, xf := B.xf,
        isx := B.isx, ex := B.ex }
    have hb := (sound (tb := tb) (cf := callN Φ wf G n) (wf := wf) (G := G) fn.body).to0.ss _ _ _ _ _ _ g body D.chk
    refine ⟨_, hb, ?_⟩
    have sw : SW K ⟨adr, hid⟩ μ (startE fn.np fn.ns ds) S (start N vs) H := by
      refine ⟨w0, ?_, fun i d hi => ?_⟩
      · unfold L2.start startE
        rw [List.length_append, List.length_map, List.length_replicate, List.length_append, List.length_map, List.length_replicate, r0.length, D.ns]
      · obtain ⟨v, h1, h2⟩ := r0.get (startE_get hi)
        have hiv : i < vs.length := (List.getElem?_eq_some_iff.mp h1).1
        exact ⟨v, start_get (by have := D.le; omega) h1, h2⟩
    refine ⟨μ, _, S, sw, ?_⟩
    cases hx : (den (callN Φ wf G n) wf G fn.body).s (startE fn.np fn.ns ds) S with
    | rt d S' =>
      rw [hx] at p
      exact fun v μ' H' e w' r => leave_ok w0 e w' r p
    | nx ρ' S' =>
      rw [hx] at p
      exact fun μ' σ' H' e sw' => leave_ok w0 e sw'.wf .non p
    | exc c ρ' S' =>
      rw [hx] at p
      dsimp only at p
      split at p
      · rename_i hc
        simp only [Bool.and_eq_true] at hc
        intro cls dx μ' σ' H' e sw' ex
        have et := e.back
        have wt := sw'.wf.take hc.1.2
        rw [w0.len] at et
        exact p cls dx H' _ et wt ex
      · exact p.elim
    | bk ρ' S' => rw [hx] at p; exact p.elim
    | ct ρ' S' => rw [hx] at p; exact p.elim
    | stuck => rw [hx] at p; exact p.elim
  · exact p.elim
theorem fn_law {tb : Tb} {adr : Nat → Option Addr} {ca : Nat → Option Addr} {Φ : Nat → Option Fn} {G : List PyData} {n : Nat} (B : Base tb P K mg G ca) (T : ∀ (f : Nat) (x : Str), tb.nm f = some x → ∃ a, adr f = some a ∧ mg x = some (.ref a)) (L : Lvl tb P w K mg base adr ca Φ G n)
    {f : Nat} {fn : Fn} {a : Addr} {fd : FuncData} {x qual : Str} {params : Arguments} {body : List Stmt} {scope : Scope} {N ps : List Str} (hf : Φ f = some fn) (F : FunD K x qual params body scope [] [] a fd) (D : DefOk tb fn N ps scope body) :
    FnG P w K mg base L2.CX0 (n + 3) a fd ps (fun vs H Q _ => spW ⟨K, ⟨adr, fun _ => False⟩, ca⟩ Φ G (n + 1) f vs H Q fun _ _ _ => False) := by
  refine Mk.FunD.okG F D.sc (fun vs H Q E h => (spW_len hf h).trans D.np) fun cdv A outer s H vs Q E hgd hr h => ?_
  have hlv := (spW_len hf h).trans D.np
  obtain ⟨wf, hid, μ, S, ds, w0, r0, p⟩ := h
  rw [callN_some hf] at p
  unfold runF at p
  split at p
  · rename_i hlen
    have g : Good tb (callN Φ wf G n) G (cxOf L2.CX0 P w K mg base N qual scope a cdv A outer s H E).nox ⟨adr, hid⟩ ca (n + 2) W0 ⟨N, scope, fun _ => true, true, true⟩ :=
      { N := rfl, nd := D.sc.nd, sc := rfl, fn := fun _ _ => rfl, calm := fun _ => rfl,
        tab := fun _ => ⟨fun f' a' h' => by
          obtain ⟨fd', ps', h1, h2, h3⟩ := L.fn f' a' h'
          exact ⟨fd', ps', h1.imp fun vs H Q E q => ⟨wf, q⟩, h2, h3⟩, T, hr, hgd⟩,
        gd := hgd
        un := by have := hr.un; show (A.deeper (envOfC qual scope s.heap.objs.size a cdv)).units + 70 < cLine; omega
        tk := fun _ _ ⟨_, _, _, _, _, _, _, _, _, _, _, _, _, _, _, _, w⟩ => w.elim, po := PassesOwn.never, stk := fun _ => ⟨rfl, rfl⟩, kind := D.sc.kind, blt := B.blt, gl := B.gl, G := B.G,
        cl := fun c x h1 h2 => by
          obtain ⟨ac, bmB, B', newId, initId, q1, q2, q3, q4, q5, q6, q7⟩ := B.cl c x h1 h2
          exact ⟨ac, bmB, B', newId, initId, q1, q2, q3, q4, q5, raises_own q6 q7⟩,
        lev := Nat.le_add_left 2 n, cx := B.cx, xf := B.xf,
        isx := B.isx, ex := B.ex }
    have hb := (sound (tb := tb) (cf := callN Φ wf G n) (wf := wf) (G := G) fn.body).to0.ss _ _ _ _ _ _ g body D.chk
    refine ⟨_, PSs.nox hb, ?_⟩
    have sw : SW K ⟨adr, hid⟩ μ (startE fn.np fn.ns ds) S (start N vs) H := by
      refine ⟨w0, ?_, fun i d hi => ?_⟩
      · unfold L2.start startE
        rw [List.length_append, List.length_map, List.length_replicate, List.length_append, List.length_map, List.length_replicate, r0.length, D.ns]
      · obtain ⟨v, h1, h2⟩ := r0.get (startE_get hi)
        have hiv : i < vs.length := (List.getElem?_eq_some_iff.mp h1).1
        exact ⟨v, start_get (by have := D.le; omega) h1, h2⟩
    refine ⟨μ, _, S, sw, ?_⟩
    cases hx : (den (callN Φ wf G n) wf G fn.body).s (startE fn.np fn.ns ds) S with
    | rt d S' =>
      rw [hx] at p
      exact fun v μ' H' e w' r => leave_ok w0 e w' r p
    | nx ρ' S' =>
      rw [hx] at p
      exact fun μ' σ' H' e sw' => leave_ok w0 e sw'.wf .non p
    | exc c ρ' S' =>
      rw [hx] at p
      dsimp only at p
      split at p
      · rename_i hc
        simp only [Bool.and_eq_true] at hc
        intro cls dx μ' σ' H' e sw' ex
        have et := e.back
        have wt := sw'.wf.take hc.1.2
        rw [w0.len] at et
        exact p cls dx H' _ et wt ex
      · exact p.elim
    | bk ρ' S' => rw [hx] at p; exact p.elim
    | ct ρ' S' => rw [hx] at p; exact p.elim
    | stuck => rw [hx] at p; exact p.elim
  · exact p.elim
end
end Mk

set_option Elab.async false
set_option linter.all false
set_option maxRecDepth 100000
set_option maxHeartbeats 1000000
/-! MkG: the whole module: its defs, constants, classes; the law's end. -/
namespace Mk
open PySem PySem.Spec PyProof.Rows L2
structure Dd where
  name : Str
  st : Stmt
  N : List Str
  fn : Fn
def Dd.ps (d : Dd) : List Str := (defArgs d.st).args.map (·.arg)
def Dd.he (d : Dd) : He.DefD := ⟨(d.name, none), d.name, d.name, defArgs d.st, defBody d.st, defScope d.st, [], []⟩
def nodupB : List Str → Bool
  | [] => true
  | x :: r => !r.contains x && nodupB r
theorem nodupB_ok : ∀ {l : List Str}, nodupB l = true → l.Nodup
  | [], _ => List.nodup_nil
  | x :: r, h => by
    unfold nodupB at h
    rw [Bool.and_eq_true, Bool.not_eq_true'] at h
    rw [List.nodup_cons]
    refine ⟨fun m => ?_, nodupB_ok h.2⟩
    rw [List.contains_iff_mem.mpr m] at h; cases h.1
/-- the check of a def -/
def Dd.ok (tb : Tb) (d : Dd) : Bool :=
  decide (d.fn.np = d.ps.length) && decide (d.fn.ns = d.N.length) && decide (d.ps.length ≤ d.N.length) && decide ((defScope d.st).kind = .function) && !(defScope d.st).isCoroutine && !(defScope d.st).isGenerator && nodupB d.N
  && decide (d.N.take d.ps.length = d.ps) && d.ps.all (fun x => decide ((defScope d.st).names.lookup x = some .local) || decide ((defScope d.st).names.lookup x = some .cell)) && (defScope d.st).names.all (fun y => !decide (y.2 = .free))
  && (chk tb d.fn.body).ss ⟨d.N, defScope d.st, fun _ => true, true, true⟩ (defBody d.st)
theorem Dd.ok_def {tb : Tb} {d : Dd} (h : d.ok tb = true) : DefOk tb d.fn d.N d.ps (defScope d.st) (defBody d.st) := by
  unfold Dd.ok at h
  simp only [Bool.and_eq_true, decide_eq_true_eq, Bool.not_eq_true', List.all_eq_true, Bool.or_eq_true, decide_eq_false_iff_not] at h
  obtain ⟨⟨⟨⟨⟨⟨⟨⟨⟨⟨h1, h2⟩, h3⟩, h4⟩, h5⟩, h6⟩, h7⟩, h8⟩, h9⟩, h10⟩, h11⟩ := h
  exact ⟨h1, h2, h3, ⟨h4, h5, h6, nodupB_ok h7, h8, h9, h10⟩, h11⟩
def BindOk (d : Dd) : Prop := ∀ (kV doc pm : Value) (an : Option Addr) (cdv ct : Value) (us : List Value), us.length = d.ps.length → bindArgs (PySem.W.fnOf d.name d.name (defArgs d.st) (defBody d.st) (defScope d.st) .none kV doc pm an cdv ct) ⟨us, []⟩ = pure (d.ps.zip us)
def BindAll : List Dd → Prop
  | [] => True
  | d :: r => BindOk d ∧ BindAll r
theorem BindAll.mem : ∀ {ds : List Dd} {d : Dd}, BindAll ds → d ∈ ds → BindOk d
  | _ :: _, _, h, hm => by
    rcases List.mem_cons.mp hm with rfl | hm
    · exact h.1
    · exact BindAll.mem h.2 hm
/-! ### constants -/
mutual
def readB (K : PySem.W.Frag) : PyData → Value → Bool
  | .none, .none => true
  | .bool b, .bool c => b == c
  | .int i, .int j _ => decide (i = j)
  | .str x, .str y _ => decide (x = y)
  | .tuple ds, .ref a => match K.lookup a with
    | some ⟨.type c, _, .seq its _, _⟩ => decide (c = "tuple") && decide (its.size ≤ sizeLine) && readBs K ds its.toList
    | _ => false
  | _, _ => false
def readBs (K : PySem.W.Frag) : List PyData → List Value → Bool
  | [], [] => true
  | d :: ds, u :: us => readB K d u && readBs K ds us
  | _, _ => false
end
mutual
theorem readB_ok {K : PySem.W.Frag} : ∀ (d : PyData) (u : Value), readB K d u = true → ∃ v, RelV v u ∧ ∀ (fb : Mk.Fa) (μ : List Addr) (H : Hp), RelD K fb μ H d v
  | .none, u, h => by
    cases u <;> first | exact ⟨.non, rfl, fun _ _ _ => .non⟩ | (simp [readB] at h)
  | .bool b, u, h => by
    cases u <;> first | (simp [readB] at h; done) | skip
    rename_i c
    have e : b = c := by simpa [readB] using h
    subst e
    exact ⟨.bl b, rfl, fun _ _ _ => .bl b⟩
  | .int i, u, h => by
    cases u <;> first | (simp [readB] at h; done) | skip
    rename_i j t
    have e : i = j := by simpa [readB] using h
    subst e
    exact ⟨.int i, ⟨t, rfl⟩, fun _ _ _ => .int i⟩
  | .str x, u, h => by
    cases u <;> first | (simp [readB] at h; done) | skip
    rename_i y t
    have e : x = y := by simpa [readB] using h
    subst e
    exact ⟨.str x, ⟨t, rfl⟩, fun _ _ _ => .str x⟩
  | .tuple ds, u, h => by
    cases u <;> first | (simp [readB] at h; done) | skip
    rename_i a
    unfold readB at h
    split at h
    · rename_i c dd its n sl hl
      simp only [Bool.and_eq_true, decide_eq_true_eq] at h
      obtain ⟨⟨h1, h2⟩, h3⟩ := h
      subst h1
      obtain ⟨vs, r1, r2⟩ := readBs_ok ds its.toList h3
      exact ⟨.ref a, rfl, fun fb μ H => .tup (.inr ⟨_, its, n, hl, rfl, rfl, h2, r1⟩) (r2 fb μ H)⟩
    · cases h
  | .list _, u, h => by cases u <;> simp [readB] at h
  | .dict _, u, h => by cases u <;> simp [readB] at h
theorem readBs_ok {K : PySem.W.Frag} : ∀ (ds : List PyData) (us : List Value), readBs K ds us = true → ∃ vs, Vals vs us ∧ ∀ (fb : Mk.Fa) (μ : List Addr) (H : Hp), RelDs K fb μ H ds vs
  | [], [], _ => ⟨[], .nil, fun _ _ _ => .nil⟩
  | [], _ :: _, h => by simp [readBs] at h
  | _ :: _, [], h => by simp [readBs] at h
  | d :: ds, u :: us, h => by
    unfold readBs at h
    rw [Bool.and_eq_true] at h
    obtain ⟨v, h1, h2⟩ := readB_ok d u h.1
    obtain ⟨vs, g1, g2⟩ := readBs_ok ds us h.2
    exact ⟨v :: vs, .cons h1 g1, fun fb μ H => .cons (h2 fb μ H) (g2 fb μ H)⟩
end
/-- the constants stand as they are said -/
def constB (gl : List (Str × PyData)) (K : PySem.W.Frag) : Bool := gl.all fun p => match PySem.W.nsIn K mainGlobals p.1 with
  | some (some u) => readB K p.2 u
  | _ => false
/-! ### classes with a field -/
/-- what super().__init__ is told -/
def argB (fld : Str) (scope : Scope) (e : Expr) : Bool := match e with
  | .Name c _ => decide (c = fld) && decide (fld ≠ "at")
  | .BinOp (.Constant (.str s) _ _) .Add (.Call (.Name f _) [.Name c _] [] _) _ => decide (s = "at ") && decide (f = "str") && decide (c = fld) && decide (fld = "at") && decide (scope.names.lookup ("str" : Str) = some .globalImplicit)
  | _ => false
theorem argB_ok {fld : Str} {scope : Scope} {e : Expr} (h : argB fld scope e = true) : (fld ≠ "at" ∧ ∃ p3, e = .Name fld p3) ∨ (fld = "at" ∧ scope.names.lookup ("str" : Str) = some .globalImplicit ∧ ∃ k q0 q1 q2 q3 q4, e = .BinOp (.Constant (.str "at ") k q0) .Add (.Call (.Name "str" q1) [.Name fld q2] [] q3) q4) := by
  unfold argB at h
  split at h
  · rw [Bool.and_eq_true, decide_eq_true_eq, decide_eq_true_eq] at h
    obtain ⟨rfl, h⟩ := h
    exact .inl ⟨h, _, rfl⟩
  · simp only [Bool.and_eq_true, decide_eq_true_eq] at h
    obtain ⟨⟨⟨⟨rfl, rfl⟩, rfl⟩, rfl⟩, h⟩ := h
    exact .inr ⟨rfl, h, _, _, _, _, _, _, rfl⟩
  · cases h
def iniTB (fld : Str) (body : List Stmt) (params : Arguments) (scope : Scope) : Bool :=
  (match body with
    | [.Expr (.Call (.Attribute (.Call (.Name a _) [] [] _) b p2) [c] [] p4) _, .Assign [.Attribute (.Name d _) e _] (.Name f _) _] =>
      decide (a = "super") && decide (b = "__init__") && argB fld scope c && decide (d = "self") && decide (e = fld) && decide (f = fld) && (p2.endLine == p4.line)
    | _ => false)
  && (match params with
    | ⟨[], [⟨a, _, _⟩, ⟨b, _, _⟩], none, [], [], none, []⟩ => decide (a = "self") && decide (b = fld)
    | _ => false)
  && decide (scope.kind = .function) && !scope.isCoroutine && !scope.isGenerator && scope.names.all (fun y => !decide (y.2 = .cell))
  && decide (scope.names.lookup ("super" : Str) = some .globalImplicit) && decide (scope.names.lookup ("__class__" : Str) = some .free) && decide (scope.names.lookup ("self" : Str) = some .local) && decide (scope.names.lookup fld = some .local)
  && (decide (fld = "reason") || decide (fld = "at"))
theorem iniTB_ok {fld : Str} {body : List Stmt} {params : Arguments} {scope : Scope} (h : iniTB fld body params scope = true) : IniT body params scope "self" fld fld := by
  unfold iniTB at h
  simp only [Bool.and_eq_true, decide_eq_true_eq, Bool.not_eq_true', Bool.or_eq_true, List.all_eq_true, decide_eq_false_iff_not] at h
  obtain ⟨⟨⟨⟨⟨⟨⟨⟨⟨⟨h1, h2⟩, h3⟩, h4⟩, h5⟩, h6⟩, h7⟩, h8⟩, h9⟩, h10⟩, h11⟩ := h
  have hb : ∃ e p0 p1 p2 p4 p5 p6 p7 p8 p9, body = [.Expr (.Call (.Attribute (.Call (.Name "super" p0) [] [] p1) "__init__" p2) [e] [] p4) p5, .Assign [.Attribute (.Name "self" p6) fld p7] (.Name fld p8) p9] ∧ (p2.endLine == p4.line) = true ∧
    ((fld ≠ "at" ∧ ∃ p3, e = .Name fld p3) ∨ (fld = "at" ∧ scope.names.lookup ("str" : Str) = some .globalImplicit ∧ ∃ k q0 q1 q2 q3 q4, e = .BinOp (.Constant (.str "at ") k q0) .Add (.Call (.Name "str" q1) [.Name fld q2] [] q3) q4)) := by
    split at h1
    · simp only [Bool.and_eq_true, decide_eq_true_eq] at h1
      obtain ⟨⟨⟨⟨⟨⟨q1, q2⟩, q3⟩, q4⟩, q5⟩, q6⟩, q7⟩ := h1
      subst q1 q2 q4 q5
      subst q6
      exact ⟨_, _, _, _, _, _, _, _, _, _, rfl, q7, argB_ok q3⟩
    · cases h1
  have hp : ∃ a1 a2 q1 q2, params = ⟨[], [⟨"self", a1, q1⟩, ⟨fld, a2, q2⟩], none, [], [], none, []⟩ := by
    split at h2
    · simp only [Bool.and_eq_true, decide_eq_true_eq] at h2
      obtain ⟨q1, q2⟩ := h2
      subst q1 q2
      exact ⟨_, _, _, _, rfl⟩
    · cases h2
  rcases h11 with rfl | rfl
  · exact ⟨hb, hp, h3, h4, h5, h6, h7, h8, h9, h10, by decide, ⟨rfl, .inl rfl⟩, by decide, by decide⟩
  · exact ⟨hb, hp, h3, h4, h5, h6, h7, h8, h9, h10, by decide, ⟨rfl, .inr rfl⟩, by decide, by decide⟩
def fnIB (P : Program) (K : PySem.W.Frag) (C : Addr) (fld : Str) (fd : FuncData) : Bool :=
  decide (fd.globals = mainGlobals) && decide (fd.builtins = builtinsNs) && decide (fd.defaults = .none) && decide (fd.kwdefaults = .none)
  && (match fd.body with
    | .stmts body => iniTB fld body fd.params fd.scope
    | _ => false)
  && (match fd.code with
    | .ref cda => PySem.W.codeIn K (.ref cda) fd.qualname && (match K.lookup cda with
      | some ⟨_, _, .fields vs, _⟩ => (match (vs[2]? : Option Value) with
        | some (.str f _) => decide (f = P.main.file)
        | _ => false)
      | _ => false)
    | _ => false)
  && (match fd.closure with
    | [(x, cc)] => decide (x = "__class__") && (match K.lookup cc with
      | some ⟨_, _, .cell (some v), _⟩ => decide (v = .ref C)
      | _ => false)
    | _ => false)
theorem fnIB_ok {P : Program} {K : PySem.W.Frag} {C : Addr} {fld : Str} {fd : FuncData} (h : fnIB P K C fld fd = true) : ∃ name qual params body scope doc pm an cda ct cc, fd = PySem.W.ksFn name qual params body scope .none .none doc pm an (.ref cda) ct cc ∧ IniT body params scope "self" fld fld ∧ PySem.W.codeIn K (.ref cda) qual = true ∧
    (∃ ccl cdd vs ccs tf, K.lookup cda = some ⟨ccl, cdd, .fields vs, ccs⟩ ∧ vs[2]? = some (.str P.main.file tf)) ∧ (∃ cl cld csl, K.lookup cc = some ⟨cl, cld, .cell (some (.ref C)), csl⟩) := by
  obtain ⟨name, qual, params, body, scope, glob, clo, df, kd, doc, pm, an, code, ct, bl⟩ := fd
  unfold fnIB at h
  simp only [Bool.and_eq_true, decide_eq_true_eq] at h
  obtain ⟨⟨⟨⟨⟨⟨rfl, rfl⟩, rfl⟩, rfl⟩, h5⟩, h6⟩, h7⟩ := h
  split at h5
  · rename_i body' hbd
    split at h6
    · rename_i cda hcd
      rw [Bool.and_eq_true] at h6
      obtain ⟨h6, h8⟩ := h6
      split at h8
      · rename_i ccl cdd vs ccs hk
        split at h8
        · rename_i f tf hv
          obtain rfl := of_decide_eq_true h8
          split at h7
          · rename_i x cc hcl
            simp only [Bool.and_eq_true, decide_eq_true_eq] at h7
            obtain ⟨rfl, h9⟩ := h7
            split at h9
            · rename_i cl cld v csl hc
              obtain rfl := of_decide_eq_true h9
              exact ⟨_, _, _, _, _, _, _, _, _, _, _, rfl, iniTB_ok h5, h6, ⟨_, _, _, _, _, hk, hv⟩, ⟨_, _, _, hc⟩⟩
            · cases h9
          · cases h7
        · cases h8
      · cases h8
    · cases h6
  · cases h5
def clsB (K : PySem.W.Frag) (C : Addr) : Bool := match K.lookup C with
  | some ⟨.type t, _, .cls cd, ⟨[_, _, _, _, some (.builtin n), _]⟩⟩ => decide (t = "type") && decide (n = "ValueError.__new__") && cd.hasDict && !cd.hasDel && (match cd.mro with
    | .ref c :: bm => decide (c = C) && HandSPX.refsVE bm
    | _ => false)
  | _ => false
theorem clsB_ok {K : PySem.W.Frag} {C : Addr} (h : clsB K C = true) : ∃ nm q N bs bm sn sub ab col dd k0 k1 k2 k3 k5, K.lookup C = some (excClassObj nm q C N bs bm true sn sub ab col dd k0 k1 k2 k3 k5 "ValueError.__new__") ∧ HandSPX.refsVE bm = true := by
  unfold clsB at h
  split at h
  · rename_i t dd cd k0 k1 k2 k3 n k5 hk
    simp only [Bool.and_eq_true, decide_eq_true_eq, Bool.not_eq_true'] at h
    obtain ⟨⟨⟨⟨rfl, rfl⟩, h3⟩, h4⟩, h5⟩ := h
    obtain ⟨nm, bs, mro, ns, qn, hd, sn, sub, ab, col, del⟩ := cd
    dsimp only at h3 h4 h5
    subst h3 h4
    split at h5
    · rename_i c bm hm
      simp only [Bool.and_eq_true, decide_eq_true_eq] at h5
      obtain ⟨rfl, h6⟩ := h5
      exact ⟨_, _, _, _, _, _, _, _, _, _, _, _, _, _, _, hk, h6⟩
    · cases h5
  · cases h
def iniB (P : Program) (K : PySem.W.Frag) (C : Addr) (fld : Str) : Bool :=
  clsB K C && decide (PySem.W.findIn K (.ref C) "__setattr__" = some (some (.builtin "object.__setattr__"))) && decide (PySem.W.subIn K (.ref C) (.type "BaseException") = some true) && decide (PySem.W.typeIn K (.ref C) = some (.type "type")) && PySem.W.keepIn K (.ref C)
  && (match PySem.W.findIn K (.ref C) "__init__" with
    | some (some (.ref fI)) => (match K.lookup fI with
      | some ⟨.type t, _, .func fd, _⟩ => decide (t = "function") && fnIB P K C fld fd
      | _ => false)
    | _ => false)
  && decide (PySem.W.findIn K (.ref C) fld = some none) && decide (PySem.W.subIn K (.ref C) (.type "ValueError") = some true) && decide (PySem.W.mroIn K C (.ref C) = some true) && decide (PySem.W.ks_superIn K C C "__init__" = some (some (.builtin "ValueError.__init__")))
  && decide (PySem.W.nsIn K cStatics "thirdparty.any" = some none) && (decide (PySem.W.nsIn K mainGlobals "super" = some none) && (!decide (fld = "at") || decide (PySem.W.nsIn K mainGlobals "str" = some none))) && !(P.main.scope.names.lookup ("super" : Str)).isSome && xfB K C
theorem iniB_ok {P : Program} {K : PySem.W.Frag} {C : Addr} {fld : Str} (h : iniB P K C fld = true) : (∃ fI fd, IniC P K C fI fd "self" fld fld) ∧ XfC K C ∧ PySem.W.findIn K (.ref C) fld = some none := by
  unfold iniB at h
  simp only [Bool.and_eq_true, decide_eq_true_eq, Bool.not_eq_true', Bool.or_eq_true, decide_eq_false_iff_not] at h
  obtain ⟨⟨⟨⟨⟨⟨⟨⟨⟨⟨⟨⟨⟨h1, h2⟩, h3⟩, h4⟩, h5⟩, h6⟩, h7⟩, h8⟩, h9⟩, h10⟩, h11⟩, h12, h12s⟩, h13⟩, h14⟩ := h
  refine ⟨?_, xfB_ok h14, h7⟩
  split at h6
  · rename_i fI hi
    split at h6
    · rename_i t od fd osl hk
      simp only [Bool.and_eq_true, decide_eq_true_eq] at h6
      obtain ⟨rfl, h6⟩ := h6
      obtain ⟨name, qual, params, body, scope, doc, pm, an, cda, ct, cc, q1, q2, q3, q4, q5⟩ := fnIB_ok h6
      exact ⟨fI, fd, ⟨clsB_ok h1, h2, h3, h4, h5⟩, hi, h7, h8, h9, h10, h11, ⟨name, qual, params, body, scope, doc, pm, an, cda, ct, cc, _, od, osl, hk, rfl, q1, q2, q3, q4, q5⟩, h12, fun z => h12s.resolve_left (fun n => n z), h13⟩
    · cases h6
  · cases h6
/-! ### the Hook, the statics within -/
def asY (g : Addr → Option Obj) (n : Nat) : List Addr := He.asD g n ++ [cStatics]
def obsY (n : Nat) (fa : List He.Fa) (fn : List He.DefD) (ex : PySem.W.Frag → Bool) (g : Addr → Option Obj) : He.AlX := (He.obsT fa fn [] (He.frT g (asY g n)), ex (He.frT g (asY g n)))
theorem saysY_of {n : Nat} {fa : List He.Fa} {fn : List He.DefD} {ex : PySem.W.Frag → Bool} {w : World} {h : Heap} (e : obsY n fa fn ex h.get? = He.valX fn [] w) : He.SaysX fa fn [] [] ex w h (He.frT h.get? (asY h.get? n)) := by
  have e1 : He.obsT fa fn [] (He.frT h.get? (asY h.get? n)) = He.valT fn [] w := congrArg (fun z : He.AlX => z.1) e
  have e2 : ex (He.frT h.get? (asY h.get? n)) = true := congrArg (fun z : He.AlX => z.2) e
  exact ⟨e1, e2, fun _ z => (nomatch z), fun _ z => (nomatch z), fun _ z => (nomatch z)⟩
def hookY (n : Nat) (fa : List He.Fa) (fn : List He.DefD) (ex : PySem.W.Frag → Bool) : PySem.W.Hook where
  α := He.AlX
  obs := fun s => obsY n fa fn ex s.heap.get?
  val := fun w => He.valX fn [] w
  says := fun w h => ∃ K : PySem.W.Frag, K.In h ∧ He.SaysX fa fn [] [] ex w h K
  of := fun _ _ e => ⟨_, He.frT_in, saysY_of e⟩
  keeps := fun _ _ _ ⟨K, hK, c⟩ k => ⟨K, PySem.W.Frag.In.keeps hK k, ⟨c.t, c.more, c.hd, c.out, fun p hp => k _ _ (c.empty p hp)⟩⟩
theorem obsY_eq {n : Nat} {fa : List He.Fa} {fn : List He.DefD} {ex : PySem.W.Frag → Bool} {g : Addr → Option Obj} {s : Shared} (h : ∀ a, g a = s.heap.get? a) : obsY n fa fn ex g = (hookY n fa fn ex).obs s := by
  have e : g = s.heap.get? := funext h
  rw [e] <;> rfl
/-! ### the module -/
structure Md where
  ds : List Dd
  gl : List (Str × PyData)
  cl : List (Nat × Str)
  ex : List (Str × List Nat)
def Md.tb (m : Md) : Tb := ⟨fun n => (m.ds[n]?).map (·.name), m.gl, fun n => m.cl.lookup n, m.ex⟩
def Md.Φ (m : Md) (n : Nat) : Option Fn := (m.ds[n]?).map (·.fn)
def Md.G (m : Md) : List PyData := m.gl.map (·.2)
def Md.fn (m : Md) : List He.DefD := m.ds.map Dd.he
def Md.fa (m : Md) : List He.Fa := m.ds.map (fun d => .glo d.name) ++ bltN.map He.Fa.free ++ m.cl.map (fun p => .glo p.2) ++ (m.cl.filter fun p => (fieldN p.1).isNone).map (fun p => .exc p.2) ++ (m.ex.flatMap fun p => m.cl.map fun q => .exm q.2 p.1 (p.2.contains q.1)) ++ m.ex.map (fun p => .glo p.1)
/-- isinstance of what is caught -/
def exCB (K : PySem.W.Frag) (D : Addr) : Bool := decide (PySem.W.findIn K (.ref D) "__getattribute__" = some (some (.builtin "BaseException.__getattribute__"))) && decide (PySem.W.findIn K (.ref D) "__getattr__" = some none) && decide (PySem.W.subIn K (.ref D) (.type "BaseException") = some true) && PySem.W.hasDictIn K D && decide (PySem.W.findIn K (.ref D) "__class__" = some (some (.builtin "object.__class__")))
  && decide (PySem.W.specialIn K (.builtin "object.__class__") "__get__" = some (some (.builtin "getset_descriptor.__get__"))) && decide (PySem.W.takesIn K (.builtin "object.__class__") = some true) && decide (PySem.W.mroIn K D (.type "object") = some true)
def isxB (K : PySem.W.Frag) (ex : List (Str × List Nat)) (p : Nat × Str) : Bool := exCB K (He.ga K p.2) && decide (PySem.W.kitOne K (.ref (He.ga K p.2)) (.type "ValueError") = some true) && ex.all fun q => decide (PySem.W.kitOne K (.ref (He.ga K p.2)) (.ref (He.ga K q.1)) = some (q.2.contains p.1))
theorem isxB_ok {K : PySem.W.Frag} {ex : List (Str × List Nat)} {p : Nat × Str} (h : isxB K ex p = true) : ExcC K (He.ga K p.2) ∧ PySem.W.kitOne K (.ref (He.ga K p.2)) (.type "ValueError") = some true ∧ ∀ q ∈ ex, PySem.W.kitOne K (.ref (He.ga K p.2)) (.ref (He.ga K q.1)) = some (q.2.contains p.1) := by
  unfold isxB exCB at h
  simp only [Bool.and_eq_true, decide_eq_true_eq, List.all_eq_true] at h
  obtain ⟨⟨⟨⟨⟨⟨⟨⟨⟨h1, h2⟩, h3⟩, h4⟩, h5⟩, h6⟩, h7⟩, h8⟩, h9⟩, h10⟩ := h
  exact ⟨⟨h1, h2, h3, h4, h5, h6, h7, h8⟩, h9, h10⟩
def Md.more (m : Md) (P : Program) (K : PySem.W.Frag) : Bool := constB m.gl K && m.cl.all (isxB K m.ex) && m.cl.all fun p => match fieldN p.1 with
  | none => true
  | some f => iniB P K (He.ga K p.2) f
/-- the check of the whole -/
def Md.ok (m : Md) : Bool := m.ds.all (Dd.ok m.tb)
theorem lookup_mem {α β : Type} [BEq α] [LawfulBEq α] {a : α} {b : β} : ∀ {l : List (α × β)}, l.lookup a = some b → (a, b) ∈ l
  | (x, y) :: r, h => by
    rw [List.lookup_cons] at h
    split at h
    · rename_i e
      cases h
      have := beq_iff_eq.mp e
      subst this
      exact List.mem_cons_self
    · exact List.mem_cons_of_mem _ (lookup_mem h)
section
variable {m : Md} {K : PySem.W.Frag} {h : Heap} {mg : Str → Option Value} {w : World}
def Md.ca (m : Md) (K : PySem.W.Frag) (c : Nat) : Option Addr := (m.cl.lookup c).map (He.ga K)
def Md.adr (m : Md) (K : PySem.W.Frag) (f : Nat) : Option Addr := (m.ds[f]?).map fun d => He.ga K d.name
theorem base_of' {P : Program} (X : K.In h) (G : h.Ns mainGlobals mg) (c : He.SaysX m.fa m.fn [] [] (m.more P) w h K) : Base m.tb P K mg m.G (m.ca K) where
  blt := fun x hx => He.free_ok X G (c.t.d.facts (by
    unfold Md.fa
    simp only [List.mem_append, List.mem_map]
    exact .inl (.inl (.inl (.inl (.inr ⟨x, List.contains_iff_mem.mp hx, rfl⟩))))))
  gl := fun i x d hi => by
    have hall := List.all_eq_true.mp (Bool.and_eq_true_iff.mp (Bool.and_eq_true_iff.mp c.more).1).1 (x, d) (List.mem_of_getElem? hi)
    dsimp only at hall
    split at hall
    · rename_i u hu
      obtain ⟨v, h1, h2⟩ := readB_ok d u hall
      exact ⟨v, u, PySem.W.mg_of X G hu, h1, h2⟩
    · cases hall
  G := rfl
  cl := fun k x hx hf => by
    have hm := lookup_mem (show m.cl.lookup k = some x from hx)
    have f1 : (He.Fa.glo x).ok K = true := c.t.d.facts (by
      unfold Md.fa
      simp only [List.mem_append, List.mem_map]
      exact .inl (.inl (.inl (.inr ⟨(k, x), hm, rfl⟩))))
    have f2 : (He.Fa.exc x).ok K = true := c.t.d.facts (by
      unfold Md.fa
      simp only [List.mem_append, List.mem_map]
      exact .inl (.inl (.inr ⟨(k, x), List.mem_filter.mpr ⟨hm, by rw [hf]; rfl⟩, rfl⟩)))
    obtain ⟨e1, e2, e3, e4⟩ := He.exc_ok f2
    refine ⟨He.ga K x, He.veBase, "ValueError", "ValueError.__new__", "ValueError.__init__", ?_, PySem.F.excBase_ValueError, e1, He.glo_ok X G f1, e2, e3, e4⟩
    show (m.cl.lookup k).map (He.ga K) = _
    rw [show m.cl.lookup k = some x from hx]; rfl
  cx := fun k x fld hx hf => by
    have hm := lookup_mem (show m.cl.lookup k = some x from hx)
    have f1 : (He.Fa.glo x).ok K = true := c.t.d.facts (by
      unfold Md.fa
      simp only [List.mem_append, List.mem_map]
      exact .inl (.inl (.inl (.inr ⟨(k, x), hm, rfl⟩))))
    have hall := List.all_eq_true.mp (Bool.and_eq_true_iff.mp c.more).2 (k, x) hm
    dsimp only at hall
    rw [hf] at hall
    obtain ⟨⟨fI, fd, q⟩, -⟩ := iniB_ok hall
    refine ⟨He.ga K x, fI, fd, _, _, ?_, q, He.glo_ok X G f1⟩
    show (m.cl.lookup k).map (He.ga K) = _
    rw [show m.cl.lookup k = some x from hx]; rfl
  xf := fun k a fn ha hf => by
    obtain ⟨x, hx, rfl⟩ := Option.map_eq_some_iff.mp (show (m.cl.lookup k).map (He.ga K) = some a from ha)
    have hm := lookup_mem hx
    have hall := List.all_eq_true.mp (Bool.and_eq_true_iff.mp c.more).2 (k, x) hm
    dsimp only at hall
    rw [hf] at hall
    exact (iniB_ok hall).2
  isx := fun k a ha => by
    obtain ⟨x, hx, rfl⟩ := Option.map_eq_some_iff.mp (show (m.cl.lookup k).map (He.ga K) = some a from ha)
    obtain ⟨h1, h2, h3⟩ := isxB_ok (List.all_eq_true.mp (Bool.and_eq_true_iff.mp (Bool.and_eq_true_iff.mp c.more).1).2 (k, x) (lookup_mem hx))
    refine ⟨h1, h2, fun y cs hy => ?_⟩
    have hm := lookup_mem (show m.ex.lookup y = some cs from hy)
    have f1 : (He.Fa.glo y).ok K = true := c.t.d.facts (by
      unfold Md.fa
      simp only [List.mem_append, List.mem_map]
      exact .inr ⟨(y, cs), hm, rfl⟩)
    exact ⟨He.ga K y, He.glo_ok X G f1, h3 (y, cs) hm⟩
  ex := fun x cs hx => by
    have hm := lookup_mem (show m.ex.lookup x = some cs from hx)
    have f1 : (He.Fa.glo x).ok K = true := c.t.d.facts (by
      unfold Md.fa
      simp only [List.mem_append, List.mem_map]
      exact .inr ⟨(x, cs), hm, rfl⟩)
    refine ⟨.ref (He.ga K x), He.glo_ok X G f1, fun k a ha => ?_⟩
    obtain ⟨y, hy, rfl⟩ := Option.map_eq_some_iff.mp (show (m.cl.lookup k).map (He.ga K) = some a from ha)
    have f2 : (He.Fa.exm y x (cs.contains k)).ok K = true := c.t.d.facts (by
      unfold Md.fa
      simp only [List.mem_append, List.mem_map, List.mem_flatMap]
      exact .inl (.inr ⟨(x, cs), hm, (k, y), lookup_mem hy, rfl⟩))
    exact He.exm_ok f2
theorem name_of {P : Program} (X : K.In h) (G : h.Ns mainGlobals mg) (c : He.SaysX m.fa m.fn [] [] (m.more P) w h K) (f : Nat) (x : Str) (hf : m.tb.nm f = some x) : ∃ a, m.adr K f = some a ∧ mg x = some (.ref a) := by
  obtain ⟨d, hd, rfl⟩ := Option.map_eq_some_iff.mp (show (m.ds[f]?).map (·.name) = some x from hf)
  refine ⟨He.ga K d.name, by unfold Md.adr; rw [hd]; rfl, He.glo_ok X G (c.t.d.facts ?_)⟩
  unfold Md.fa
  simp only [List.mem_append, List.mem_map]
  exact .inl (.inl (.inl (.inl (.inl ⟨d, List.mem_of_getElem? hd, rfl⟩))))
theorem def_of {P : Program} (c : He.SaysX m.fa m.fn [] [] (m.more P) w h K) {d : Dd} (hd : d ∈ m.ds) : ∃ fd, FunD K d.name d.name (defArgs d.st) (defBody d.st) (defScope d.st) [] [] (He.ga K d.name) fd :=
  c.t.d.defs (d := d.he) (List.mem_map.mpr ⟨d, hd, rfl⟩)
theorem lvl {P : Program} {base : Heap} (X : K.In h) (G : h.Ns mainGlobals mg) (c : He.SaysX m.fa m.fn [] [] (m.more P) w h K) (hok : m.ok = true) (hb : BindAll m.ds) : ∀ n, Lvl m.tb P w K mg base (m.adr K) (m.ca K) m.Φ m.G n
  | 0 => ⟨fun f a ha => by
    obtain ⟨d, hd, rfl⟩ := Option.map_eq_some_iff.mp (show (m.ds[f]?).map (fun d => He.ga K d.name) = some a from ha)
    have hm := List.mem_of_getElem? hd
    obtain ⟨fd, F⟩ := def_of c hm
    refine ⟨fd, d.ps, ⟨fun vs H Q E q => ?_, fun A outer s H args us vs Q E _ hr e0 hbd r q => ?_⟩, F.kp, F.bindsN (hb.mem hm)⟩
    · obtain ⟨wf, hid, μ, S, ds, _, _, p⟩ := q; exact p.elim
    · obtain ⟨wf, hid, μ, S, ds, _, _, p⟩ := q; exact p.elim⟩
  | n + 1 => ⟨fun f a ha => by
    obtain ⟨d, hd, rfl⟩ := Option.map_eq_some_iff.mp (show (m.ds[f]?).map (fun d => He.ga K d.name) = some a from ha)
    have hm := List.mem_of_getElem? hd
    obtain ⟨fd, F⟩ := def_of c hm
    have hD := Dd.ok_def (List.all_eq_true.mp hok d hm)
    have hΦ : m.Φ f = some d.fn := by unfold Md.Φ; rw [hd]; rfl
    exact ⟨fd, d.ps, fn_step (base_of' X G c) (name_of X G c) (lvl X G c hok hb n) hΦ F hD, F.kp, F.bindsN (hb.mem hm)⟩⟩
/-- the law's own promise -/
def spLaw (m : Md) (K : PySem.W.Frag) (n f : Nat) : Sp := fun vs H Q _ => spW ⟨K, ⟨m.adr K, fun _ => False⟩, m.ca K⟩ m.Φ m.G n f vs H Q fun _ _ _ => False
theorem law_fn {P : Program} (X : K.In h) (G : h.Ns mainGlobals mg) (c : He.SaysX m.fa m.fn [] [] (m.more P) w h K) (hok : m.ok = true) (hb : BindAll m.ds) (n f : Nat) {d : Dd} (hd : m.ds[f]? = some d) :
    ∃ fd, mg d.name = some (.ref (He.ga K d.name)) ∧ Binds K fd d.ps [] ∧ (∀ (s : Shared) (us : List Value), us.length = d.ps.length → BindsTo s fd ⟨us, []⟩ (d.ps.zip us)) ∧ ∀ base : Heap, FnG P w K mg base L2.CX0 (n + 3) (He.ga K d.name) fd d.ps (spLaw m K (n + 1) f) := by
  have hm := List.mem_of_getElem? hd
  obtain ⟨fd, F⟩ := def_of c hm
  have hD := Dd.ok_def (List.all_eq_true.mp hok d hm)
  have hΦ : m.Φ f = some d.fn := by unfold Md.Φ; rw [hd]; rfl
  obtain ⟨a, h1, h2⟩ := name_of X G c f d.name (by show (m.ds[f]?).map (·.name) = _; rw [hd]; rfl)
  have ha : a = He.ga K d.name := by
    unfold Md.adr at h1
    rw [hd] at h1
    exact (Option.some.inj h1).symm
  subst ha
  exact ⟨fd, h2, F.bindsN (hb.mem hm), fun s us hl => F.bindsA (hb.mem hm) s us hl, fun base => fn_law (base_of' X G c) (name_of X G c) (lvl X G c hok hb n) hΦ F hD⟩
/-- the plain law gives it -/
theorem law_sp {n f : Nat} {most : Nat} (plain : ∀ ns : List Int, ns.length ≤ most → ∃ wf, callN m.Φ wf m.G n f [lk (ns.map .int)] [] = .ok (.bool true) []) {H : Hp} {a : Addr} {ns : List Int} (hl : ns.length ≤ most) (hS : SqL K H a (ns.map V.int)) : spLaw m K n f [.ref a] H (fun v _ => v = .bl true) (fun _ _ _ => False) := by
  obtain ⟨wf, e⟩ := plain ns hl
  have intsR : ∀ (fb : Mk.Fa) (ns : List Int), RelDs K fb [] H (ns.map .int) (ns.map V.int) := fun fb ns => by
    induction ns with
    | nil => exact .nil
    | cons i r ih => exact .cons (.int i) ih
  have lkr : LkAt K ⟨m.adr K, fun _ => False⟩ [] H a (ns.map V.int) := by
    rcases hS with h | h
    · exact .inl ⟨h, by simp, fun z => z⟩
    · exact .inr fun H' => .inr h
  refine ⟨wf, fun _ => False, [], [], [lk (ns.map .int)], ⟨rfl, List.nodup_nil, fun k a c h1 => by simp at h1, fun b hb => hb.elim⟩, .cons (.lk lkr (intsR _ ns)) .nil, ?_⟩
  rw [e]
  intro v H' μ' _ _ r
  cases r; rfl
end
end Mk

set_option Elab.async false
set_option linter.all false
set_option maxRecDepth 100000
set_option maxHeartbeats 1000000
/-! MkL: the laws' own draws: _law_draw, _law_take. -/
namespace Mk
open PySem PySem.W
def drawT : T := (.cons (.asg (.var 1) (.cst (.int 7))) (.cons (.for_ (.var 2) (.var 0) (.cons (.asg (.var 1) (.bin .mod (.blt .int (.cons (.bin .add (.bin .add (.bin .mul (.var 1) (.cst (.int 48271))) (.bin .mod (.blt .abs (.cons (.blt .int (.cons (.var 2) .nil)) .nil)) (.cst (.int 65521)))) (.cst (.int 1))) .nil)) (.cst (.int 2147483647)))) .nil)) (.cons (.ret (.thaw (.lst (.cons (.comp [2] (.gen (.var 2) (.var 0) .nil .nil) (.blt .abs (.cons (.blt .int (.cons (.var 2) .nil)) .nil))) (.cons (.neg (.cst (.int 1))) (.cons (.cst (.int 0)) (.cons (.var 1) .nil))))))) .nil)))
def drawF : Fn := ⟨1, 3, drawT, true⟩
def takeT : T := (.cons (.if_ (.cmp .eq (.sub (.var 0) (.cst (.int 2))) (.cst (.int 0))) (.cons (.set (.var 0) (.cst (.int 1)) (.bin .add (.sub (.var 0) (.cst (.int 1))) (.cst (.int 1)))) (.cons (.if_ (.cmp .lt (.sub (.var 0) (.cst (.int 1))) (.blt .len (.cons (.sub (.var 0) (.cst (.int 0))) .nil))) (.cons (.set (.var 0) (.cst (.int 2)) (.sub (.sub (.var 0) (.cst (.int 0))) (.sub (.var 0) (.cst (.int 1))))) .nil) .nil) (.cons (.if_ (.cmp .eq (.sub (.var 0) (.cst (.int 2))) (.cst (.int 0))) (.cons (.set (.var 0) (.cst (.int 3)) (.bin .mod (.blt .int (.cons (.bin .add (.bin .mul (.sub (.var 0) (.cst (.int 3))) (.cst (.int 48271))) (.cst (.int 11))) .nil)) (.cst (.int 2147483647)))) (.cons (.set (.var 0) (.cst (.int 2)) (.sub (.var 0) (.cst (.int 3)))) .nil)) .nil) .nil))) .nil) (.cons (.asg (.var 2) (.bin .mod (.blt .int (.cons (.sub (.var 0) (.cst (.int 2))) .nil)) (.var 1))) (.cons (.set (.var 0) (.cst (.int 2)) (.bin .fdiv (.sub (.var 0) (.cst (.int 2))) (.var 1))) (.cons (.ret (.var 2)) .nil))))
def takeF : Fn := ⟨2, 3, takeT, false⟩
theorem mul_small {s k : Int} (h0 : 0 ≤ s) (h : s < 2147483647) (hk : k.natAbs.log2 < 900000) : binI .mul s k = some (s * k) := by
  have : s.natAbs.log2 < 31 := by
    by_cases e : s.natAbs = 0
    · rw [e]; decide
    · exact (Nat.log2_lt e).mpr (by omega)
  show (if s.natAbs.log2 + k.natAbs.log2 < 1000000 then some (s * k) else none) = _
  rw [if_pos (by omega)]
def absI (i : Int) : Int := if i < 0 then -i else i
theorem draw_turn {cf : CF} {wf : Nat} {G : List PyData} {L : PyData} {s i : Int} {S : Store} (h0 : 0 ≤ s) (h : s < 2147483647) :
    (den cf wf G (.cons (.asg (.var 1) (.bin .mod (.blt .int (.cons (.bin .add (.bin .add (.bin .mul (.var 1) (.cst (.int 48271))) (.bin .mod (.blt .abs (.cons (.blt .int (.cons (.var 2) .nil)) .nil)) (.cst (.int 65521)))) (.cst (.int 1))) .nil)) (.cst (.int 2147483647)))) .nil)).s [some L, some (.int s), some (.int i)] S =
      .nx [some L, some (.int ((s * 48271 + absI i % 65521 + 1) % 2147483647)), some (.int i)] S := by
  have hm : binI .mul s 48271 = some (s * 48271) := mul_small h0 h (by decide +kernel)
  simp only [den, deE, noDen, sSeq, sAsg, sPass, pVar, setV, eBin, eBlt, eVar, eCst, esCons, esNil, R.bind, R.toS, SR.seq, ofO, ofE, opB, bltD, one, int1D, absD, hm, Option.map, List.getElem?_cons_succ, List.getElem?_cons_zero]
  simp [binI, absI]
theorem lenOk_of {n : Nat} (h : n ≤ 1000000) : lenOk n = true := decide_eq_true (by rw [sizeLine_eq]; omega)
theorem draw_loop {cf : CF} {wf : Nat} {G : List PyData} {L : PyData} {ns : List Int} {S : Store} : ∀ (f n : Nat) (s : Int) (c : Option PyData), n + f = ns.length → 0 ≤ s → s < 2147483647 →
    ∃ s' c', 0 ≤ s' ∧ s' < 2147483647 ∧ loopF (.seq (ns.map .int)) (pVar 2) (den cf wf G (.cons (.asg (.var 1) (.bin .mod (.blt .int (.cons (.bin .add (.bin .add (.bin .mul (.var 1) (.cst (.int 48271))) (.bin .mod (.blt .abs (.cons (.blt .int (.cons (.var 2) .nil)) .nil)) (.cst (.int 65521)))) (.cst (.int 1))) .nil)) (.cst (.int 2147483647)))) .nil)).s f n [some L, some (.int s), c] S = .nx [some L, some (.int s'), c'] S
  | 0, n, s, c, h, h0, h1 => by
    refine ⟨s, c, h0, h1, ?_⟩
    unfold loopF
    have : (Mk.It.seq (ns.map .int)).at S n = none := by
      show (ns.map PyData.int)[n]? = none
      rw [List.getElem?_eq_none]; rw [List.length_map]; omega
    rw [this]
  | f + 1, n, s, c, h, h0, h1 => by
    have hn : n < ns.length := by omega
    have : (Mk.It.seq (ns.map .int)).at S n = some (.int ns[n]) := by
      show (ns.map PyData.int)[n]? = some (.int ns[n])
      rw [List.getElem?_map, List.getElem?_eq_getElem hn]; rfl
    have hs : 0 ≤ (s * 48271 + absI ns[n] % 65521 + 1) % 2147483647 ∧ (s * 48271 + absI ns[n] % 65521 + 1) % 2147483647 < 2147483647 := ⟨Int.emod_nonneg _ (by decide), Int.emod_lt_of_pos _ (by decide)⟩
    obtain ⟨s', c', g0, g1, e⟩ := draw_loop (cf := cf) (wf := wf) (G := G) (L := L) (ns := ns) (S := S) f (n + 1) _ (some (.int ns[n])) (by omega) hs.1 hs.2
    refine ⟨s', c', g0, g1, ?_⟩
    unfold loopF
    rw [this]
    show (match (den cf wf G (.cons (.asg (.var 1) (.bin .mod (.blt .int (.cons (.bin .add (.bin .add (.bin .mul (.var 1) (.cst (.int 48271))) (.bin .mod (.blt .abs (.cons (.blt .int (.cons (.var 2) .nil)) .nil)) (.cst (.int 65521)))) (.cst (.int 1))) .nil)) (.cst (.int 2147483647)))) .nil)).s [some L, some (.int s), some (.int ns[n])] S with
      | .nx ρ2 S2 => loopF _ _ _ f (n + 1) ρ2 S2
      | .ct ρ2 S2 => loopF _ _ _ f (n + 1) ρ2 S2
      | .bk ρ2 S2 => .nx ρ2 S2
      | r => r) = _
    rw [draw_turn h0 h1]
    exact e
theorem draw_comp {cf : CF} {wf : Nat} {G : List PyData} {ns : List Int} {ρ : Env} {S : Store} (hρ : 2 < ρ.length) (hl : ns.length ≤ 1000) : ∀ (f n : Nat) (acc : List PyData), n + f = ns.length → acc = (ns.take n).map (fun i => .int (absI i)) →
    loopC (.seq (ns.map .int)) (pVar 2) bYes (gNil (eBlt .abs (esCons (eBlt .int (esCons (eVar 2) esNil)) esNil))) ρ f n S acc = .ok (ns.map fun i => .int (absI i)) S
  | 0, n, acc, h, ha => by
    unfold loopC
    have : (Mk.It.seq (ns.map .int)).at S n = none := by
      show (ns.map PyData.int)[n]? = none
      rw [List.getElem?_eq_none]; rw [List.length_map]; omega
    rw [this, ha, List.take_of_length_le (by omega)]
  | f + 1, n, acc, h, ha => by
    have hn : n < ns.length := by omega
    have : (Mk.It.seq (ns.map .int)).at S n = some (.int ns[n]) := by
      show (ns.map PyData.int)[n]? = some (.int ns[n])
      rw [List.getElem?_map, List.getElem?_eq_getElem hn]; rfl
    have ih := draw_comp (cf := cf) (wf := wf) (G := G) (S := S) hρ hl f (n + 1) (acc ++ [.int (absI ns[n])]) (by omega) (by rw [ha, List.take_succ, List.getElem?_eq_getElem hn, List.map_append]; rfl)
    have hlen : acc.length = n := by rw [ha, List.length_map, List.length_take]; omega
    unfold loopC
    rw [this]
    have hp : pVar 2 S (.int ns[n]) ρ = some (ρ.set 2 (some (.int ns[n]))) := if_pos hρ
    have hv : (ρ.set 2 (some (.int ns[n])))[2]? = some (some (.int ns[n])) := List.getElem?_set_self hρ
    have hok : lenOk (acc.length + 1) = true := lenOk_of (by omega)
    simp only [hp, bYes, R.bind, if_true, gNil, eBlt, esCons, esNil, eVar, hv, bltD, one, int1D, absD, ofO, guard', hok]
    exact ih
theorem den_cons {cf : CF} {wf : Nat} {G : List PyData} {a b : T} {ρ : Env} {S : Store} : (den cf wf G (.cons a b)).s ρ S = SR.seq ((den cf wf G a).s ρ S) (den cf wf G b).s := rfl
theorem seq_nx {ρ : Env} {S : Store} {k : Env → Store → SR} : SR.seq (.nx ρ S) k = k ρ S := rfl
theorem den_ret {cf : CF} {wf : Nat} {G : List PyData} {a : T} {ρ : Env} {S : Store} : (den cf wf G (.ret a)).s ρ S = R.toS ((den cf wf G a).e ρ S) ρ (fun d S1 => .rt d S1) := rfl
theorem den_thaw {cf : CF} {wf : Nat} {G : List PyData} {a : T} {ρ : Env} {S : Store} : (den cf wf G (.thaw a)).e ρ S = R.bind ((den cf wf G a).e ρ S) thawD := rfl
theorem den_lst {cf : CF} {wf : Nat} {G : List PyData} {a : T} {ρ : Env} {S : Store} : (den cf wf G (.lst a)).e ρ S = R.bind ((den cf wf G a).es ρ S) (fun xs S1 => guard' (lenOk xs.length) (.ok (.list xs) S1)) := rfl
theorem den_esc {cf : CF} {wf : Nat} {G : List PyData} {a b : T} {ρ : Env} {S : Store} : (den cf wf G (.cons a b)).es ρ S = R.bind ((den cf wf G a).e ρ S) (fun x S1 => R.bind ((den cf wf G b).es ρ S1) fun xs S2 => .ok (x :: xs) S2) := rfl
theorem draw_run {cf : CF} {wf : Nat} {G : List PyData} {ns : List Int} (hl : ns.length ≤ 63) :
    ∃ seed, 0 ≤ seed ∧ seed < 2147483647 ∧ runF cf wf G drawF [lk (ns.map .int)] [] = .ok (rf 0) [.lst [.list (ns.map fun i => .int (absI i)), .int (-1), .int 0, .int seed]] := by
  obtain ⟨s', c', g0, g1, e⟩ := draw_loop (cf := cf) (wf := wf) (G := G) (L := lk (ns.map .int)) (ns := ns) (S := []) ns.length 0 7 none (by omega) (by decide) (by decide)
  refine ⟨s', g0, g1, ?_⟩
  have hc := draw_comp (cf := cf) (wf := wf) (G := G) (ns := ns) (ρ := wipeE (wipeE [some (lk (ns.map .int)), some (.int s'), c'] [2]) [2]) (S := []) (by simp [wipeE]) (by omega) ns.length 0 [] (by omega) rfl
  have hcl : clDs (ns.map fun i => PyData.int (absI i)) = true := by
    clear hl g0 g1 e hc
    induction ns with
    | nil => rfl
    | cons a r ih => simp only [List.map_cons, clDs, clD, ih, Bool.and_self]
  have body : (den cf wf G drawT).s [some (lk (ns.map .int)), none, none] [] = .rt (rf 0) [.lst [.list (ns.map fun i => .int (absI i)), .int (-1), .int 0, .int s']] := by
    have hf : (den cf wf G (.for_ (.var 2) (.var 0) (.cons (.asg (.var 1) (.bin .mod (.blt .int (.cons (.bin .add (.bin .add (.bin .mul (.var 1) (.cst (.int 48271))) (.bin .mod (.blt .abs (.cons (.blt .int (.cons (.var 2) .nil)) .nil)) (.cst (.int 65521)))) (.cst (.int 1))) .nil)) (.cst (.int 2147483647)))) .nil))).s [some (lk (ns.map .int)), some (.int 7), none] [] = .nx [some (lk (ns.map .int)), some (.int s'), c'] [] := by
      have : (Mk.It.seq (ns.map .int)).len [] = ns.length := by show (ns.map PyData.int).length = _; rw [List.length_map]
      show loopF (.seq (ns.map .int)) _ _ ((Mk.It.seq (ns.map .int)).len []) 0 _ _ = _
      rw [this]; exact e
    have ha : (den cf wf G (.asg (.var 1) (.cst (.int 7)))).s [some (lk (ns.map .int)), none, none] [] = .nx [some (lk (ns.map .int)), some (.int 7), none] [] := rfl
    have hcomp : (den cf wf G (.comp [2] (.gen (.var 2) (.var 0) .nil .nil) (.blt .abs (.cons (.blt .int (.cons (.var 2) .nil)) .nil)))).e [some (lk (ns.map .int)), some (.int s'), c'] [] = .ok (.list (ns.map fun i => .int (absI i))) [] := by
      have : (Mk.It.seq (ns.map .int)).len [] = ns.length := by show (ns.map PyData.int).length = _; rw [List.length_map]
      show R.bind (noX (loopC (.seq (ns.map .int)) _ _ _ _ ((Mk.It.seq (ns.map .int)).len []) 0 [] [])) _ = _
      rw [this]
      show R.bind (noX (loopC (.seq (ns.map .int)) (pVar 2) bYes (gNil (eBlt .abs (esCons (eBlt .int (esCons (eVar 2) esNil)) esNil))) (wipeE (wipeE [some (lk (ns.map .int)), some (.int s'), c'] [2]) [2]) ns.length 0 [] [])) _ = _
      rw [hc]; rfl
    show (den cf wf G (.cons _ (.cons _ (.cons (.ret (.thaw (.lst (.cons (.comp [2] (.gen (.var 2) (.var 0) .nil .nil) (.blt .abs (.cons (.blt .int (.cons (.var 2) .nil)) .nil))) (.cons (.neg (.cst (.int 1))) (.cons (.cst (.int 0)) (.cons (.var 1) .nil))))))) .nil)))).s _ _ = _
    rw [den_cons, ha, seq_nx, den_cons, hf, seq_nx, den_cons, den_ret, den_thaw, den_lst, den_esc, hcomp]
    rfl
  unfold runF
  show (match (den cf wf G drawT).s [some (lk (ns.map .int)), none, none] [] with
    | .rt d S' => leave true 0 d S'
    | .nx _ S' => leave true 0 .none S'
    | .exc c _ S' => _
    | _ => .stuck) = _
  rw [body]
  show leave true 0 (rf 0) [.lst [.list (ns.map fun i => .int (absI i)), .int (-1), .int 0, .int s']] = _
  have hb : blwC 0 (.lst [.list (ns.map fun i => .int (absI i)), .int (-1), .int 0, .int s']) = true := by
    show ([PyData.list (ns.map fun i => .int (absI i)), .int (-1), .int 0, .int s'].all (blwD 0)) = true
    simp [blwD, clD, hcl]
  unfold leave
  simp only [List.length_cons, List.take_zero, List.all_nil, Bool.and_true, decide_true, isRf, if_true, Nat.zero_le, List.getElem?_cons_zero, hb, Bool.and_self]
  rfl
end Mk

set_option Elab.async false
set_option linter.all false
set_option maxRecDepth 100000
set_option maxHeartbeats 1000000
namespace Mk
open PySem PySem.W L2
/-- the draw's cell -/
abbrev dc (as : List Int) (at_ r s : Int) : Cell := .lst [.list (as.map .int), .int at_, .int r, .int s]
section
variable {cf : CF} {wf : Nat} {G : List PyData} {S : Store} {c : Nat} {as : List Int} {a r s m : Int} {o : Option PyData}
theorem dc_sub (hS : S[c]? = some (dc as a r s)) : subD S (rf c) (.int 0) = some (.list (as.map .int)) ∧ subD S (rf c) (.int 1) = some (.int a) ∧ subD S (rf c) (.int 2) = some (.int r) ∧ subD S (rf c) (.int 3) = some (.int s) := by
  refine ⟨?_, ?_, ?_, ?_⟩ <;> (simp only [subD, hS]; rfl)
theorem dc_set (hS : S[c]? = some (dc as a r s)) (x : PyData) : setD S (rf c) (.int 1) x = some (S.set c (.lst [.list (as.map .int), x, .int r, .int s])) ∧ setD S (rf c) (.int 2) x = some (S.set c (.lst [.list (as.map .int), .int a, x, .int s])) ∧ setD S (rf c) (.int 3) x = some (S.set c (.lst [.list (as.map .int), .int a, .int r, x])) := by
  refine ⟨?_, ?_, ?_⟩ <;> (simp only [setD, hS]; rfl)
theorem eq_int (S : Store) (i j : Int) : cmpD .eq S (.int i) (.int j) = some (decide (i = j)) := by
  show (if shp (rd S (.int i)) && shp (rd S (.int j)) then some (PyData.eqv (rd S (.int i)) (rd S (.int j))) else none) = _
  have h1 : rd S (.int i) = .int i := rfl
  have h2 : rd S (.int j) = .int j := rfl
  rw [h1, h2]
  rfl
theorem lt_int (S : Store) (i j : Int) : cmpD .lt S (.int i) (.int j) = some (decide (i < j)) := rfl
theorem set_get (hc : c < S.length) (x : Cell) : (S.set c x)[c]? = some x := List.getElem?_set_self hc
theorem set_set' (x y : Cell) : (S.set c x).set c y = S.set c y := List.set_set ..
/-- the last lines -/
def takeEnd : T := (.cons (.asg (.var 2) (.bin .mod (.blt .int (.cons (.sub (.var 0) (.cst (.int 2))) .nil)) (.var 1))) (.cons (.set (.var 0) (.cst (.int 2)) (.bin .fdiv (.sub (.var 0) (.cst (.int 2))) (.var 1))) (.cons (.ret (.var 2)) .nil)))
theorem take_endB (hS : S[c]? = some (dc as a r s)) (hm : 0 < m) (hl : m.natAbs.log2 < 9000) :
    (den cf wf G takeEnd).s [some (rf c), some (.int m), o] S = .rt (.int (r % m)) (S.set c (dc as a (r / m) s)) := by
  obtain ⟨h0, h1, h2, h3⟩ := dc_sub hS
  obtain ⟨g1, g2, g3⟩ := dc_set hS (.int (r / m))
  have hmod : opB .mod S (.int r) (.int m) = some (.int (r % m)) := by
    show (if 0 < m then some (r % m) else _).map PyData.int = _
    rw [if_pos hm]; rfl
  have hdiv : opB .fdiv S (.int r) (.int m) = some (.int (r / m)) := by
    show (if 0 < m ∧ m.natAbs.log2 < 9000 then some (r / m) else _).map PyData.int = _
    rw [if_pos ⟨hm, hl⟩]; rfl
  unfold takeEnd
  simp only [den, deE, noDen, sSeq, sAsg, sPass, sSet, sRet, pVar, setV, eBin, eBlt, eVar, eCst, eSub, esCons, esNil, R.bind, R.toS, SR.seq, ofO, ofE, ofS, bltD, one, int1D, h2, hmod, hdiv, g2, List.getElem?_cons_succ, List.getElem?_cons_zero]
  simp [h2, hmod, hdiv, g2, dc]
theorem log_small {m : Int} (hm : 0 < m) (hm2 : m < 1000000) : m.natAbs.log2 < 9000 := by
  have : m.natAbs.log2 < 20 := (Nat.log2_lt (by omega)).mpr (by omega)
  omega
theorem take_end (hS : S[c]? = some (dc as a r s)) (hm : 0 < m) (hm2 : m < 1000000) :
    (den cf wf G takeEnd).s [some (rf c), some (.int m), o] S = .rt (.int (r % m)) (S.set c (dc as (a) (r / m) s)) := take_endB hS hm (log_small hm hm2)
theorem bOf_eq0 (hS : S[c]? = some (dc as a r s)) : (den cf wf G (.cmp .eq (.sub (.var 0) (.cst (.int 2))) (.cst (.int 0)))).b [some (rf c), some (.int m), o] S = .ok (decide (r = 0)) S := by
  obtain ⟨h0, h1, h2, h3⟩ := dc_sub hS
  simp only [den, deE, noDen, bOf, eCmp, eSub, eVar, eCst, R.bind, ofO, h2, eq_int, Option.map, truth, List.getElem?_cons_succ, List.getElem?_cons_zero]
theorem s_one (hS : S[c]? = some (dc as a r s)) : (den cf wf G (.set (.var 0) (.cst (.int 1)) (.bin .add (.sub (.var 0) (.cst (.int 1))) (.cst (.int 1))))).s [some (rf c), some (.int m), o] S = .nx [some (rf c), some (.int m), o] (S.set c (dc as (a + 1) r s)) := by
  obtain ⟨h0, h1, h2, h3⟩ := dc_sub hS
  obtain ⟨g1, g2, g3⟩ := dc_set hS (.int (a + 1))
  simp only [den, deE, noDen, sSet, eBin, eSub, eVar, eCst, R.bind, R.toS, ofO, ofS, h1, opB, binI, Option.map, g1, List.getElem?_cons_succ, List.getElem?_cons_zero]
theorem if_two (hS : S[c]? = some (dc as a r s)) (ha : 0 ≤ a) :
    (den cf wf G (.if_ (.cmp .lt (.sub (.var 0) (.cst (.int 1))) (.blt .len (.cons (.sub (.var 0) (.cst (.int 0))) .nil))) (.cons (.set (.var 0) (.cst (.int 2)) (.sub (.sub (.var 0) (.cst (.int 0))) (.sub (.var 0) (.cst (.int 1))))) .nil) .nil)).s [some (rf c), some (.int m), o] S
      = .nx [some (rf c), some (.int m), o] (S.set c (dc as a (if a < as.length then as.getD a.toNat 0 else r) s)) := by
  obtain ⟨h0, h1, h2, h3⟩ := dc_sub hS
  have hlen : lenD S (.list (as.map .int)) = some (.int as.length) := by
    show some (PyData.int ((as.map PyData.int).length : Int)) = _
    rw [List.length_map]
  by_cases hc : a < as.length
  · have hx : subD S (.list (as.map .int)) (.int a) = some (.int (as.getD a.toNat 0)) := by
      show atI (as.map PyData.int) a = _
      have e : ixN (as.map PyData.int).length a = some a.toNat := by
        unfold ixN
        rw [if_pos ha, List.length_map, if_pos hc]
      have hn : a.toNat < as.length := by omega
      unfold atI
      rw [e]
      show (as.map PyData.int)[a.toNat]? = _
      rw [List.getElem?_map, List.getElem?_eq_getElem hn, List.getD_eq_getElem?_getD, List.getElem?_eq_getElem hn]; rfl
    obtain ⟨g1, g2, g3⟩ := dc_set hS (.int (as.getD a.toNat 0))
    simp only [den, deE, noDen, sIf, sSeq, sPass, sSet, bOf, eCmp, eBlt, eSub, eVar, eCst, esCons, esNil, bltD, one, R.bind, R.toS, SR.seq, ofO, ofS, h0, h1, hlen, lt_int, hc, decide_true, Option.map, truth, if_true, hx, g2, List.getElem?_cons_succ, List.getElem?_cons_zero]
  · have hset : S.set c (dc as a r s) = S := by
      obtain ⟨hl, he⟩ := List.getElem?_eq_some_iff.mp hS
      rw [← he]; exact List.set_getElem_self hl
    rw [if_neg hc, hset]
    simp only [den, deE, noDen, sIf, sSeq, sPass, sSet, bOf, eCmp, eBlt, eSub, eVar, eCst, esCons, esNil, bltD, one, R.bind, R.toS, SR.seq, ofO, ofS, h0, h1, hlen, lt_int, hc, decide_false, Option.map, truth, if_false, List.getElem?_cons_succ, List.getElem?_cons_zero, Bool.false_eq_true]
theorem if_three (hS : S[c]? = some (dc as a r s)) (hs : 0 ≤ s) (hs2 : s < 2147483647) :
    (den cf wf G (.if_ (.cmp .eq (.sub (.var 0) (.cst (.int 2))) (.cst (.int 0))) (.cons (.set (.var 0) (.cst (.int 3)) (.bin .mod (.blt .int (.cons (.bin .add (.bin .mul (.sub (.var 0) (.cst (.int 3))) (.cst (.int 48271))) (.cst (.int 11))) .nil)) (.cst (.int 2147483647)))) (.cons (.set (.var 0) (.cst (.int 2)) (.sub (.var 0) (.cst (.int 3)))) .nil)) .nil)).s [some (rf c), some (.int m), o] S
      = .nx [some (rf c), some (.int m), o] (S.set c (dc as a (if r = 0 then (s * 48271 + 11) % 2147483647 else r) (if r = 0 then (s * 48271 + 11) % 2147483647 else s))) := by
  obtain ⟨h0, h1, h2, h3⟩ := dc_sub hS
  have hlt := (List.getElem?_eq_some_iff.mp hS).1
  show R.toS ((den cf wf G (.cmp .eq (.sub (.var 0) (.cst (.int 2))) (.cst (.int 0)))).b _ S) _ _ = _
  rw [bOf_eq0 hS]
  by_cases hr : r = 0
  · rw [if_pos hr, if_pos hr, decide_eq_true hr]
    have hm : binI .mul s 48271 = some (s * 48271) := mul_small hs hs2 (by decide +kernel)
    obtain ⟨g1, g2, g3⟩ := dc_set hS (.int ((s * 48271 + 11) % 2147483647))
    have hS2 : (S.set c (dc as a r ((s * 48271 + 11) % 2147483647)))[c]? = some (dc as a r ((s * 48271 + 11) % 2147483647)) := List.getElem?_set_self hlt
    obtain ⟨k0, k1, k2, k3⟩ := dc_sub hS2
    obtain ⟨l1, l2, l3⟩ := dc_set hS2 (.int ((s * 48271 + 11) % 2147483647))
    have hmod : binI .mod (s * 48271 + 11) 2147483647 = some ((s * 48271 + 11) % 2147483647) := by
      simp [binI]
    simp only [den, deE, noDen, R.toS, if_true, sSeq, sPass, sSet, eBin, eBlt, eSub, eVar, eCst, esCons, esNil, bltD, one, int1D, R.bind, SR.seq, ofO, ofS, h3, opB, hm, hmod, Option.map, g3, k3, l2, List.getElem?_cons_succ, List.getElem?_cons_zero, show binI .add (s * 48271) 11 = some (s * 48271 + 11) from rfl, List.set_set]
  · have hset : S.set c (dc as a r s) = S := by
      obtain ⟨hl, he⟩ := List.getElem?_eq_some_iff.mp hS
      rw [← he]; exact List.set_getElem_self hl
    rw [if_neg hr, if_neg hr, hset, decide_eq_false hr]
    rfl
/-- a draw's state: what is left of it, all none below 0 -/
def DrawAt (S : Store) (c : Nat) : Prop := ∃ as a r s, S[c]? = some (dc as a r s) ∧ (∀ x ∈ as, (0 : Int) ≤ x) ∧ -1 ≤ a ∧ 0 ≤ r ∧ 0 ≤ s ∧ s < 2147483647
theorem take_body (h : DrawAt S c) (hm : 0 < m) (hm2 : m < 1000000) : ∃ v S', (den cf wf G takeT).s [some (rf c), some (.int m), none] S = .rt (.int v) S' ∧ 0 ≤ v ∧ v < m ∧ DrawAt S' c ∧ ∃ as a r s, S' = S.set c (dc as a r s) := by
  obtain ⟨as, a, r, s, hS, h1, h2, h3, h4, h5⟩ := h
  have hlt := (List.getElem?_eq_some_iff.mp hS).1
  have fin : ∀ (a' r' s' : Int) (S1 : Store), S1 = S.set c (dc as a' r' s') → -1 ≤ a' → 0 ≤ r' → 0 ≤ s' → s' < 2147483647 → ∃ v S', (den cf wf G takeEnd).s [some (rf c), some (.int m), none] S1 = .rt (.int v) S' ∧ 0 ≤ v ∧ v < m ∧ DrawAt S' c ∧ ∃ as a r s, S' = S.set c (dc as a r s) := by
    intro a' r' s' S1 e q1 q2 q3 q4
    have hS1 : S1[c]? = some (dc as a' r' s') := by rw [e]; exact List.getElem?_set_self hlt
    refine ⟨r' % m, S1.set c (dc as a' (r' / m) s'), take_end hS1 hm hm2, Int.emod_nonneg _ (by omega), Int.emod_lt_of_pos _ hm, ⟨as, a', r' / m, s', ?_, h1, q1, Int.ediv_nonneg q2 (by omega), q3, q4⟩, as, a', r' / m, s', ?_⟩
    · rw [e, List.set_set]; exact List.getElem?_set_self hlt
    · rw [e, List.set_set]
  have step : (den cf wf G takeT).s [some (rf c), some (.int m), none] S = SR.seq ((den cf wf G (.if_ (.cmp .eq (.sub (.var 0) (.cst (.int 2))) (.cst (.int 0))) _ .nil)).s [some (rf c), some (.int m), none] S) (den cf wf G takeEnd).s := den_cons
  rw [step]
  show ∃ v S', SR.seq (R.toS ((den cf wf G (.cmp .eq (.sub (.var 0) (.cst (.int 2))) (.cst (.int 0)))).b _ S) _ _) _ = _ ∧ _
  rw [bOf_eq0 hS]
  by_cases hr : r = 0
  · rw [decide_eq_true hr]
    show ∃ v S', SR.seq ((den cf wf G (.cons _ (.cons _ (.cons _ .nil)))).s _ S) _ = _ ∧ _
    rw [den_cons, s_one hS, seq_nx]
    have hS1 : (S.set c (dc as (a + 1) r s))[c]? = some (dc as (a + 1) r s) := List.getElem?_set_self hlt
    rw [den_cons, if_two hS1 (by omega), seq_nx, List.set_set]
    have hS2 := List.getElem?_set_self hlt (a := dc as (a + 1) (if a + 1 < as.length then as.getD (a + 1).toNat 0 else r) s)
    rw [den_cons, if_three hS2 h4 h5, seq_nx, List.set_set]
    have hr2 : 0 ≤ (if a + 1 < as.length then as.getD (a + 1).toNat 0 else r) := by
      split
      · rename_i hc
        have hn : (a + 1).toNat < as.length := by omega
        rw [List.getD_eq_getElem?_getD, List.getElem?_eq_getElem hn]
        exact h1 _ (List.getElem_mem hn)
      · exact h3
    have hM : 0 ≤ (s * 48271 + 11) % 2147483647 ∧ (s * 48271 + 11) % 2147483647 < 2147483647 := ⟨Int.emod_nonneg _ (by decide), Int.emod_lt_of_pos _ (by decide)⟩
    generalize (if a + 1 < as.length then as.getD (a + 1).toNat 0 else r) = r2 at hr2 ⊢
    by_cases q : r2 = 0
    · rw [if_pos q, if_pos q]
      exact fin _ _ _ _ rfl (by omega) hM.1 hM.1 hM.2
    · rw [if_neg q, if_neg q]
      exact fin _ _ _ _ rfl (by omega) hr2 h4 h5
  · rw [decide_eq_false hr]
    have hset : S.set c (dc as a r s) = S := by
      obtain ⟨hl, he⟩ := List.getElem?_eq_some_iff.mp hS
      rw [← he]; exact List.set_getElem_self hl
    exact fin a r s S hset.symm h2 h3 h4 h5
theorem all_set {p : Cell → Bool} {S : Store} {x : Cell} (h : S.all p = true) (hx : p x = true) : (S.set c x).all p = true := by
  rw [List.all_eq_true] at h ⊢
  intro y hy
  rcases List.mem_or_eq_of_mem_set hy with q | q
  · exact h y q
  · rw [q]; exact hx
theorem blw_dc {n : Nat} (as : List Int) (a r s : Int) : blwC n (dc as a r s) = true := by
  have hcl : clDs (as.map PyData.int) = true := by
    induction as with
    | nil => rfl
    | cons a r ih => simp only [List.map_cons, clDs, clD, ih, Bool.and_self]
  show ([PyData.list (as.map .int), .int a, .int r, .int s].all (blwD n)) = true
  simp [blwD, clD, hcl]
/-- _law_take -/
theorem take_run (h : DrawAt S c) (hb : S.all (blwC S.length) = true) (hm : 0 < m) (hm2 : m < 1000000) : ∃ v S', runF cf wf G takeF [rf c, .int m] S = .ok (.int v) S' ∧ 0 ≤ v ∧ v < m ∧ DrawAt S' c ∧ (∃ as a r s, S' = S.set c (dc as a r s)) ∧ S'.all (blwC S'.length) = true := by
  obtain ⟨v, S', e, h1, h2, h3, as, a, r, s, e2⟩ := take_body (cf := cf) (wf := wf) (G := G) h hm hm2
  have hl : S'.length = S.length := by rw [e2, List.length_set]
  have hb' : S'.all (blwC S.length) = true := by rw [e2]; exact all_set hb (blw_dc _ _ _ _)
  refine ⟨v, S', ?_, h1, h2, h3, ⟨as, a, r, s, e2⟩, by rw [hl]; exact hb'⟩
  show (match (den cf wf G takeT).s [some (rf c), some (.int m), none] S with
    | .rt d S' => leave false S.length d S'
    | .nx _ S' => leave false S.length .none S'
    | .exc c _ S' => _
    | _ => .stuck) = _
  rw [e]
  show leave false S.length (.int v) S' = _
  unfold leave
  rw [show S'.take S.length = S' by rw [← hl]; exact List.take_length, hb']
  simp only [hl, Nat.le_refl, decide_true, Bool.and_self, if_true, Bool.false_and, Bool.false_eq_true, if_false]
  rfl
end
end Mk

set_option Elab.async false
set_option linter.all false
set_option maxRecDepth 100000
set_option maxHeartbeats 1000000
/-! MkL3: plain laws' tools: pure comprehensions, lists of texts and bools as data. -/
namespace Mk
open PySem PySem.W L2
theorem loopC_pure {ds : List PyData} {p : Bnd} {c : EvB} {elt : EvE} {ρ : Env} {S : Store} {cc : PyData → Bool} {g : PyData → PyData} (h : ∀ d ∈ ds, ∃ ρd, p S d ρ = some ρd ∧ c ρd S = .ok (cc d) S ∧ (cc d = true → elt ρd S = .ok (g d) S)) (hl : ds.length ≤ 100000) :
    ∀ (f n : Nat) (acc : List PyData), n + f = ds.length → acc = ((ds.take n).filter cc).map g → loopC (.seq ds) p c (gNil elt) ρ f n S acc = .ok ((ds.filter cc).map g) S
  | 0, n, acc, e, ha => by
    have : (Mk.It.seq ds).at S n = none := List.getElem?_eq_none (by omega)
    unfold loopC
    rw [this, ha, List.take_of_length_le (by omega)]
  | f + 1, n, acc, e, ha => by
    have hn : n < ds.length := by omega
    have : (Mk.It.seq ds).at S n = some ds[n] := List.getElem?_eq_getElem hn
    obtain ⟨ρd, h1, h2, h3⟩ := h ds[n] (List.getElem_mem hn)
    have htake : ds.take (n + 1) = ds.take n ++ [ds[n]] := by rw [List.take_succ, List.getElem?_eq_getElem hn]; rfl
    unfold loopC
    rw [this]
    simp only [h1, h2, R.bind]
    cases hc : cc ds[n] with
    | false =>
      rw [if_neg Bool.false_ne_true]
      exact loopC_pure h hl f (n + 1) acc (by omega) (by rw [htake, List.filter_append, List.filter_cons, if_neg (by rw [hc]; exact Bool.false_ne_true), List.filter_nil, List.append_nil]; exact ha)
    | true =>
      rw [if_pos rfl]
      have hlen : acc.length ≤ n := by
        rw [ha, List.length_map]
        exact Nat.le_trans (List.length_filter_le _ _) (by rw [List.length_take]; omega)
      have hok : lenOk (acc.length + 1) = true := lenOk_of (by omega)
      simp only [gNil, h3 hc, R.bind, guard', hok]
      exact loopC_pure h hl f (n + 1) (acc ++ [g ds[n]]) (by omega) (by rw [htake, List.filter_append, List.filter_cons, if_pos hc, List.filter_nil, List.map_append, ← ha]; rfl)
theorem comp_pure {own vs : List Nat} {ds : List PyData} {e : EvE} {d0 : PyData} {p : Bnd} {c : EvB} {elt : EvE} {ρ : Env} {S : Store} {cc : PyData → Bool} {g : PyData → PyData} (he : e (wipeE ρ own) S = .ok d0 S) (hi : itOf S d0 = some (.seq ds))
    (h : ∀ d ∈ ds, ∃ ρd, p S d (wipeE (wipeE ρ own) vs) = some ρd ∧ c ρd S = .ok (cc d) S ∧ (cc d = true → elt ρd S = .ok (g d) S)) (hl : ds.length ≤ 100000) :
    eComp own (gCons vs p (iOf e) c gNil) elt ρ S = .ok (.list ((ds.filter cc).map g)) S := by
  have := loopC_pure h hl ds.length 0 [] (by omega) rfl
  unfold eComp gCons iOf
  rw [he]
  simp only [R.bind, hi, ofO]
  show (noX (loopC (.seq ds) p c (gNil elt) (wipeE (wipeE ρ own) vs) ds.length 0 S [])).bind _ = _
  rw [this]; rfl
@[simp] theorem filter_true {α : Type} (l : List α) : l.filter (fun _ => true) = l := List.filter_eq_self.mpr fun _ _ => rfl
/-! lists of bools -/
theorem bools_data (bs : List Bool) : boolsOf (bs.map .bool) = some bs := by
  unfold boolsOf
  have h1 : PyData.canLayAll0 (bs.map PyData.bool) = true := by
    induction bs with
    | nil => rfl
    | cons b r ih => simp [PyData.canLayAll0, PyData.canLay0, ih]
  have h2 : PyData.depthAll (bs.map PyData.bool) = 0 := by
    induction bs with
    | nil => simp [PyData.depthAll]
    | cons b r ih =>
      have h1' : PyData.canLayAll0 (r.map PyData.bool) = true := by
        simp [PyData.canLayAll0] at h1; exact h1.2
      have := ih h1'
      simp [PyData.depthAll, PyData.depth, this]
  have h3 : (bs.map PyData.bool).all fitsD = true := by simp [fitsD]
  have h4 : shp (.list (bs.map .bool)) = true := by
    unfold shp SeqAt.shaped
    simp [PyData.canLay0, h1, PyData.depth, h2]
  rw [h4, h3]
  show some ((bs.map PyData.bool).map PyData.truthy) = some bs
  rw [List.map_map]
  exact congrArg some (List.map_id bs)
/-- data that stand in one fixed list -/
theorem shp_sub {W l : List PyData} (hW : W.all (fun d => d.canLay0 && decide (d.depth ≤ 60)) = true) (h : ∀ d ∈ l, d ∈ W) : shp (.tuple l) = true ∧ shp (.list l) = true := by
  have key : ∀ l : List PyData, (∀ d ∈ l, d ∈ W) → PyData.canLayAll0 l = true ∧ PyData.depthAll l ≤ 60 := by
    intro l
    induction l with
    | nil => intro _; exact ⟨rfl, by simp [PyData.depthAll]⟩
    | cons a r ih =>
      intro h
      obtain ⟨h1, h2⟩ := ih fun d hd => h d (List.mem_cons_of_mem _ hd)
      have ha := List.all_eq_true.mp hW a (h a List.mem_cons_self)
      rw [Bool.and_eq_true, decide_eq_true_eq] at ha
      refine ⟨by simp [PyData.canLayAll0, ha.1, h1], ?_⟩
      simp only [PyData.depthAll]
      omega
  obtain ⟨h1, h2⟩ := key l h
  have hd1 : (PyData.tuple l).depth ≤ 64 := by simp only [PyData.depth]; omega
  have hd2 : (PyData.list l).depth ≤ 64 := by simp only [PyData.depth]; omega
  refine ⟨?_, ?_⟩
  · unfold shp SeqAt.shaped
    rw [decide_eq_true hd1, Bool.and_true]
    simpa [PyData.canLay0] using h1
  · unfold shp SeqAt.shaped
    rw [decide_eq_true hd2, Bool.and_true]
    simpa [PyData.canLay0] using h1
mutual
theorem eqv_refl : ∀ d : PyData, clD d = true → PyData.eqv d d = true
  | .none, _ => rfl
  | .bool b, _ => by simp [PyData.eqv]
  | .int i, _ => by simp [PyData.eqv]
  | .str x, _ => by simp [PyData.eqv]
  | .list ds, h => by simp only [PyData.eqv]; exact eqvs_refl ds (by simpa [clD] using h)
  | .tuple ds, h => by simp only [PyData.eqv]; exact eqvs_refl ds (by simpa [clD] using h)
  | .dict _, h => by simp [clD] at h
theorem eqvs_refl : ∀ ds : List PyData, clDs ds = true → PyData.eqvAll ds ds = true
  | [], _ => by simp [PyData.eqvAll]
  | d :: ds, h => by
    rw [clDs, Bool.and_eq_true] at h
    simp only [PyData.eqvAll, eqv_refl d h.1, eqvs_refl ds h.2, Bool.and_self]
end
theorem cl_sub {W l : List PyData} (hW : W.all clD = true) (h : ∀ d ∈ l, d ∈ W) : clDs l = true := by
  induction l with
  | nil => rfl
  | cons a r ih => rw [clDs, List.all_eq_true.mp hW a (h a List.mem_cons_self), ih fun d hd => h d (List.mem_cons_of_mem _ hd)]; rfl
/-- a part of a fixed list -/
theorem at_sub {W : List PyData} {v : Int} (h0 : 0 ≤ v) (h : v < W.length) : ∃ x ∈ W, atI W v = some x := by
  have hn : v.toNat < W.length := by omega
  refine ⟨W[v.toNat], List.getElem_mem hn, ?_⟩
  unfold atI ixN
  rw [if_pos h0, if_pos h]
  exact List.getElem?_eq_getElem hn
/-- a value that a closed call hands back -/
def isOk : R PyData → Bool
  | .ok d [] => clD d
  | _ => false
def valR : R PyData → PyData
  | .ok d _ => d
  | _ => .none
theorem callD_of {cf : CF} {f : Nat} {xs : List PyData} {S : Store} (hx : clDs xs = true) (h : isOk (cf f xs []) = true) : callD cf f xs S = .ok (valR (cf f xs [])) S := by
  unfold callD
  rw [if_pos hx]
  unfold isOk at h
  split at h
  · rename_i d e
    rw [e]
    show (if clD d = true then _ else _) = _
    rw [if_pos h]; rfl
  · cases h
end Mk

set_option Elab.async false
set_option linter.all false
set_option maxRecDepth 100000
set_option maxHeartbeats 1000000
/-! Ev: rules by which simp runs a term. -/
namespace Mk
open PySem PySem.W L2
/-- a cell, as a word that simp leaves alone -/
def cell (k : Nat) : PyData := rf k
theorem cell_def (k : Nat) : rf k = cell k := rfl
/-- a constant of the module -/
def gat (G : List PyData) (i : Nat) : PyData := G.getD i .none
/-! ### texts -/
theorem ofString_inj {a b : String} : (Str.ofString a = Str.ofString b) ↔ a = b := by
  constructor
  · intro h
    rw [Str.ofString_eq_toList, Str.ofString_eq_toList] at h
    have h1 : (a.toList.map Char.toNat) = (b.toList.map Char.toNat) := by
      have := congrArg (fun s : Str => s.cps.toList) h
      simpa using this
    have hinj : ∀ (l m : List Char), l.map Char.toNat = m.map Char.toNat → l = m := by
      intro l
      induction l with
      | nil => intro m h; cases m with
        | nil => rfl
        | cons => cases h
      | cons x l ih => intro m h; cases m with
        | nil => cases h
        | cons y m =>
          simp only [List.map_cons, List.cons.injEq] at h
          have hc : x = y := by
            apply Char.ext
            apply UInt32.toNat_inj.mp
            exact h.1
          rw [hc, ih m h.2]
    have := hinj _ _ h1
    exact String.toList_inj.mp this
  · intro h; rw [h]

@[simp] theorem ofString_eq_iff {a b : String} : (Str.ofString a = Str.ofString b) ↔ a = b := ofString_inj
section
variable {cf : CF} {wf : Nat} {G : List PyData} {ρ : Env} {S : Store}
/-! ### how parts join -/
@[simp] theorem bind_ok {α β : Type} (a : α) (S : Store) (f : α → Store → R β) : R.bind (.ok a S) f = f a S := (rfl)
@[simp] theorem bind_exc {α β : Type} (c : Exc) (S : Store) (f : α → Store → R β) : R.bind (.exc c S) f = .exc c S := (rfl)
@[simp] theorem bind_stuck {α β : Type} (f : α → Store → R β) : R.bind .stuck f = .stuck := (rfl)
theorem bind_congr {α β : Type} {x y : R α} (h : x = y) (f : α → Store → R β) : R.bind x f = R.bind y f := by rw [h]
@[simp] theorem sq_nx (ρ : Env) (S : Store) (k : Env → Store → SR) : SR.seq (.nx ρ S) k = k ρ S := (rfl)
@[simp] theorem sq_rt (d : PyData) (S : Store) (k : Env → Store → SR) : SR.seq (.rt d S) k = .rt d S := (rfl)
@[simp] theorem seq_bk (ρ : Env) (S : Store) (k : Env → Store → SR) : SR.seq (.bk ρ S) k = .bk ρ S := (rfl)
@[simp] theorem seq_ct (ρ : Env) (S : Store) (k : Env → Store → SR) : SR.seq (.ct ρ S) k = .ct ρ S := (rfl)
@[simp] theorem seq_exc (c : Exc) (ρ : Env) (S : Store) (k : Env → Store → SR) : SR.seq (.exc c ρ S) k = .exc c ρ S := (rfl)
theorem seq_congr {x y : SR} (h : x = y) (k : Env → Store → SR) : SR.seq x k = SR.seq y k := by rw [h]
@[simp] theorem toS_ok {α : Type} (a : α) (S : Store) (ρ : Env) (k : α → Store → SR) : R.toS (.ok a S) ρ k = k a S := (rfl)
@[simp] theorem toS_exc {α : Type} (c : Exc) (S : Store) (ρ : Env) (k : α → Store → SR) : R.toS (.exc c S) ρ k = .exc c ρ S := (rfl)
theorem toS_congr {α : Type} {x y : R α} (h : x = y) (ρ : Env) (k : α → Store → SR) : R.toS x ρ k = R.toS y ρ k := by rw [h]
@[simp] theorem ofO_some {α : Type} (a : α) (S : Store) : ofO (some a) S = .ok a S := (rfl)
@[simp] theorem ofS_some (S : Store) (ρ : Env) : ofS (some S) ρ = .nx ρ S := (rfl)
@[simp] theorem ofE_some (ρ : Env) (S : Store) : ofE (some ρ) S = .nx ρ S := (rfl)
@[simp] theorem guard_true {α : Type} (x : R α) : guard' true x = x := (rfl)
@[simp] theorem noX_ok {α : Type} (a : α) (S : Store) : noX (R.ok a S) = R.ok a S := (rfl)
/-! ### expressions -/
@[simp] theorem e_cst (d : PyData) : (den cf wf G (.cst d)).e ρ S = .ok d S := (rfl)
@[simp] theorem e_glo (i : Nat) : (den cf wf G (.glo i)).e ρ S = .ok (gat G i) S := (rfl)
@[simp] theorem e_fnv (f : Nat) : (den cf wf G (.fnv f)).e ρ S = .ok (fv f) S := (rfl)
@[simp] theorem e_var (i : Nat) : (den cf wf G (.var i)).e ρ S = eVar i ρ S := (rfl)
@[simp] theorem eVar_zero (d : PyData) (ρ : Env) (S : Store) : eVar 0 (some d :: ρ) S = .ok d S := (rfl)
@[simp] theorem eVar_succ (i : Nat) (o : Option PyData) (ρ : Env) (S : Store) : eVar (i + 1) (o :: ρ) S = eVar i ρ S := (rfl)
@[simp] theorem eVar_1 (o0 : Option PyData) (d : PyData) (ρ : Env) (S : Store) : eVar 1 (o0 :: some d :: ρ) S = .ok d S := (rfl)
@[simp] theorem eVar_2 (o0 o1 : Option PyData) (d : PyData) (ρ : Env) (S : Store) : eVar 2 (o0 :: o1 :: some d :: ρ) S = .ok d S := (rfl)
@[simp] theorem eVar_3 (o0 o1 o2 : Option PyData) (d : PyData) (ρ : Env) (S : Store) : eVar 3 (o0 :: o1 :: o2 :: some d :: ρ) S = .ok d S := (rfl)
@[simp] theorem eVar_4 (o0 o1 o2 o3 : Option PyData) (d : PyData) (ρ : Env) (S : Store) : eVar 4 (o0 :: o1 :: o2 :: o3 :: some d :: ρ) S = .ok d S := (rfl)
@[simp] theorem eVar_5 (o0 o1 o2 o3 o4 : Option PyData) (d : PyData) (ρ : Env) (S : Store) : eVar 5 (o0 :: o1 :: o2 :: o3 :: o4 :: some d :: ρ) S = .ok d S := (rfl)
@[simp] theorem eVar_6 (o0 o1 o2 o3 o4 o5 : Option PyData) (d : PyData) (ρ : Env) (S : Store) : eVar 6 (o0 :: o1 :: o2 :: o3 :: o4 :: o5 :: some d :: ρ) S = .ok d S := (rfl)
@[simp] theorem eVar_7 (o0 o1 o2 o3 o4 o5 o6 : Option PyData) (d : PyData) (ρ : Env) (S : Store) : eVar 7 (o0 :: o1 :: o2 :: o3 :: o4 :: o5 :: o6 :: some d :: ρ) S = .ok d S := (rfl)
@[simp] theorem eVar_8 (o0 o1 o2 o3 o4 o5 o6 o7 : Option PyData) (d : PyData) (ρ : Env) (S : Store) : eVar 8 (o0 :: o1 :: o2 :: o3 :: o4 :: o5 :: o6 :: o7 :: some d :: ρ) S = .ok d S := (rfl)
@[simp] theorem eVar_9 (o0 o1 o2 o3 o4 o5 o6 o7 o8 : Option PyData) (d : PyData) (ρ : Env) (S : Store) : eVar 9 (o0 :: o1 :: o2 :: o3 :: o4 :: o5 :: o6 :: o7 :: o8 :: some d :: ρ) S = .ok d S := (rfl)
@[simp] theorem eVar_10 (o0 o1 o2 o3 o4 o5 o6 o7 o8 o9 : Option PyData) (d : PyData) (ρ : Env) (S : Store) : eVar 10 (o0 :: o1 :: o2 :: o3 :: o4 :: o5 :: o6 :: o7 :: o8 :: o9 :: some d :: ρ) S = .ok d S := (rfl)
@[simp] theorem eVar_11 (o0 o1 o2 o3 o4 o5 o6 o7 o8 o9 o10 : Option PyData) (d : PyData) (ρ : Env) (S : Store) : eVar 11 (o0 :: o1 :: o2 :: o3 :: o4 :: o5 :: o6 :: o7 :: o8 :: o9 :: o10 :: some d :: ρ) S = .ok d S := (rfl)
@[simp] theorem eVar_12 (o0 o1 o2 o3 o4 o5 o6 o7 o8 o9 o10 o11 : Option PyData) (d : PyData) (ρ : Env) (S : Store) : eVar 12 (o0 :: o1 :: o2 :: o3 :: o4 :: o5 :: o6 :: o7 :: o8 :: o9 :: o10 :: o11 :: some d :: ρ) S = .ok d S := (rfl)
@[simp] theorem eVar_13 (o0 o1 o2 o3 o4 o5 o6 o7 o8 o9 o10 o11 o12 : Option PyData) (d : PyData) (ρ : Env) (S : Store) : eVar 13 (o0 :: o1 :: o2 :: o3 :: o4 :: o5 :: o6 :: o7 :: o8 :: o9 :: o10 :: o11 :: o12 :: some d :: ρ) S = .ok d S := (rfl)
@[simp] theorem eVar_14 (o0 o1 o2 o3 o4 o5 o6 o7 o8 o9 o10 o11 o12 o13 : Option PyData) (d : PyData) (ρ : Env) (S : Store) : eVar 14 (o0 :: o1 :: o2 :: o3 :: o4 :: o5 :: o6 :: o7 :: o8 :: o9 :: o10 :: o11 :: o12 :: o13 :: some d :: ρ) S = .ok d S := (rfl)
@[simp] theorem eVar_15 (o0 o1 o2 o3 o4 o5 o6 o7 o8 o9 o10 o11 o12 o13 o14 : Option PyData) (d : PyData) (ρ : Env) (S : Store) : eVar 15 (o0 :: o1 :: o2 :: o3 :: o4 :: o5 :: o6 :: o7 :: o8 :: o9 :: o10 :: o11 :: o12 :: o13 :: o14 :: some d :: ρ) S = .ok d S := (rfl)
@[simp] theorem eVar_16 (o0 o1 o2 o3 o4 o5 o6 o7 o8 o9 o10 o11 o12 o13 o14 o15 : Option PyData) (d : PyData) (ρ : Env) (S : Store) : eVar 16 (o0 :: o1 :: o2 :: o3 :: o4 :: o5 :: o6 :: o7 :: o8 :: o9 :: o10 :: o11 :: o12 :: o13 :: o14 :: o15 :: some d :: ρ) S = .ok d S := (rfl)
@[simp] theorem eVar_17 (o0 o1 o2 o3 o4 o5 o6 o7 o8 o9 o10 o11 o12 o13 o14 o15 o16 : Option PyData) (d : PyData) (ρ : Env) (S : Store) : eVar 17 (o0 :: o1 :: o2 :: o3 :: o4 :: o5 :: o6 :: o7 :: o8 :: o9 :: o10 :: o11 :: o12 :: o13 :: o14 :: o15 :: o16 :: some d :: ρ) S = .ok d S := (rfl)
@[simp] theorem eVar_18 (o0 o1 o2 o3 o4 o5 o6 o7 o8 o9 o10 o11 o12 o13 o14 o15 o16 o17 : Option PyData) (d : PyData) (ρ : Env) (S : Store) : eVar 18 (o0 :: o1 :: o2 :: o3 :: o4 :: o5 :: o6 :: o7 :: o8 :: o9 :: o10 :: o11 :: o12 :: o13 :: o14 :: o15 :: o16 :: o17 :: some d :: ρ) S = .ok d S := (rfl)
@[simp] theorem eVar_19 (o0 o1 o2 o3 o4 o5 o6 o7 o8 o9 o10 o11 o12 o13 o14 o15 o16 o17 o18 : Option PyData) (d : PyData) (ρ : Env) (S : Store) : eVar 19 (o0 :: o1 :: o2 :: o3 :: o4 :: o5 :: o6 :: o7 :: o8 :: o9 :: o10 :: o11 :: o12 :: o13 :: o14 :: o15 :: o16 :: o17 :: o18 :: some d :: ρ) S = .ok d S := (rfl)
@[simp] theorem eVar_20 (o0 o1 o2 o3 o4 o5 o6 o7 o8 o9 o10 o11 o12 o13 o14 o15 o16 o17 o18 o19 : Option PyData) (d : PyData) (ρ : Env) (S : Store) : eVar 20 (o0 :: o1 :: o2 :: o3 :: o4 :: o5 :: o6 :: o7 :: o8 :: o9 :: o10 :: o11 :: o12 :: o13 :: o14 :: o15 :: o16 :: o17 :: o18 :: o19 :: some d :: ρ) S = .ok d S := (rfl)
@[simp] theorem eVar_21 (o0 o1 o2 o3 o4 o5 o6 o7 o8 o9 o10 o11 o12 o13 o14 o15 o16 o17 o18 o19 o20 : Option PyData) (d : PyData) (ρ : Env) (S : Store) : eVar 21 (o0 :: o1 :: o2 :: o3 :: o4 :: o5 :: o6 :: o7 :: o8 :: o9 :: o10 :: o11 :: o12 :: o13 :: o14 :: o15 :: o16 :: o17 :: o18 :: o19 :: o20 :: some d :: ρ) S = .ok d S := (rfl)
@[simp] theorem eVar_22 (o0 o1 o2 o3 o4 o5 o6 o7 o8 o9 o10 o11 o12 o13 o14 o15 o16 o17 o18 o19 o20 o21 : Option PyData) (d : PyData) (ρ : Env) (S : Store) : eVar 22 (o0 :: o1 :: o2 :: o3 :: o4 :: o5 :: o6 :: o7 :: o8 :: o9 :: o10 :: o11 :: o12 :: o13 :: o14 :: o15 :: o16 :: o17 :: o18 :: o19 :: o20 :: o21 :: some d :: ρ) S = .ok d S := (rfl)
@[simp] theorem eVar_23 (o0 o1 o2 o3 o4 o5 o6 o7 o8 o9 o10 o11 o12 o13 o14 o15 o16 o17 o18 o19 o20 o21 o22 : Option PyData) (d : PyData) (ρ : Env) (S : Store) : eVar 23 (o0 :: o1 :: o2 :: o3 :: o4 :: o5 :: o6 :: o7 :: o8 :: o9 :: o10 :: o11 :: o12 :: o13 :: o14 :: o15 :: o16 :: o17 :: o18 :: o19 :: o20 :: o21 :: o22 :: some d :: ρ) S = .ok d S := (rfl)
@[simp] theorem e_bin (op : BOp) (a b : T) : (den cf wf G (.bin op a b)).e ρ S = ((den cf wf G a).e ρ S).bind fun x S1 => ((den cf wf G b).e ρ S1).bind fun y S2 => ofO (opB op S2 x y) S2 := (rfl)
@[simp] theorem e_cmp (op : COp) (a b : T) : (den cf wf G (.cmp op a b)).e ρ S = ((den cf wf G a).e ρ S).bind fun x S1 => ((den cf wf G b).e ρ S1).bind fun y S2 => ofO ((cmpD op S2 x y).map .bool) S2 := (rfl)
@[simp] theorem e_chn (p q : COp) (a b c : T) : (den cf wf G (.chn p q a b c)).e ρ S = ((den cf wf G a).e ρ S).bind fun x S1 => ((den cf wf G b).e ρ S1).bind fun y S2 => (ofO (cmpD p S2 x y) S2).bind fun t S3 =>
  if t then ((den cf wf G c).e ρ S3).bind fun z S4 => ofO ((cmpD q S4 y z).map .bool) S4 else .ok (.bool false) S3 := rfl
@[simp] theorem e_neg (a : T) : (den cf wf G (.neg a)).e ρ S = ((den cf wf G a).e ρ S).bind fun x S1 => ofO (negD x) S1 := (rfl)
@[simp] theorem e_inv (a : T) : (den cf wf G (.inv a)).e ρ S = ((den cf wf G a).e ρ S).bind fun x S1 => ofO (invD x) S1 := (rfl)
@[simp] theorem e_and (a b : T) : (den cf wf G (.and a b)).e ρ S = ((den cf wf G a).e ρ S).bind fun x S1 => (ofO (truth S1 x) S1).bind fun t S2 => if t then (den cf wf G b).e ρ S2 else .ok x S2 := (rfl)
@[simp] theorem e_or (a b : T) : (den cf wf G (.or a b)).e ρ S = ((den cf wf G a).e ρ S).bind fun x S1 => (ofO (truth S1 x) S1).bind fun t S2 => if t then .ok x S2 else (den cf wf G b).e ρ S2 := (rfl)
@[simp] theorem e_not (a : T) : (den cf wf G (.not a)).e ρ S = ((den cf wf G a).e ρ S).bind fun x S1 => (ofO (truth S1 x) S1).bind fun t S2 => .ok (.bool (!t)) S2 := (rfl)
@[simp] theorem e_ife (c a b : T) : (den cf wf G (.ife c a b)).e ρ S = ((den cf wf G c).b ρ S).bind fun t S1 => if t then (den cf wf G a).e ρ S1 else (den cf wf G b).e ρ S1 := (rfl)
@[simp] theorem e_tup (es : T) : (den cf wf G (.tup es)).e ρ S = ((den cf wf G es).es ρ S).bind fun xs S1 => guard' (lenOk xs.length) (.ok (.tuple xs) S1) := (rfl)
@[simp] theorem e_lst (es : T) : (den cf wf G (.lst es)).e ρ S = ((den cf wf G es).es ρ S).bind fun xs S1 => guard' (lenOk xs.length) (.ok (.list xs) S1) := (rfl)
@[simp] theorem e_thaw (a : T) : (den cf wf G (.thaw a)).e ρ S = ((den cf wf G a).e ρ S).bind thawD := (rfl)
@[simp] theorem thaw_list (ds : List PyData) (S : Store) : thawD (.list ds) S = .ok (cell S.length) (S ++ [.lst ds]) := (rfl)
@[simp] theorem it_thaw (a : T) : (den cf wf G (.thaw a)).it ρ S = ((den cf wf G a).e ρ S).bind itDct := (rfl)
@[simp] theorem e_dct0 (t : Bool) : (den cf wf G (.dct t .nil)).e ρ S = .ok (cell S.length) (S ++ [.dct t [] []]) := (rfl)
@[simp] theorem e_dct1 (t : Bool) (a b : T) : (den cf wf G (.dct t (.cons a b))).e ρ S = ((den cf wf G (.cons a b)).es ρ (S ++ [.dct t [] []])).bind fun zs S1 => mkDct t S.length (evens zs) (odds zs) S1 := (rfl)
@[simp] theorem e_call (f : Nat) (es : T) : (den cf wf G (.call f es)).e ρ S = ((den cf wf G es).es ρ S).bind fun xs S1 => callD cf f xs S1 := (rfl)
@[simp] theorem e_callv (e es : T) : (den cf wf G (.callv e es)).e ρ S = ((den cf wf G e).e ρ S).bind fun x S1 => (ofO (fnOf x) S1).bind fun f S2 => ((den cf wf G es).es ρ S2).bind fun xs S3 => callD cf f xs S3 := (rfl)
@[simp] theorem fnOf_fv (f : Nat) : fnOf (fv f) = some f := (rfl)
@[simp] theorem e_blt (b : Blt) (es : T) : (den cf wf G (.blt b es)).e ρ S = ((den cf wf G es).es ρ S).bind fun xs S1 => ofO (bltD b S1 xs) S1 := (rfl)
@[simp] theorem e_mth (b : Blt) (o es : T) : (den cf wf G (.mth b o es)).e ρ S = ((den cf wf G o).e ρ S).bind fun x S1 => guard' (recv b S1 x) (((den cf wf G es).es ρ S1).bind fun xs S2 => ofO (bltD b S2 (x :: xs)) S2) := (rfl)
@[simp] theorem e_pop (o es : T) : (den cf wf G (.pop o es)).e ρ S = ((den cf wf G o).e ρ S).bind fun x S1 => guard' (isCell S1 x) (((den cf wf G es).es ρ S1).bind fun xs S2 => popW x xs S2) := (rfl)
@[simp] theorem e_sub (a i : T) : (den cf wf G (.sub a i)).e ρ S = ((den cf wf G a).e ρ S).bind fun x S1 => ((den cf wf G i).e ρ S1).bind fun y S2 => ofO (subD S2 x y) S2 := (rfl)
@[simp] theorem e_slc (a lo hi : T) : (den cf wf G (.slc a lo hi)).e ρ S = ((den cf wf G a).e ρ S).bind fun x S1 => ((den cf wf G lo).p ρ S1).bind fun l S2 => ((den cf wf G hi).p ρ S2).bind fun h S3 => ofO (slcD S3 x l h) S3 := (rfl)
@[simp] theorem e_rev (a : T) : (den cf wf G (.rev a)).e ρ S = ((den cf wf G a).e ρ S).bind fun x S1 => ofO (revD S1 x) S1 := (rfl)
/-! lists of expressions -/
@[simp] theorem es_nil : (den cf wf G .nil).es ρ S = .ok [] S := (rfl)
@[simp] theorem es_cons (a b : T) : (den cf wf G (.cons a b)).es ρ S = ((den cf wf G a).e ρ S).bind fun x S1 => ((den cf wf G b).es ρ S1).bind fun xs S2 => .ok (x :: xs) S2 := (rfl)
/-! tests -/
@[simp] theorem b_and (a b : T) : (den cf wf G (.and a b)).b ρ S = ((den cf wf G a).b ρ S).bind fun t S1 => if t then (den cf wf G b).b ρ S1 else .ok false S1 := (rfl)
@[simp] theorem b_or (a b : T) : (den cf wf G (.or a b)).b ρ S = ((den cf wf G a).b ρ S).bind fun t S1 => if t then .ok true S1 else (den cf wf G b).b ρ S1 := (rfl)
@[simp] theorem b_not (a : T) : (den cf wf G (.not a)).b ρ S = ((den cf wf G a).b ρ S).bind fun t S1 => .ok (!t) S1 := (rfl)
@[simp] theorem b_ife (c a b : T) : (den cf wf G (.ife c a b)).b ρ S = ((den cf wf G c).b ρ S).bind fun t S1 => if t then (den cf wf G a).b ρ S1 else (den cf wf G b).b ρ S1 := (rfl)
@[simp] theorem b_nil : (den cf wf G .nil).b ρ S = .ok true S := (rfl)
@[simp] theorem b_cst (d : PyData) : (den cf wf G (.cst d )).b ρ S = ((den cf wf G (.cst d )).e ρ S).bind fun x S1 => ofO (truth S1 x) S1 := (rfl)
@[simp] theorem it_cst (d : PyData) : (den cf wf G (.cst d )).it ρ S = ((den cf wf G (.cst d )).e ρ S).bind fun x S1 => ofO (itOf S1 x) S1 := (rfl)
@[simp] theorem p_cst (d : PyData) : (den cf wf G (.cst d )).p ρ S = ((den cf wf G (.cst d )).e ρ S).bind fun x S1 => ofO (intD x) S1 := (rfl)
@[simp] theorem b_var (i : Nat) : (den cf wf G (.var i )).b ρ S = ((den cf wf G (.var i )).e ρ S).bind fun x S1 => ofO (truth S1 x) S1 := (rfl)
@[simp] theorem it_var (i : Nat) : (den cf wf G (.var i )).it ρ S = ((den cf wf G (.var i )).e ρ S).bind fun x S1 => ofO (itOf S1 x) S1 := (rfl)
@[simp] theorem p_var (i : Nat) : (den cf wf G (.var i )).p ρ S = ((den cf wf G (.var i )).e ρ S).bind fun x S1 => ofO (intD x) S1 := (rfl)
@[simp] theorem b_glo (i : Nat) : (den cf wf G (.glo i )).b ρ S = ((den cf wf G (.glo i )).e ρ S).bind fun x S1 => ofO (truth S1 x) S1 := (rfl)
@[simp] theorem it_glo (i : Nat) : (den cf wf G (.glo i )).it ρ S = ((den cf wf G (.glo i )).e ρ S).bind fun x S1 => ofO (itOf S1 x) S1 := (rfl)
@[simp] theorem p_glo (i : Nat) : (den cf wf G (.glo i )).p ρ S = ((den cf wf G (.glo i )).e ρ S).bind fun x S1 => ofO (intD x) S1 := (rfl)
@[simp] theorem b_bin (op : BOp) (a b : T) : (den cf wf G (.bin op  a b )).b ρ S = ((den cf wf G (.bin op  a b )).e ρ S).bind fun x S1 => ofO (truth S1 x) S1 := (rfl)
@[simp] theorem it_bin (op : BOp) (a b : T) : (den cf wf G (.bin op  a b )).it ρ S = ((den cf wf G (.bin op  a b )).e ρ S).bind fun x S1 => ofO (itOf S1 x) S1 := (rfl)
@[simp] theorem p_bin (op : BOp) (a b : T) : (den cf wf G (.bin op  a b )).p ρ S = ((den cf wf G (.bin op  a b )).e ρ S).bind fun x S1 => ofO (intD x) S1 := (rfl)
@[simp] theorem b_cmp (op : COp) (a b : T) : (den cf wf G (.cmp op  a b )).b ρ S = ((den cf wf G (.cmp op  a b )).e ρ S).bind fun x S1 => ofO (truth S1 x) S1 := (rfl)
@[simp] theorem it_cmp (op : COp) (a b : T) : (den cf wf G (.cmp op  a b )).it ρ S = ((den cf wf G (.cmp op  a b )).e ρ S).bind fun x S1 => ofO (itOf S1 x) S1 := (rfl)
@[simp] theorem b_chn (p q : COp) (a b c : T) : (den cf wf G (.chn p q  a b c )).b ρ S = ((den cf wf G (.chn p q  a b c )).e ρ S).bind fun x S1 => ofO (truth S1 x) S1 := (rfl)
@[simp] theorem it_chn (p q : COp) (a b c : T) : (den cf wf G (.chn p q  a b c )).it ρ S = ((den cf wf G (.chn p q  a b c )).e ρ S).bind fun x S1 => ofO (itOf S1 x) S1 := (rfl)
@[simp] theorem b_neg (a : T) : (den cf wf G (.neg a )).b ρ S = ((den cf wf G (.neg a )).e ρ S).bind fun x S1 => ofO (truth S1 x) S1 := (rfl)
@[simp] theorem it_neg (a : T) : (den cf wf G (.neg a )).it ρ S = ((den cf wf G (.neg a )).e ρ S).bind fun x S1 => ofO (itOf S1 x) S1 := (rfl)
@[simp] theorem p_neg (a : T) : (den cf wf G (.neg a )).p ρ S = ((den cf wf G (.neg a )).e ρ S).bind fun x S1 => ofO (intD x) S1 := (rfl)
@[simp] theorem b_tup (a : T) : (den cf wf G (.tup a )).b ρ S = ((den cf wf G (.tup a )).e ρ S).bind fun x S1 => ofO (truth S1 x) S1 := (rfl)
@[simp] theorem it_tup (a : T) : (den cf wf G (.tup a )).it ρ S = ((den cf wf G (.tup a )).e ρ S).bind fun x S1 => ofO (itOf S1 x) S1 := (rfl)
@[simp] theorem b_lst (a : T) : (den cf wf G (.lst a )).b ρ S = ((den cf wf G (.lst a )).e ρ S).bind fun x S1 => ofO (truth S1 x) S1 := (rfl)
@[simp] theorem it_lst (a : T) : (den cf wf G (.lst a )).it ρ S = ((den cf wf G (.lst a )).e ρ S).bind fun x S1 => ofO (itOf S1 x) S1 := (rfl)
@[simp] theorem b_call (f : Nat) (a : T) : (den cf wf G (.call f  a )).b ρ S = ((den cf wf G (.call f  a )).e ρ S).bind fun x S1 => ofO (truth S1 x) S1 := (rfl)
@[simp] theorem it_call (f : Nat) (a : T) : (den cf wf G (.call f  a )).it ρ S = ((den cf wf G (.call f  a )).e ρ S).bind fun x S1 => ofO (itOf S1 x) S1 := (rfl)
@[simp] theorem p_call (f : Nat) (a : T) : (den cf wf G (.call f  a )).p ρ S = ((den cf wf G (.call f  a )).e ρ S).bind fun x S1 => ofO (intD x) S1 := (rfl)
@[simp] theorem b_callv (e a : T) : (den cf wf G (.callv e a )).b ρ S = ((den cf wf G (.callv e a )).e ρ S).bind fun x S1 => ofO (truth S1 x) S1 := (rfl)
@[simp] theorem it_callv (e a : T) : (den cf wf G (.callv e a )).it ρ S = ((den cf wf G (.callv e a )).e ρ S).bind fun x S1 => ofO (itOf S1 x) S1 := (rfl)
@[simp] theorem p_callv (e a : T) : (den cf wf G (.callv e a )).p ρ S = ((den cf wf G (.callv e a )).e ρ S).bind fun x S1 => ofO (intD x) S1 := (rfl)
@[simp] theorem b_blt (b : Blt) (es : T) : (den cf wf G (.blt b  es )).b ρ S = ((den cf wf G (.blt b  es )).e ρ S).bind fun x S1 => ofO (truth S1 x) S1 := (rfl)
@[simp] theorem it_blt (b : Blt) (es : T) : (den cf wf G (.blt b  es )).it ρ S = ((den cf wf G (.blt b  es )).e ρ S).bind fun x S1 => ofO (itOf S1 x) S1 := (rfl)
@[simp] theorem p_blt (b : Blt) (es : T) : (den cf wf G (.blt b  es )).p ρ S = ((den cf wf G (.blt b  es )).e ρ S).bind fun x S1 => ofO (intD x) S1 := (rfl)
@[simp] theorem b_mth (b : Blt) (o es : T) : (den cf wf G (.mth b  o es )).b ρ S = ((den cf wf G (.mth b  o es )).e ρ S).bind fun x S1 => ofO (truth S1 x) S1 := (rfl)
@[simp] theorem it_mth (b : Blt) (o es : T) : (den cf wf G (.mth b  o es )).it ρ S = ((den cf wf G (.mth b  o es )).e ρ S).bind fun x S1 => ofO (itOf S1 x) S1 := (rfl)
@[simp] theorem p_mth (b : Blt) (o es : T) : (den cf wf G (.mth b  o es )).p ρ S = ((den cf wf G (.mth b  o es )).e ρ S).bind fun x S1 => ofO (intD x) S1 := (rfl)
@[simp] theorem b_pop (o es : T) : (den cf wf G (.pop o es )).b ρ S = ((den cf wf G (.pop o es )).e ρ S).bind fun x S1 => ofO (truth S1 x) S1 := (rfl)
@[simp] theorem it_pop (o es : T) : (den cf wf G (.pop o es )).it ρ S = ((den cf wf G (.pop o es )).e ρ S).bind fun x S1 => ofO (itOf S1 x) S1 := (rfl)
@[simp] theorem p_pop (o es : T) : (den cf wf G (.pop o es )).p ρ S = ((den cf wf G (.pop o es )).e ρ S).bind fun x S1 => ofO (intD x) S1 := (rfl)
@[simp] theorem b_sub (a i : T) : (den cf wf G (.sub a i )).b ρ S = ((den cf wf G (.sub a i )).e ρ S).bind fun x S1 => ofO (truth S1 x) S1 := (rfl)
@[simp] theorem it_sub (a i : T) : (den cf wf G (.sub a i )).it ρ S = ((den cf wf G (.sub a i )).e ρ S).bind fun x S1 => ofO (itOf S1 x) S1 := (rfl)
@[simp] theorem p_sub (a i : T) : (den cf wf G (.sub a i )).p ρ S = ((den cf wf G (.sub a i )).e ρ S).bind fun x S1 => ofO (intD x) S1 := (rfl)
@[simp] theorem b_slc (a lo hi : T) : (den cf wf G (.slc a lo hi )).b ρ S = ((den cf wf G (.slc a lo hi )).e ρ S).bind fun x S1 => ofO (truth S1 x) S1 := (rfl)
@[simp] theorem it_slc (a lo hi : T) : (den cf wf G (.slc a lo hi )).it ρ S = ((den cf wf G (.slc a lo hi )).e ρ S).bind fun x S1 => ofO (itOf S1 x) S1 := (rfl)
@[simp] theorem b_rev (a : T) : (den cf wf G (.rev a )).b ρ S = ((den cf wf G (.rev a )).e ρ S).bind fun x S1 => ofO (truth S1 x) S1 := (rfl)
@[simp] theorem it_rev (a : T) : (den cf wf G (.rev a )).it ρ S = ((den cf wf G (.rev a )).e ρ S).bind fun x S1 => ofO (itOf S1 x) S1 := (rfl)
@[simp] theorem b_comp (own : List Nat) (g e : T) : (den cf wf G (.comp own  g e )).b ρ S = ((den cf wf G (.comp own  g e )).e ρ S).bind fun x S1 => ofO (truth S1 x) S1 := (rfl)
@[simp] theorem it_comp (own : List Nat) (g e : T) : (den cf wf G (.comp own  g e )).it ρ S = ((den cf wf G (.comp own  g e )).e ρ S).bind fun x S1 => ofO (itOf S1 x) S1 := (rfl)
@[simp] theorem p_ife (c a b : T) : (den cf wf G (.ife c a b)).p ρ S = ((den cf wf G (.ife c a b)).e ρ S).bind fun x S1 => ofO (intD x) S1 := (rfl)
@[simp] theorem it_ife (c a b : T) : (den cf wf G (.ife c a b)).it ρ S = ((den cf wf G (.ife c a b)).e ρ S).bind fun x S1 => ofO (itOf S1 x) S1 := (rfl)
@[simp] theorem p_nil : (den cf wf G .nil).p ρ S = .ok none S := (rfl)
@[simp] theorem intD_int (i : Int) : intD (.int i) = some (some i) := (rfl)
@[simp] theorem it_enum (a : T) : (den cf wf G (.enum a)).it ρ S = ((den cf wf G a).e ρ S).bind fun x S1 => ofO (if isSq false S1 x || isSq true S1 x then (itOf S1 x).map .enum else none) S1 := (rfl)
@[simp] theorem it_zip (a b : T) : (den cf wf G (.zip a b)).it ρ S = ((den cf wf G a).e ρ S).bind fun x S1 => ((den cf wf G b).e ρ S1).bind fun y S2 => ofO (if isSq false S2 x && isSq false S2 y || isSq true S2 x && isSq true S2 y then (itOf S2 x).bind fun i => (itOf S2 y).map fun j => .zip i j else none) S2 := (rfl)
@[simp] theorem it_rng (a b : T) : (den cf wf G (.rng a b)).it ρ S = ((den cf wf G a).e ρ S).bind fun x S1 => ((den cf wf G b).e ρ S1).bind fun y S2 => ofO (rngD x y) S2 := (rfl)
/-! targets -/
@[simp] theorem pt_var (i : Nat) (d : PyData) : (den cf wf G (.var i)).pt S d ρ = setV ρ i d := (rfl)
@[simp] theorem pt_tup (ps : T) (ds : List PyData) : (den cf wf G (.tup ps)).pt S (.tuple ds) ρ = (den cf wf G ps).pts S ds ρ := (rfl)
@[simp] theorem pts_nil : (den cf wf G .nil).pts S [] ρ = some ρ := (rfl)
@[simp] theorem pts_cons (p ps : T) (d : PyData) (ds : List PyData) : (den cf wf G (.cons p ps)).pts S (d :: ds) ρ = ((den cf wf G p).pt S d ρ).bind fun ρ' => (den cf wf G ps).pts S ds ρ' := (rfl)
@[simp] theorem setV_zero (o : Option PyData) (ρ : Env) (d : PyData) : setV (o :: ρ) 0 d = some (some d :: ρ) := (rfl)
theorem setV_succ (o : Option PyData) (ρ : Env) (i : Nat) (d : PyData) : setV (o :: ρ) (i + 1) d = (setV ρ i d).map (o :: ·) := by
  unfold setV
  simp only [List.length_cons, Nat.add_lt_add_iff_right]
  split <;> rfl
@[simp] theorem setV_1 (o0 o1 : Option PyData) (ρ : Env) (d : PyData) : setV (o0 :: o1 :: ρ) 1 d = some (o0 :: some d :: ρ) := by simp [setV]
@[simp] theorem setV_2 (o0 o1 o2 : Option PyData) (ρ : Env) (d : PyData) : setV (o0 :: o1 :: o2 :: ρ) 2 d = some (o0 :: o1 :: some d :: ρ) := by simp [setV]
@[simp] theorem setV_3 (o0 o1 o2 o3 : Option PyData) (ρ : Env) (d : PyData) : setV (o0 :: o1 :: o2 :: o3 :: ρ) 3 d = some (o0 :: o1 :: o2 :: some d :: ρ) := by simp [setV]
@[simp] theorem setV_4 (o0 o1 o2 o3 o4 : Option PyData) (ρ : Env) (d : PyData) : setV (o0 :: o1 :: o2 :: o3 :: o4 :: ρ) 4 d = some (o0 :: o1 :: o2 :: o3 :: some d :: ρ) := by simp [setV]
@[simp] theorem setV_5 (o0 o1 o2 o3 o4 o5 : Option PyData) (ρ : Env) (d : PyData) : setV (o0 :: o1 :: o2 :: o3 :: o4 :: o5 :: ρ) 5 d = some (o0 :: o1 :: o2 :: o3 :: o4 :: some d :: ρ) := by simp [setV]
@[simp] theorem setV_6 (o0 o1 o2 o3 o4 o5 o6 : Option PyData) (ρ : Env) (d : PyData) : setV (o0 :: o1 :: o2 :: o3 :: o4 :: o5 :: o6 :: ρ) 6 d = some (o0 :: o1 :: o2 :: o3 :: o4 :: o5 :: some d :: ρ) := by simp [setV]
@[simp] theorem setV_7 (o0 o1 o2 o3 o4 o5 o6 o7 : Option PyData) (ρ : Env) (d : PyData) : setV (o0 :: o1 :: o2 :: o3 :: o4 :: o5 :: o6 :: o7 :: ρ) 7 d = some (o0 :: o1 :: o2 :: o3 :: o4 :: o5 :: o6 :: some d :: ρ) := by simp [setV]
@[simp] theorem setV_8 (o0 o1 o2 o3 o4 o5 o6 o7 o8 : Option PyData) (ρ : Env) (d : PyData) : setV (o0 :: o1 :: o2 :: o3 :: o4 :: o5 :: o6 :: o7 :: o8 :: ρ) 8 d = some (o0 :: o1 :: o2 :: o3 :: o4 :: o5 :: o6 :: o7 :: some d :: ρ) := by simp [setV]
@[simp] theorem setV_9 (o0 o1 o2 o3 o4 o5 o6 o7 o8 o9 : Option PyData) (ρ : Env) (d : PyData) : setV (o0 :: o1 :: o2 :: o3 :: o4 :: o5 :: o6 :: o7 :: o8 :: o9 :: ρ) 9 d = some (o0 :: o1 :: o2 :: o3 :: o4 :: o5 :: o6 :: o7 :: o8 :: some d :: ρ) := by simp [setV]
@[simp] theorem setV_10 (o0 o1 o2 o3 o4 o5 o6 o7 o8 o9 o10 : Option PyData) (ρ : Env) (d : PyData) : setV (o0 :: o1 :: o2 :: o3 :: o4 :: o5 :: o6 :: o7 :: o8 :: o9 :: o10 :: ρ) 10 d = some (o0 :: o1 :: o2 :: o3 :: o4 :: o5 :: o6 :: o7 :: o8 :: o9 :: some d :: ρ) := by simp [setV]
@[simp] theorem setV_11 (o0 o1 o2 o3 o4 o5 o6 o7 o8 o9 o10 o11 : Option PyData) (ρ : Env) (d : PyData) : setV (o0 :: o1 :: o2 :: o3 :: o4 :: o5 :: o6 :: o7 :: o8 :: o9 :: o10 :: o11 :: ρ) 11 d = some (o0 :: o1 :: o2 :: o3 :: o4 :: o5 :: o6 :: o7 :: o8 :: o9 :: o10 :: some d :: ρ) := by simp [setV]
@[simp] theorem setV_12 (o0 o1 o2 o3 o4 o5 o6 o7 o8 o9 o10 o11 o12 : Option PyData) (ρ : Env) (d : PyData) : setV (o0 :: o1 :: o2 :: o3 :: o4 :: o5 :: o6 :: o7 :: o8 :: o9 :: o10 :: o11 :: o12 :: ρ) 12 d = some (o0 :: o1 :: o2 :: o3 :: o4 :: o5 :: o6 :: o7 :: o8 :: o9 :: o10 :: o11 :: some d :: ρ) := by simp [setV]
@[simp] theorem setV_13 (o0 o1 o2 o3 o4 o5 o6 o7 o8 o9 o10 o11 o12 o13 : Option PyData) (ρ : Env) (d : PyData) : setV (o0 :: o1 :: o2 :: o3 :: o4 :: o5 :: o6 :: o7 :: o8 :: o9 :: o10 :: o11 :: o12 :: o13 :: ρ) 13 d = some (o0 :: o1 :: o2 :: o3 :: o4 :: o5 :: o6 :: o7 :: o8 :: o9 :: o10 :: o11 :: o12 :: some d :: ρ) := by simp [setV]
@[simp] theorem setV_14 (o0 o1 o2 o3 o4 o5 o6 o7 o8 o9 o10 o11 o12 o13 o14 : Option PyData) (ρ : Env) (d : PyData) : setV (o0 :: o1 :: o2 :: o3 :: o4 :: o5 :: o6 :: o7 :: o8 :: o9 :: o10 :: o11 :: o12 :: o13 :: o14 :: ρ) 14 d = some (o0 :: o1 :: o2 :: o3 :: o4 :: o5 :: o6 :: o7 :: o8 :: o9 :: o10 :: o11 :: o12 :: o13 :: some d :: ρ) := by simp [setV]
@[simp] theorem setV_15 (o0 o1 o2 o3 o4 o5 o6 o7 o8 o9 o10 o11 o12 o13 o14 o15 : Option PyData) (ρ : Env) (d : PyData) : setV (o0 :: o1 :: o2 :: o3 :: o4 :: o5 :: o6 :: o7 :: o8 :: o9 :: o10 :: o11 :: o12 :: o13 :: o14 :: o15 :: ρ) 15 d = some (o0 :: o1 :: o2 :: o3 :: o4 :: o5 :: o6 :: o7 :: o8 :: o9 :: o10 :: o11 :: o12 :: o13 :: o14 :: some d :: ρ) := by simp [setV]
@[simp] theorem setV_16 (o0 o1 o2 o3 o4 o5 o6 o7 o8 o9 o10 o11 o12 o13 o14 o15 o16 : Option PyData) (ρ : Env) (d : PyData) : setV (o0 :: o1 :: o2 :: o3 :: o4 :: o5 :: o6 :: o7 :: o8 :: o9 :: o10 :: o11 :: o12 :: o13 :: o14 :: o15 :: o16 :: ρ) 16 d = some (o0 :: o1 :: o2 :: o3 :: o4 :: o5 :: o6 :: o7 :: o8 :: o9 :: o10 :: o11 :: o12 :: o13 :: o14 :: o15 :: some d :: ρ) := by simp [setV]
@[simp] theorem setV_17 (o0 o1 o2 o3 o4 o5 o6 o7 o8 o9 o10 o11 o12 o13 o14 o15 o16 o17 : Option PyData) (ρ : Env) (d : PyData) : setV (o0 :: o1 :: o2 :: o3 :: o4 :: o5 :: o6 :: o7 :: o8 :: o9 :: o10 :: o11 :: o12 :: o13 :: o14 :: o15 :: o16 :: o17 :: ρ) 17 d = some (o0 :: o1 :: o2 :: o3 :: o4 :: o5 :: o6 :: o7 :: o8 :: o9 :: o10 :: o11 :: o12 :: o13 :: o14 :: o15 :: o16 :: some d :: ρ) := by simp [setV]
@[simp] theorem setV_18 (o0 o1 o2 o3 o4 o5 o6 o7 o8 o9 o10 o11 o12 o13 o14 o15 o16 o17 o18 : Option PyData) (ρ : Env) (d : PyData) : setV (o0 :: o1 :: o2 :: o3 :: o4 :: o5 :: o6 :: o7 :: o8 :: o9 :: o10 :: o11 :: o12 :: o13 :: o14 :: o15 :: o16 :: o17 :: o18 :: ρ) 18 d = some (o0 :: o1 :: o2 :: o3 :: o4 :: o5 :: o6 :: o7 :: o8 :: o9 :: o10 :: o11 :: o12 :: o13 :: o14 :: o15 :: o16 :: o17 :: some d :: ρ) := by simp [setV]
@[simp] theorem setV_19 (o0 o1 o2 o3 o4 o5 o6 o7 o8 o9 o10 o11 o12 o13 o14 o15 o16 o17 o18 o19 : Option PyData) (ρ : Env) (d : PyData) : setV (o0 :: o1 :: o2 :: o3 :: o4 :: o5 :: o6 :: o7 :: o8 :: o9 :: o10 :: o11 :: o12 :: o13 :: o14 :: o15 :: o16 :: o17 :: o18 :: o19 :: ρ) 19 d = some (o0 :: o1 :: o2 :: o3 :: o4 :: o5 :: o6 :: o7 :: o8 :: o9 :: o10 :: o11 :: o12 :: o13 :: o14 :: o15 :: o16 :: o17 :: o18 :: some d :: ρ) := by simp [setV]
@[simp] theorem setV_20 (o0 o1 o2 o3 o4 o5 o6 o7 o8 o9 o10 o11 o12 o13 o14 o15 o16 o17 o18 o19 o20 : Option PyData) (ρ : Env) (d : PyData) : setV (o0 :: o1 :: o2 :: o3 :: o4 :: o5 :: o6 :: o7 :: o8 :: o9 :: o10 :: o11 :: o12 :: o13 :: o14 :: o15 :: o16 :: o17 :: o18 :: o19 :: o20 :: ρ) 20 d = some (o0 :: o1 :: o2 :: o3 :: o4 :: o5 :: o6 :: o7 :: o8 :: o9 :: o10 :: o11 :: o12 :: o13 :: o14 :: o15 :: o16 :: o17 :: o18 :: o19 :: some d :: ρ) := by simp [setV]
@[simp] theorem setV_21 (o0 o1 o2 o3 o4 o5 o6 o7 o8 o9 o10 o11 o12 o13 o14 o15 o16 o17 o18 o19 o20 o21 : Option PyData) (ρ : Env) (d : PyData) : setV (o0 :: o1 :: o2 :: o3 :: o4 :: o5 :: o6 :: o7 :: o8 :: o9 :: o10 :: o11 :: o12 :: o13 :: o14 :: o15 :: o16 :: o17 :: o18 :: o19 :: o20 :: o21 :: ρ) 21 d = some (o0 :: o1 :: o2 :: o3 :: o4 :: o5 :: o6 :: o7 :: o8 :: o9 :: o10 :: o11 :: o12 :: o13 :: o14 :: o15 :: o16 :: o17 :: o18 :: o19 :: o20 :: some d :: ρ) := by simp [setV]
@[simp] theorem setV_22 (o0 o1 o2 o3 o4 o5 o6 o7 o8 o9 o10 o11 o12 o13 o14 o15 o16 o17 o18 o19 o20 o21 o22 : Option PyData) (ρ : Env) (d : PyData) : setV (o0 :: o1 :: o2 :: o3 :: o4 :: o5 :: o6 :: o7 :: o8 :: o9 :: o10 :: o11 :: o12 :: o13 :: o14 :: o15 :: o16 :: o17 :: o18 :: o19 :: o20 :: o21 :: o22 :: ρ) 22 d = some (o0 :: o1 :: o2 :: o3 :: o4 :: o5 :: o6 :: o7 :: o8 :: o9 :: o10 :: o11 :: o12 :: o13 :: o14 :: o15 :: o16 :: o17 :: o18 :: o19 :: o20 :: o21 :: some d :: ρ) := by simp [setV]
@[simp] theorem setV_23 (o0 o1 o2 o3 o4 o5 o6 o7 o8 o9 o10 o11 o12 o13 o14 o15 o16 o17 o18 o19 o20 o21 o22 o23 : Option PyData) (ρ : Env) (d : PyData) : setV (o0 :: o1 :: o2 :: o3 :: o4 :: o5 :: o6 :: o7 :: o8 :: o9 :: o10 :: o11 :: o12 :: o13 :: o14 :: o15 :: o16 :: o17 :: o18 :: o19 :: o20 :: o21 :: o22 :: o23 :: ρ) 23 d = some (o0 :: o1 :: o2 :: o3 :: o4 :: o5 :: o6 :: o7 :: o8 :: o9 :: o10 :: o11 :: o12 :: o13 :: o14 :: o15 :: o16 :: o17 :: o18 :: o19 :: o20 :: o21 :: o22 :: some d :: ρ) := by simp [setV]
@[simp] theorem slots_var (i : Nat) : slotsT (.var i) = [i] := (rfl)
@[simp] theorem slots_tup (es : T) : slotsT (.tup es) = slotsT es := (rfl)
@[simp] theorem slots_cons (a b : T) : slotsT (.cons a b) = slotsT a ++ slotsT b := (rfl)
@[simp] theorem slots_nil : slotsT .nil = [] := (rfl)
@[simp] theorem wipe_nil (ρ : Env) : wipeE ρ [] = ρ := (rfl)
@[simp] theorem wipe_cons (ρ : Env) (v : Nat) (vs : List Nat) : wipeE ρ (v :: vs) = (wipeE ρ vs).set v none := (rfl)
/-! statements -/
@[simp] theorem s_nil' : (den cf wf G .nil).s ρ S = .nx ρ S := (rfl)
@[simp] theorem s_cons' (a b : T) : (den cf wf G (.cons a b)).s ρ S = SR.seq ((den cf wf G a).s ρ S) fun ρ S => (den cf wf G b).s ρ S := (rfl)
@[simp] theorem s_pass' : (den cf wf G .pass).s ρ S = .nx ρ S := (rfl)
@[simp] theorem s_brk' : (den cf wf G .brk).s ρ S = .bk ρ S := (rfl)
@[simp] theorem s_cnt' : (den cf wf G .cnt).s ρ S = .ct ρ S := (rfl)
@[simp] theorem s_retN' : (den cf wf G .retN).s ρ S = .rt .none S := (rfl)
@[simp] theorem s_ret' (e : T) : (den cf wf G (.ret e)).s ρ S = R.toS ((den cf wf G e).e ρ S) ρ fun d S1 => .rt d S1 := (rfl)
@[simp] theorem s_expr' (e : T) : (den cf wf G (.expr e)).s ρ S = R.toS ((den cf wf G e).e ρ S) ρ fun _ S1 => .nx ρ S1 := (rfl)
@[simp] theorem s_mutm' (m : Mut) (o e : T) : (den cf wf G (.mutm m o e)).s ρ S = R.toS ((den cf wf G o).e ρ S) ρ fun x S1 => if isCell S1 x then R.toS ((den cf wf G e).e ρ S1) ρ fun y S2 => ofS (mutD m S2 x y) ρ else .stuck := (rfl)
@[simp] theorem s_if' (c a b : T) : (den cf wf G (.if_ c a b)).s ρ S = R.toS ((den cf wf G c).b ρ S) ρ fun t S1 => if t then (den cf wf G a).s ρ S1 else (den cf wf G b).s ρ S1 := (rfl)
theorem s_while' (c b : T) : (den cf wf G (.while_ c b)).s ρ S = loopW (den cf wf G c).b (den cf wf G b).s wf ρ S := rfl
theorem s_for' (p it b : T) : (den cf wf G (.for_ p it b)).s ρ S = R.toS ((den cf wf G it).it ρ S) ρ fun i S1 => loopF i (den cf wf G p).pt (den cf wf G b).s (i.len S1) 0 ρ S1 := rfl
@[simp] theorem s_asg' (p e : T) : (den cf wf G (.asg p e)).s ρ S = R.toS ((den cf wf G e).e ρ S) ρ fun x S1 => ofE ((den cf wf G p).pt S1 x ρ) S1 := (rfl)
@[simp] theorem s_par' (p es : T) : (den cf wf G (.par p es)).s ρ S = R.toS ((den cf wf G es).es ρ S) ρ fun xs S1 => ofE ((den cf wf G p).pts S1 xs ρ) S1 := (rfl)
@[simp] theorem s_aug' (i : Nat) (op : BOp) (e : T) : (den cf wf G (.aug i op e)).s ρ S = R.toS (eVar i ρ S) ρ fun x S1 => R.toS ((den cf wf G e).e ρ S1) ρ fun y S2 => match op, x, y with
  | .add, .int a, .int b => ofE (setV ρ i (.int (a + b))) S2
  | .bor, .int a, .int b => ofE (setV ρ i (.int (Builtin.bitOr a b))) S2
  | _, _, _ => .stuck := rfl
@[simp] theorem s_set' (o i e : T) : (den cf wf G (.set o i e)).s ρ S = R.toS ((den cf wf G e).e ρ S) ρ fun x S1 => R.toS ((den cf wf G o).e ρ S1) ρ fun y S2 => R.toS ((den cf wf G i).e ρ S2) ρ fun z S3 => ofS (setD S3 y z x) ρ := (rfl)
@[simp] theorem s_augset' (o i e : T) (op : BOp) : (den cf wf G (.augset o i op e)).s ρ S = R.toS ((den cf wf G o).e ρ S) ρ fun y S1 => R.toS ((den cf wf G i).e ρ S1) ρ fun z S2 => R.toS (ofO (subD S2 y z) S2) ρ fun old S3 => if isCell S2 y || (dctOf S2 y).isSome then R.toS ((den cf wf G e).e ρ S3) ρ fun x S4 => ofS ((addD op old x).bind fun n => setD S4 y z n) ρ else .stuck := (rfl)
@[simp] theorem s_raise' (c : Nat) (es : T) : (den cf wf G (.raise_ c es)).s ρ S = R.toS ((den cf wf G es).es ρ S) ρ fun xs S1 => if lenOk xs.length && (!hasF c || decide (xs.length = 1) && xs.all (fldOk c)) then .exc ⟨c, xs.headD .none⟩ ρ S1 else .stuck := (rfl)
@[simp] theorem hasF_0 : hasF 0 = false := (rfl)
@[simp] theorem hasF_1 : hasF 1 = true := (rfl)
@[simp] theorem hasF_2 : hasF 2 = true := (rfl)
@[simp] theorem fldOk_0 (d : PyData) : fldOk 0 d = isSca d := by simp [fldOk]
@[simp] theorem fldOk_1 (d : PyData) : fldOk 1 d = isSca d := by simp [fldOk]
@[simp] theorem fldOk_2 (i : Int) : fldOk 2 (.int i) = decide (i.natAbs ≤ 1000000) := by simp [fldOk, isSca]
@[simp] theorem isSca_str (x : Str) : isSca (.str x) = true := (rfl)
@[simp] theorem isSca_int (x : Int) : isSca (.int x) = true := (rfl)
/-- a try -/
def tryS (x : SR) (cs : List Nat) (h : Env → Store → SR) : SR := match x with
  | .exc c ρ1 S1 => if cs.contains c.cls then noXS (h ρ1 S1) else .exc c ρ1 S1
  | r => r
@[simp] theorem s_try' (b h : T) (cs : List Nat) : (den cf wf G (.try_ b cs h)).s ρ S = tryS ((den cf wf G b).s ρ S) cs (fun ρ S => (den cf wf G h).s ρ S) := (rfl)
theorem tryS_congr {x y : SR} (e : x = y) (cs : List Nat) (h : Env → Store → SR) : tryS x cs h = tryS y cs h := by rw [e]
/-- a try with several handlers -/
def tryX (x : SR) (hs : List Hd) : SR := match x with
  | .exc c ρ1 S1 => hdR hs c ρ1 S1
  | r => r
@[simp] theorem s_tryx' (b : T) (hs : List Hd) : (den cf wf G (.tryx b hs)).s ρ S = tryX ((den cf wf G b).s ρ S) hs := (rfl)
@[simp] theorem tryX_nx (hs : List Hd) : tryX (.nx ρ S) hs = .nx ρ S := (rfl)
@[simp] theorem tryX_rt (d : PyData) (hs : List Hd) : tryX (.rt d S) hs = .rt d S := (rfl)
@[simp] theorem tryX_exc (c : Exc) (hs : List Hd) : tryX (.exc c ρ S) hs = hdR hs c ρ S := (rfl)
@[simp] theorem s_sets2' (o i o2 i2 e : T) : (den cf wf G (.sets2 o i o2 i2 e)).s ρ S = sSets [((den cf wf G o).e, (den cf wf G i).e), ((den cf wf G o2).e, (den cf wf G i2).e)] (den cf wf G e).e ρ S := (rfl)
@[simp] theorem s_sets4' (o i o2 i2 o3 i3 o4 i4 e : T) : (den cf wf G (.sets4 o i o2 i2 o3 i3 o4 i4 e)).s ρ S = sSets [((den cf wf G o).e, (den cf wf G i).e), ((den cf wf G o2).e, (den cf wf G i2).e), ((den cf wf G o3).e, (den cf wf G i3).e), ((den cf wf G o4).e, (den cf wf G i4).e)] (den cf wf G e).e ρ S := (rfl)
@[simp] theorem sets_tup (l : List (EvE × EvE)) (e : EvE) : sSets l e ρ S = R.toS (e ρ S) ρ fun v S1 => match v with
  | .tuple xs => if xs.length = l.length then sGo l xs ρ S1 else .stuck
  | _ => .stuck := (rfl)
@[simp] theorem go_nil : sGo [] [] ρ S = .nx ρ S := (rfl)
@[simp] theorem go_cons (p : EvE × EvE) (l : List (EvE × EvE)) (x : PyData) (xs : List PyData) : sGo (p :: l) (x :: xs) ρ S = R.toS (p.1 ρ S) ρ fun y S2 => R.toS (p.2 ρ S2) ρ fun z S3 => match setD S3 y z x with
  | some S4 => sGo l xs ρ S4
  | none => .stuck := (rfl)
@[simp] theorem tryS_nx (cs : List Nat) (h : Env → Store → SR) : tryS (.nx ρ S) cs h = .nx ρ S := (rfl)
@[simp] theorem tryS_rt (d : PyData) (cs : List Nat) (h : Env → Store → SR) : tryS (.rt d S) cs h = .rt d S := (rfl)
@[simp] theorem tryS_bk (cs : List Nat) (h : Env → Store → SR) : tryS (.bk ρ S) cs h = .bk ρ S := (rfl)
@[simp] theorem tryS_ct (cs : List Nat) (h : Env → Store → SR) : tryS (.ct ρ S) cs h = .ct ρ S := (rfl)
@[simp] theorem tryS_exc (c : Exc) (cs : List Nat) (h : Env → Store → SR) : tryS (.exc c ρ S) cs h = if cs.contains c.cls then noXS (h ρ S) else .exc c ρ S := (rfl)
@[simp] theorem noXS_rt (d : PyData) : noXS (.rt d S) = .rt d S := (rfl)
@[simp] theorem noXS_nx : noXS (.nx ρ S) = .nx ρ S := (rfl)
end
/-! ### operations -/
section
variable {S : Store}
@[simp] theorem op_add_int (i j : Int) : opB .add S (.int i) (.int j) = some (.int (i + j)) := (rfl)
@[simp] theorem op_sub_int (i j : Int) : opB .sub S (.int i) (.int j) = some (.int (i - j)) := (rfl)
theorem op_mul_int {i j : Int} (h : i.natAbs.log2 + j.natAbs.log2 < 1000000) : opB .mul S (.int i) (.int j) = some (.int (i * j)) := by
  show (binI .mul i j).map _ = _
  unfold binI; rw [if_pos h]; rfl
theorem op_fdiv_int {i j : Int} (h : 0 < j) (h2 : j.natAbs.log2 < 9000) : opB .fdiv S (.int i) (.int j) = some (.int (i / j)) := by
  show (binI .fdiv i j).map _ = _
  unfold binI; simp only; rw [if_pos ⟨h, h2⟩]; rfl
theorem op_mod_int {i j : Int} (h : 0 < j) : opB .mod S (.int i) (.int j) = some (.int (i % j)) := by
  show (binI .mod i j).map _ = _
  unfold binI; simp only; rw [if_pos h]; rfl
@[simp] theorem op_add_tup (xs ys : List PyData) : opB .add S (.tuple xs) (.tuple ys) = if lenOk (xs.length + ys.length) then some (.tuple (xs ++ ys)) else none := (rfl)
@[simp] theorem op_add_lst (xs ys : List PyData) : opB .add S (.list xs) (.list ys) = if lenOk (xs.length + ys.length) then some (.list (xs ++ ys)) else none := (rfl)
@[simp] theorem op_add_str (x y : Str) : opB .add S (.str x) (.str y) = if lenOk (x.length + y.length) then some (.str (x ++ y)) else none := (rfl)
@[simp] theorem op_mul_lst (xs : List PyData) (j : Int) : opB .mul S (.list xs) (.int j) = if fitsI j ∧ lenOk (xs.length * j.toNat) then some (.list (List.replicate j.toNat xs).flatten) else none := (rfl)
@[simp] theorem op_mul_tup (xs : List PyData) (j : Int) : opB .mul S (.tuple xs) (.int j) = if xs ≠ [] ∧ -1000 ≤ j ∧ j ≤ 1000 ∧ xs.length ≤ 1000 then some (.tuple (List.replicate j.toNat xs).flatten) else none := (rfl)
@[simp] theorem neg_int (i : Int) : negD (.int i) = some (.int (-i)) := (rfl)
@[simp] theorem truth_bool (b : Bool) : truth S (.bool b) = some b := (rfl)
@[simp] theorem truth_none : truth S .none = some false := (rfl)
@[simp] theorem truth_int (i : Int) : truth S (.int i) = some (i != 0) := (rfl)
@[simp] theorem truth_tup (ds : List PyData) : truth S (.tuple ds) = some (!ds.isEmpty) := (rfl)
@[simp] theorem truth_lst (ds : List PyData) : truth S (.list ds) = some (!ds.isEmpty) := (rfl)
@[simp] theorem if_ok {α : Type} {c : Prop} [Decidable c] {x y : α} {S : Store} : (if c then R.ok x S else R.ok y S) = R.ok (if c then x else y) S := by split <;> rfl
@[simp] theorem if_bool {c : Prop} [Decidable c] {x y : Bool} : (if c then PyData.bool x else PyData.bool y) = PyData.bool (if c then x else y) := by split <;> rfl
@[simp] theorem if_int {c : Prop} [Decidable c] {x y : Int} : (if c then PyData.int x else PyData.int y) = PyData.int (if c then x else y) := by split <;> rfl
@[simp] theorem if_strD {c : Prop} [Decidable c] {x y : String} : (if c then PyData.str (Str.ofString x) else PyData.str (Str.ofString y)) = PyData.str (Str.ofString (if c then x else y)) := by split <;> rfl
@[simp] theorem if_rt {c : Prop} [Decidable c] {x y : PyData} {S : Store} : (if c then SR.rt x S else SR.rt y S) = SR.rt (if c then x else y) S := by split <;> rfl
@[simp] theorem seq_if_rt {c : Prop} [Decidable c] {d : PyData} {S : Store} {B : SR} {k : Env → Store → SR} : SR.seq (if c then .rt d S else B) k = if c then .rt d S else SR.seq B k := by split <;> rfl
@[simp] theorem seq_if_rt' {c : Prop} [Decidable c] {d : PyData} {S : Store} {B : SR} {k : Env → Store → SR} : SR.seq (if c then B else .rt d S) k = if c then SR.seq B k else .rt d S := by split <;> rfl
@[simp] theorem seq_if_exc {c : Prop} [Decidable c] {e : Exc} {ρ : Env} {S : Store} {B : SR} {k : Env → Store → SR} : SR.seq (if c then .exc e ρ S else B) k = if c then .exc e ρ S else SR.seq B k := by split <;> rfl
@[simp] theorem ty_beq (a b : Ty) : (a == b) = decide (a = b) := (rfl)
/-! comparisons -/
@[simp] theorem cmp_eq_int (i j : Int) : cmpD .eq S (.int i) (.int j) = some (decide (i = j)) := eq_int S i j
theorem ne_int (S : Store) (i j : Int) : cmpD .ne S (.int i) (.int j) = some (!decide (i = j)) := by
  show (if shp (.int i) && shp (.int j) then some (!PyData.eqv (.int i) (.int j)) else none) = _
  have h : (shp (.int i) && shp (.int j)) = true := rfl
  rw [h]; simp only [PyData.eqv, if_true]; rfl
@[simp] theorem cmp_ne_int (i j : Int) : cmpD .ne S (.int i) (.int j) = some (!decide (i = j)) := ne_int S i j
@[simp] theorem cmp_lt_int (i j : Int) : cmpD .lt S (.int i) (.int j) = some (decide (i < j)) := (rfl)
@[simp] theorem cmp_le_int (i j : Int) : cmpD .le S (.int i) (.int j) = some (decide (i ≤ j)) := (rfl)
@[simp] theorem cmp_gt_int (i j : Int) : cmpD .gt S (.int i) (.int j) = some (decide (j < i)) := (rfl)
@[simp] theorem cmp_ge_int (i j : Int) : cmpD .ge S (.int i) (.int j) = some (decide (j ≤ i)) := (rfl)
/-- not none -/
@[simp] theorem v_cmp_isN (d : PyData) : cmpD .isN S d .none = some (!notN d) := by cases d <;> rfl
@[simp] theorem v_cmp_notN (d : PyData) : cmpD .notN S d .none = some (notN d) := by cases d <;> rfl
@[simp] theorem notN_none : notN .none = false := (rfl)
@[simp] theorem notN_bool (b : Bool) : notN (.bool b) = true := (rfl)
@[simp] theorem notN_int (b : Int) : notN (.int b) = true := (rfl)
@[simp] theorem notN_str (b : Str) : notN (.str b) = true := (rfl)
@[simp] theorem notN_tup (b : List PyData) : notN (.tuple b) = true := (rfl)
@[simp] theorem notN_lst (b : List PyData) : notN (.list b) = true := (rfl)
/-! parts -/
@[simp] theorem sub_tup (ds : List PyData) (k : Int) : subD S (.tuple ds) (.int k) = atI ds k := (rfl)
@[simp] theorem sub_lst (ds : List PyData) (k : Int) : subD S (.list ds) (.int k) = atI ds k := (rfl)
theorem sub_cell {c : Nat} {ds : List PyData} (h : S[c]? = some (.lst ds)) (k : Int) : subD S (cell c) (.int k) = atI ds k := by
  show (match S[c]?, PyData.int k with
    | some (.lst ds), .int k => L2.atI ds k
    | some (.dct t ks vs), i => if keyOk t i then lookK i ks vs else none
    | _, _ => none) = _
  rw [h]
@[simp] theorem atI_zero {α : Type} (x : α) (xs : List α) : atI (x :: xs) 0 = some x := by simp [atI, ixN]
@[simp] theorem atI_one {α : Type} (x y : α) (xs : List α) : atI (x :: y :: xs) 1 = some y := by
  unfold atI ixN; rw [if_pos (by decide), if_pos (by simp only [List.length_cons]; omega)]; rfl
@[simp] theorem atI_two {α : Type} (x y z : α) (xs : List α) : atI (x :: y :: z :: xs) 2 = some z := by
  unfold atI ixN; rw [if_pos (by decide), if_pos (by simp only [List.length_cons]; omega)]; rfl
@[simp] theorem atI_three {α : Type} (x y z w : α) (xs : List α) : atI (x :: y :: z :: w :: xs) 3 = some w := by
  unfold atI ixN; rw [if_pos (by decide), if_pos (by simp only [List.length_cons]; omega)]; rfl
@[simp] theorem atI_four {α : Type} (x y z w v : α) (xs : List α) : atI (x :: y :: z :: w :: v :: xs) 4 = some v := by
  unfold atI ixN; rw [if_pos (by decide), if_pos (by simp only [List.length_cons]; omega)]; rfl
theorem atI_nat {α : Type} {xs : List α} {n : Nat} (h : n < xs.length) : atI xs (n : Int) = some xs[n] := by
  unfold atI ixN; rw [if_pos (by omega), if_pos (by omega)]; simp [h]
@[simp] theorem blt_len (d : PyData) : bltD .len S [d] = lenD S d := (rfl)
@[simp] theorem len_tup (ds : List PyData) : lenD S (.tuple ds) = some (.int ds.length) := (rfl)
@[simp] theorem len_lst (ds : List PyData) : lenD S (.list ds) = some (.int ds.length) := (rfl)
theorem len_cell {c : Nat} {ds : List PyData} (h : S[c]? = some (.lst ds)) : lenD S (cell c) = some (.int ds.length) := by
  show (match S[c]? with
    | some (.lst ds) => some (PyData.int ds.length)
    | some (.dct false ks _) => some (.int ks.length)
    | _ => none) = _
  rw [h]
theorem len_dict {c : Nat} {ks vs : List PyData} (h : S[c]? = some (.dct false ks vs)) : lenD S (cell c) = some (.int ks.length) := by
  show (match S[c]? with
    | some (.lst ds) => some (PyData.int ds.length)
    | some (.dct false ks _) => some (.int ks.length)
    | _ => none) = _
  rw [h]
@[simp] theorem items_tup (ds : List PyData) : itemsOf S (.tuple ds) = some ds := (rfl)
@[simp] theorem items_lst (ds : List PyData) : itemsOf S (.list ds) = some ds := (rfl)
theorem cellOf_at {c : Nat} {ds : List PyData} (h : S[c]? = some (.lst ds)) : cellOf S c = some ds := by unfold cellOf; rw [h]
theorem items_cell {c : Nat} {ds : List PyData} (h : S[c]? = some (.lst ds)) : itemsOf S (cell c) = some ds := cellOf_at h
@[simp] theorem blt_tuple (d : PyData) : bltD .tuple S [d] = (itemsOf S d).map .tuple := (rfl)
@[simp] theorem blt_list (d : PyData) : bltD .list S [d] = listD S d := (rfl)
@[simp] theorem list_tup (ds : List PyData) : listD S (.tuple ds) = some (.list ds) := (rfl)
@[simp] theorem list_lst (ds : List PyData) : listD S (.list ds) = some (.list ds) := (rfl)
theorem list_cell {c : Nat} {ds : List PyData} (h : S[c]? = some (.lst ds)) : listD S (cell c) = some (.list ds) := by
  show (match S[c]? with
    | some (.lst ds) => some (PyData.list ds)
    | some (.dct false ks _) => some (.list ks)
    | _ => none) = _
  rw [h]
@[simp] theorem blt_all (d : PyData) : bltD .all S [d] = ((itemsOf S d).bind boolsOf).map fun bs => .bool (bs.all id) := (rfl)
@[simp] theorem blt_any (d : PyData) : bltD .any S [d] = ((itemsOf S d).bind boolsOf).map fun bs => .bool (bs.any id) := (rfl)
@[simp] theorem bools_map {α : Type} (xs : List α) (f : α → Bool) : boolsOf (xs.map fun x => .bool (f x)) = some (xs.map f) := by
  rw [← bools_data, List.map_map]; rfl
@[simp] theorem bools_nil : boolsOf [] = some [] := (rfl)
@[simp] theorem bools_cons (b : Bool) (bs : List Bool) : boolsOf (.bool b :: bs.map .bool) = some (b :: bs) := bools_data (b :: bs)
@[simp] theorem bools_lit1 (a : Bool) : boolsOf [.bool a] = some [a] := bools_data [a]
@[simp] theorem bools_lit2 (a b : Bool) : boolsOf [.bool a, .bool b] = some [a, b] := bools_data [a, b]
@[simp] theorem bools_lit3 (a b c : Bool) : boolsOf [.bool a, .bool b, .bool c] = some [a, b, c] := bools_data [a, b, c]
@[simp] theorem bools_lit4 (a b c d : Bool) : boolsOf [.bool a, .bool b, .bool c, .bool d] = some [a, b, c, d] := bools_data [a, b, c, d]
@[simp] theorem blt_sorted (d : PyData) : bltD .sorted S [d] = sortedB S d := (rfl)
@[simp] theorem sorted_lst (ds : List PyData) : sortedB S (.list ds) = sortedOf ds := (rfl)
@[simp] theorem sorted_tup (ds : List PyData) : sortedB S (.tuple ds) = sortedOf ds := (rfl)
theorem sorted_cell {c : Nat} {ds : List PyData} (h : S[c]? = some (.lst ds)) : sortedB S (cell c) = sortedOf ds := by
  have e : dctOf S (cell c) = none := by
    show (match S[c]? with
      | some (.dct t ks vs) => some (t, ks, vs)
      | _ => none) = _
    rw [h]
  unfold sortedB
  rw [e]
  show (cellOf S c).bind sortedOf = _
  unfold cellOf; rw [h]; rfl
@[simp] theorem blt_int (i : Int) : bltD .int S [.int i] = some (.int i) := (rfl)
@[simp] theorem blt_abs (i : Int) : bltD .abs S [.int i] = some (.int (if i < 0 then -i else i)) := (rfl)
@[simp] theorem blt_max2 (i j : Int) : bltD .max2 S [.int i, .int j] = some (.int (if j > i then j else i)) := (rfl)
@[simp] theorem blt_min2 (i j : Int) : bltD .min2 S [.int i, .int j] = some (.int (if j < i then j else i)) := (rfl)
@[simp] theorem blt_isi (t : Ty) (d : PyData) : bltD (.isi t) S [d] = (isT S t d).map .bool := (rfl)
@[simp] theorem isT_none (t : Ty) : isT S t .none = some false := (rfl)
@[simp] theorem isT_bool (t : Ty) (b : Bool) : isT S t (.bool b) = some (t == .bool || t == .int) := (rfl)
@[simp] theorem isT_int (t : Ty) (b : Int) : isT S t (.int b) = some (t == .int) := (rfl)
@[simp] theorem isT_str (t : Ty) (b : Str) : isT S t (.str b) = some (t == .str) := (rfl)
@[simp] theorem isT_tup (t : Ty) (b : List PyData) : isT S t (.tuple b) = some (t == .tuple) := (rfl)
@[simp] theorem isT_lst (t : Ty) (b : List PyData) : isT S t (.list b) = some (t == .list) := (rfl)
@[simp] theorem isSq_tup (t : Bool) (ds : List PyData) : isSq t S (.tuple ds) = t := (rfl)
@[simp] theorem isSq_lst (t : Bool) (ds : List PyData) : isSq t S (.list ds) = !t := (rfl)
@[simp] theorem itOf_tup (ds : List PyData) : itOf S (.tuple ds) = some (.seq ds) := (rfl)
@[simp] theorem itOf_lst (ds : List PyData) : itOf S (.list ds) = some (.seq ds) := (rfl)
theorem itOf_cell {c : Nat} {ds : List PyData} (h : S[c]? = some (.lst ds)) : itOf S (cell c) = some (.cell c) := by
  show (match S[c]? with
    | some (.lst _) => some (Mk.It.cell c)
    | _ => none) = _
  rw [h]
theorem itD_at {c : Nat} {t : Bool} {ks vs : List PyData} (h : S[c]? = some (.dct t ks vs)) : itDct (cell c) S = .ok (.seq ks) (S.set c (.dct true ks vs)) := by
  show (match S[c]? with
    | some (.dct _ ks vs) => .ok (.seq ks) (S.set c (.dct true ks vs))
    | _ => .stuck : R Mk.It) = _
  rw [h]
theorem isCell_cell {c : Nat} {ds : List PyData} (h : S[c]? = some (.lst ds)) : isCell S (cell c) = true := by
  show (cellOf S c).isSome = true
  rw [cellOf_at h]; rfl
theorem isCell_dict {c : Nat} {t : Bool} {ks vs : List PyData} (h : S[c]? = some (.dct t ks vs)) : isCell S (cell c) = false := by
  show (cellOf S c).isSome = false
  unfold cellOf; rw [h]; rfl
theorem append_cell {c : Nat} {ds : List PyData} (h : S[c]? = some (.lst ds)) (x : PyData) : mutD .append S (cell c) x = if ds.length < sizeLine then some (S.set c (.lst (ds ++ [x]))) else none := by
  show ((cellOf S c).bind fun ds => if ds.length < sizeLine then some (S.set c (.lst (ds ++ [x]))) else none) = _
  rw [cellOf_at h]; rfl
theorem set_cell {c : Nat} {ds : List PyData} (h : S[c]? = some (.lst ds)) (k : Int) (x : PyData) : setD S (cell c) (.int k) x = (ixN ds.length k).map fun j => S.set c (.lst (ds.set j x)) := by
  show (match S[c]?, PyData.int k with
    | some (.lst ds), .int k => (ixN ds.length k).map fun j => S.set c (.lst (ds.set j x))
    | some (.dct t ks vs), i => if !t && keyOk t i && decide (ks.length < sizeLine) then some (S.set c (.dct t (putK i x ks vs).1 (putK i x ks vs).2)) else none
    | _, _ => none) = _
  rw [h]
@[simp] theorem add_int (i j : Int) : addD .add (.int i) (.int j) = some (.int (i + j)) := (rfl)
theorem ixN_nat {n k : Nat} (h : k < n) : ixN n (k : Int) = some k := by
  unfold ixN; rw [if_pos (by omega), if_pos (by omega)]; rfl
@[simp] theorem lenOk_0 : lenOk 0 = true := lenOk_of (by decide)
@[simp] theorem lenOk_1 : lenOk 1 = true := lenOk_of (by decide)
@[simp] theorem lenOk_2 : lenOk 2 = true := lenOk_of (by decide)
@[simp] theorem lenOk_3 : lenOk 3 = true := lenOk_of (by decide)
@[simp] theorem lenOk_4 : lenOk 4 = true := lenOk_of (by decide)
@[simp] theorem lenOk_5 : lenOk 5 = true := lenOk_of (by decide)
@[simp] theorem lenOk_6 : lenOk 6 = true := lenOk_of (by decide)
@[simp] theorem lenOk_7 : lenOk 7 = true := lenOk_of (by decide)
@[simp] theorem lenOk_8 : lenOk 8 = true := lenOk_of (by decide)
@[simp] theorem lenOk_9 : lenOk 9 = true := lenOk_of (by decide)
@[simp] theorem lenOk_10 : lenOk 10 = true := lenOk_of (by decide)
@[simp] theorem lenOk_11 : lenOk 11 = true := lenOk_of (by decide)
@[simp] theorem lenOk_12 : lenOk 12 = true := lenOk_of (by decide)
@[simp] theorem lenOk_13 : lenOk 13 = true := lenOk_of (by decide)
@[simp] theorem lenOk_14 : lenOk 14 = true := lenOk_of (by decide)
@[simp] theorem lenOk_15 : lenOk 15 = true := lenOk_of (by decide)
@[simp] theorem lenOk_16 : lenOk 16 = true := lenOk_of (by decide)
@[simp] theorem lenOk_17 : lenOk 17 = true := lenOk_of (by decide)
@[simp] theorem lenOk_18 : lenOk 18 = true := lenOk_of (by decide)
@[simp] theorem lenOk_19 : lenOk 19 = true := lenOk_of (by decide)
@[simp] theorem lenOk_20 : lenOk 20 = true := lenOk_of (by decide)
theorem lenOk_small {n : Nat} (h : n ≤ 1000000) : lenOk n = true := lenOk_of (by omega)
end
end Mk

set_option Elab.async false
set_option linter.all false
set_option maxRecDepth 100000
set_option maxHeartbeats 1000000
/-! Ev2: what is walked, comprehensions, loops, calls. -/
namespace Mk
open PySem PySem.W L2
/-! ### what is walked -/
/-- all that comes, at a store -/
def _root_.Mk.It.its (S : Store) : Mk.It → List PyData
  | .seq ds => ds
  | .cell k => (cellOf S k).getD []
  | .rng lo m => (List.range m).map fun (n : Nat) => .int (lo + (n : Int))
  | .enum i => (i.its S).zipIdx.map fun p => .tuple [.int (p.2 : Int), p.1]
  | .zip i j => ((i.its S).zip (j.its S)).map fun p => .tuple [p.1, p.2]
open Mk.It (its)
theorem at_its (S : Store) : ∀ (i : Mk.It) (n : Nat), i.at S n = (i.its S)[n]?
  | .seq ds, n => rfl
  | .cell k, n => by
    show (cellOf S k).bind (·[n]?) = ((cellOf S k).getD [])[n]?
    cases cellOf S k with
    | none => simp
    | some ds => rfl
  | .rng lo m, n => by
    show (if n < m then some (PyData.int (lo + (n : Int))) else none) = ((List.range m).map fun (n : Nat) => PyData.int (lo + (n : Int)))[n]?
    rw [List.getElem?_map]
    split
    · rename_i h
      rw [List.getElem?_range h]; rfl
    · rename_i h
      rw [List.getElem?_eq_none (by rw [List.length_range]; omega)]; rfl
  | .enum i, n => by
    show (i.at S n).map (fun x => PyData.tuple [.int (n : Int), x]) = ((i.its S).zipIdx.map fun (p : PyData × Nat) => PyData.tuple [.int (p.2 : Int), p.1])[n]?
    rw [at_its S i n, List.getElem?_map, List.getElem?_zipIdx]
    cases (i.its S)[n]? with
    | none => rfl
    | some x => simp
  | .zip i j, n => by
    show ((i.at S n).bind fun x => (j.at S n).map fun y => PyData.tuple [x, y]) = (((i.its S).zip (j.its S)).map fun (p : PyData × PyData) => PyData.tuple [p.1, p.2])[n]?
    rw [at_its S i n, at_its S j n, List.getElem?_map, List.zip, List.getElem?_zipWith]
    cases (i.its S)[n]? with
    | none => rfl
    | some x => cases (j.its S)[n]? with
      | none => rfl
      | some y => rfl
theorem len_its (S : Store) : ∀ (i : Mk.It), i.len S = (i.its S).length
  | .seq ds => rfl
  | .cell k => rfl
  | .rng lo m => by simp [Mk.It.len, Mk.It.its]
  | .enum i => by
    show i.len S = ((i.its S).zipIdx.map fun (p : PyData × Nat) => PyData.tuple [.int (p.2 : Int), p.1]).length
    rw [len_its S i, List.length_map, List.length_zipIdx]
  | .zip i j => by
    show min (i.len S) (j.len S) = (((i.its S).zip (j.its S)).map fun (p : PyData × PyData) => PyData.tuple [p.1, p.2]).length
    rw [len_its S i, len_its S j, List.length_map, List.length_zip]
@[simp] theorem its_seq (S : Store) (ds : List PyData) : (Mk.It.seq ds).its S = ds := (rfl)
@[simp] theorem its_rng (S : Store) (lo : Int) (m : Nat) : (Mk.It.rng lo m).its S = (List.range m).map fun (n : Nat) => PyData.int (lo + (n : Int)) := (rfl)
@[simp] theorem its_enum (S : Store) (i : Mk.It) : (Mk.It.enum i).its S = (i.its S).zipIdx.map fun (p : PyData × Nat) => PyData.tuple [.int (p.2 : Int), p.1] := (rfl)
@[simp] theorem its_zip (S : Store) (i j : Mk.It) : (Mk.It.zip i j).its S = ((i.its S).zip (j.its S)).map fun (p : PyData × PyData) => PyData.tuple [p.1, p.2] := (rfl)
theorem its_cell {S : Store} {k : Nat} {ds : List PyData} (h : S[k]? = some (.lst ds)) : (Mk.It.cell k).its S = ds := by
  show (cellOf S k).getD [] = ds
  rw [cellOf_at h]; rfl
theorem rngD_int {i j : Int} (hi : -1000000 ≤ i ∧ i ≤ 1000000) (hj : -1000000 ≤ j ∧ j ≤ 1000000) (h : (j - i).toNat ≤ 1000000) : rngD (.int i) (.int j) = some (.rng i (j - i).toNat) := by
  have h1 : ∀ v : Int, (-1000000 ≤ v ∧ v ≤ 1000000) → fitsI v = true := fun v hv => by
    unfold fitsI
    rw [Bool.and_eq_true]
    exact ⟨decide_eq_true (by omega), decide_eq_true (by omega)⟩
  show (if fitsI i && fitsI j && lenOk (j - i).toNat then some (Mk.It.rng i (j - i).toNat) else none) = _
  rw [h1 i hi, h1 j hj, lenOk_of h]; rfl
/-! ### comprehensions -/
section
variable {α : Type} {enc : α → PyData}
/-- a clause without effect, whatever is within: what each item adds -/
theorem loopC_gen {β : Type} {i : Mk.It} {S : Store} {xs : List α} (hi : i.its S = xs.map enc) {p : Bnd} {c : EvB} {b : Env → Store → List β → R (List β)} {ρ : Env} {add : α → List β}
    (h : ∀ x ∈ xs, ∃ ρd t, p S (enc x) ρ = some ρd ∧ c ρd S = .ok t S ∧ (t = true → ∀ acc, acc.length + (add x).length ≤ 1000000 → b ρd S acc = .ok (acc ++ add x) S) ∧ (t = false → add x = [])) :
    ∀ (f n : Nat) (acc : List β), n + f = xs.length → acc.length + ((xs.drop n).flatMap add).length ≤ 1000000 → loopC i p c b ρ f n S acc = .ok (acc ++ (xs.drop n).flatMap add) S
  | 0, n, acc, e, hl => by
    have : i.at S n = none := by rw [at_its, hi, List.getElem?_eq_none (by rw [List.length_map]; omega)]
    unfold loopC
    rw [this, List.drop_of_length_le (by omega)]
    simp
  | f + 1, n, acc, e, hl => by
    have hn : n < xs.length := by omega
    have ha : i.at S n = some (enc xs[n]) := by rw [at_its, hi, List.getElem?_map, List.getElem?_eq_getElem hn]; rfl
    have hd : xs.drop n = xs[n] :: xs.drop (n + 1) := List.drop_eq_getElem_cons hn
    obtain ⟨ρd, t, h1, h2, h3, h4⟩ := h xs[n] (List.getElem_mem hn)
    rw [hd, List.flatMap_cons, List.length_append] at hl
    unfold loopC
    rw [ha]
    simp only [h1, h2, bind_ok]
    cases t with
    | true =>
      rw [if_pos rfl, h3 rfl acc (by omega)]
      simp only [bind_ok]
      rw [loopC_gen hi h f (n + 1) (acc ++ add xs[n]) (by omega) (by rw [List.length_append]; omega), hd, List.flatMap_cons, List.append_assoc]
    | false =>
      rw [if_neg Bool.false_ne_true]
      have := h4 rfl
      rw [loopC_gen hi h f (n + 1) acc (by omega) (by rw [this] at hl; simpa using hl), hd, List.flatMap_cons, this, List.nil_append]
section
variable {cf : CF} {wf : Nat} {G : List PyData}
/-- one clause -/
theorem comp_ok {own : List Nat} {p it c elt : T} {ρ : Env} {S : Store} {i : Mk.It} (xs : List α) (enc : α → PyData) (cc : α → Bool) (g : α → PyData)
    (he : (den cf wf G it).it (wipeE ρ own) S = .ok i S) (hi : i.its S = xs.map enc)
    (h : ∀ x ∈ xs, ∃ ρd, (den cf wf G p).pt S (enc x) (wipeE (wipeE ρ own) (slotsT p)) = some ρd ∧ (den cf wf G c).b ρd S = .ok (cc x) S ∧ (cc x = true → (den cf wf G elt).e ρd S = .ok (g x) S)) (hl : xs.length ≤ 1000000) :
    (den cf wf G (.comp own (.gen p it c .nil) elt)).e ρ S = .ok (.list ((xs.filter cc).map g)) S := by
  show (R.bind ((den cf wf G it).it (wipeE ρ own) S) fun i S1 => noX (loopC i (den cf wf G p).pt (den cf wf G c).b (gNil (den cf wf G elt).e) (wipeE (wipeE ρ own) (slotsT p)) (i.len S1) 0 S1 [])).bind _ = _
  rw [he]
  have key := loopC_gen (enc := enc) (xs := xs) hi (b := gNil (den cf wf G elt).e) (p := (den cf wf G p).pt) (c := (den cf wf G c).b) (ρ := wipeE (wipeE ρ own) (slotsT p)) (add := fun x => if cc x then [g x] else []) (fun x hx => by
    obtain ⟨ρd, h1, h2, h3⟩ := h x hx
    refine ⟨ρd, cc x, h1, h2, fun ht acc hacc => ?_, fun ht => by simp [ht]⟩
    simp only [ht, if_true, List.length_singleton] at hacc ⊢
    unfold gNil
    rw [h3 ht]
    simp only [bind_ok, lenOk_of hacc, guard_true]) (i.len S) 0 [] (by rw [len_its, hi, List.length_map]; omega) (by
      have : ∀ l : List α, (l.flatMap fun x => if cc x then [g x] else []).length ≤ l.length := fun l => by
        induction l with
        | nil => simp
        | cons a r ih => rw [List.flatMap_cons, List.length_append, List.length_cons]; split <;> simp only [List.length_singleton, List.length_nil] <;> omega
      have := this xs
      simp only [List.drop_zero, List.length_nil]; omega)
  simp only [bind_ok]
  rw [key]
  simp only [List.drop_zero, List.nil_append, noX_ok, bind_ok]
  congr 2
  clear key hl h hi
  induction xs with
  | nil => rfl
  | cons a r ih => rw [List.flatMap_cons, ih, List.filter_cons]; split <;> simp [*]
/-- what is walked raises -/
theorem comp_exc {own : List Nat} {p it c r elt : T} {ρ : Env} {S S' : Store} {x : Exc} (he : (den cf wf G it).it (wipeE ρ own) S = .exc x S') : (den cf wf G (.comp own (.gen p it c r) elt)).e ρ S = .exc x S' := by
  show (R.bind ((den cf wf G it).it (wipeE ρ own) S) _).bind _ = _
  rw [he]; rfl
/-- two clauses: the inner ones may depend on the outer item -/
theorem comp2_ok {β : Type} {own : List Nat} {p it c p2 it2 c2 elt : T} {ρ : Env} {S : Store} {i : Mk.It} (xs : List α) (enc : α → PyData) (cc : α → Bool) (ys : α → List β) (enc2 : α → β → PyData) (cc2 : α → β → Bool) (g : α → β → PyData)
    (he : (den cf wf G it).it (wipeE ρ own) S = .ok i S) (hi : i.its S = xs.map enc)
    (h : ∀ x ∈ xs, ∃ ρd, (den cf wf G p).pt S (enc x) (wipeE (wipeE ρ own) (slotsT p)) = some ρd ∧ (den cf wf G c).b ρd S = .ok (cc x) S ∧ (cc x = true → ∃ i2, (den cf wf G it2).it ρd S = .ok i2 S ∧ i2.its S = (ys x).map (enc2 x) ∧ 
      ∀ y ∈ ys x, ∃ ρe, (den cf wf G p2).pt S (enc2 x y) (wipeE ρd (slotsT p2)) = some ρe ∧ (den cf wf G c2).b ρe S = .ok (cc2 x y) S ∧ (cc2 x y = true → (den cf wf G elt).e ρe S = .ok (g x y) S)))
    (hl : ((xs.filter cc).flatMap ys).length ≤ 1000000) :
    (den cf wf G (.comp own (.gen p it c (.gen p2 it2 c2 .nil)) elt)).e ρ S = .ok (.list ((xs.filter cc).flatMap fun x => ((ys x).filter (cc2 x)).map (g x))) S := by
  show (R.bind ((den cf wf G it).it (wipeE ρ own) S) fun i S1 => noX (loopC i (den cf wf G p).pt (den cf wf G c).b (gCons (slotsT p2) (den cf wf G p2).pt (den cf wf G it2).it (den cf wf G c2).b gNil (den cf wf G elt).e) (wipeE (wipeE ρ own) (slotsT p)) (i.len S1) 0 S1 [])).bind _ = _
  rw [he]
  have fl : ∀ (l : List α), ((l.flatMap fun x => if cc x then ((ys x).filter (cc2 x)).map (g x) else [])).length ≤ ((l.filter cc).flatMap ys).length := fun l => by
    induction l with
    | nil => simp
    | cons a r ih =>
      rw [List.flatMap_cons, List.length_append, List.filter_cons]
      split
      · rw [List.flatMap_cons, List.length_append, List.length_map]
        have := List.length_filter_le (cc2 a) (ys a)
        omega
      · simpa using ih
  have inner : ∀ x ∈ xs, cc x = true → (ys x).length ≤ 1000000 := fun x hx hc => by
    have : (ys x).length ≤ ((xs.filter cc).flatMap ys).length := by
      have hm : x ∈ xs.filter cc := List.mem_filter.mpr ⟨hx, hc⟩
      clear hl
      generalize xs.filter cc = l at hm
      induction l with
      | nil => cases hm
      | cons a r ih =>
        rw [List.flatMap_cons, List.length_append]
        rcases List.mem_cons.mp hm with e | hm
        · rw [e]; omega
        · have := ih hm; omega
    omega
  have key := loopC_gen (enc := enc) (xs := xs) hi (b := gCons (slotsT p2) (den cf wf G p2).pt (den cf wf G it2).it (den cf wf G c2).b gNil (den cf wf G elt).e) (p := (den cf wf G p).pt) (c := (den cf wf G c).b) (ρ := wipeE (wipeE ρ own) (slotsT p)) (add := fun x => if cc x then ((ys x).filter (cc2 x)).map (g x) else []) (fun x hx => by
    obtain ⟨ρd, h1, h2, h3⟩ := h x hx
    refine ⟨ρd, cc x, h1, h2, fun ht acc hacc => ?_, fun ht => by simp [ht]⟩
    simp only [ht, if_true] at hacc ⊢
    obtain ⟨i2, q1, q2, q3⟩ := h3 ht
    show (R.bind ((den cf wf G it2).it ρd S) fun i S1 => noX (loopC i (den cf wf G p2).pt (den cf wf G c2).b (gNil (den cf wf G elt).e) (wipeE ρd (slotsT p2)) (i.len S1) 0 S1 acc)) = _
    rw [q1]
    have k2 := loopC_gen (enc := enc2 x) (xs := ys x) q2 (b := gNil (den cf wf G elt).e) (p := (den cf wf G p2).pt) (c := (den cf wf G c2).b) (ρ := wipeE ρd (slotsT p2)) (add := fun y => if cc2 x y then [g x y] else []) (fun y hy => by
      obtain ⟨ρe, r1, r2, r3⟩ := q3 y hy
      refine ⟨ρe, cc2 x y, r1, r2, fun ht2 acc2 hacc2 => ?_, fun ht => by simp [ht]⟩
      simp only [ht2, if_true, List.length_singleton] at hacc2 ⊢
      unfold gNil
      rw [r3 ht2]
      simp only [bind_ok, lenOk_of hacc2, guard_true]) (i2.len S) 0 acc (by rw [len_its, q2, List.length_map]; omega) (by
        have e : ∀ l : List β, (l.flatMap fun y => if cc2 x y then [g x y] else []) = (l.filter (cc2 x)).map (g x) := fun l => by
          induction l with
          | nil => rfl
          | cons a r ih => rw [List.flatMap_cons, ih, List.filter_cons]; split <;> simp [*]
        rw [List.drop_zero, e]; exact hacc)
    simp only [bind_ok]
    rw [k2, noX_ok]
    congr 1
    congr 1
    rw [List.drop_zero]
    generalize ys x = l
    induction l with
    | nil => rfl
    | cons a r ih => rw [List.flatMap_cons, ih, List.filter_cons]; split <;> simp [*]) (i.len S) 0 [] (by rw [len_its, hi, List.length_map]; omega) (by
      have := fl xs
      simp only [List.drop_zero, List.length_nil]; omega)
  simp only [bind_ok]
  rw [key]
  simp only [List.drop_zero, List.nil_append, noX_ok, bind_ok]
  congr 2
  clear key hl h hi inner
  induction xs with
  | nil => rfl
  | cons a r ih =>
    rw [List.flatMap_cons, ih, List.filter_cons]
    split
    · rw [List.flatMap_cons]
    · simp
end
end
/-! ### loops -/
section
variable {cf : CF} {wf : Nat} {G : List PyData}
/-- a loop over what stays: P holds ahead of the turn n, or the loop ends early as E says -/
theorem loopF_inv {i : Mk.It} {ds : List PyData} {p : Bnd} {b : EvS} (P : Nat → Env → Store → Prop) (E : SR → Prop)
    (hi : ∀ n ρ S, P n ρ S → i.its S = ds)
    (step : ∀ n (hn : n < ds.length) ρ S, P n ρ S → ∃ ρ1, p S ds[n] ρ = some ρ1 ∧ ((∃ ρ2 S2, (b ρ1 S = .nx ρ2 S2 ∨ b ρ1 S = .ct ρ2 S2) ∧ P (n + 1) ρ2 S2) ∨ (∃ ρ2 S2, b ρ1 S = .bk ρ2 S2 ∧ E (.nx ρ2 S2)) ∨ (∃ d S2, b ρ1 S = .rt d S2 ∧ E (.rt d S2)) ∨ (∃ c ρ2 S2, b ρ1 S = .exc c ρ2 S2 ∧ E (.exc c ρ2 S2)))) :
    ∀ (f n : Nat) (ρ : Env) (S : Store), n + f = ds.length → P n ρ S → (∃ ρ' S', loopF i p b f n ρ S = .nx ρ' S' ∧ P ds.length ρ' S') ∨ E (loopF i p b f n ρ S)
  | 0, n, ρ, S, e, h => by
    have hn : n = ds.length := by omega
    refine .inl ⟨ρ, S, ?_, by rw [← hn]; exact h⟩
    have : i.at S n = none := by rw [at_its, hi n ρ S h, List.getElem?_eq_none (by omega)]
    unfold loopF; rw [this]
  | f + 1, n, ρ, S, e, h => by
    have hn : n < ds.length := by omega
    have ha : i.at S n = some ds[n] := by rw [at_its, hi n ρ S h, List.getElem?_eq_getElem hn]
    obtain ⟨ρ1, h1, h2⟩ := step n hn ρ S h
    unfold loopF
    rw [ha]
    simp only [h1]
    rcases h2 with ⟨ρ2, S2, h2 | h2, h3⟩ | ⟨ρ2, S2, h2, h3⟩ | ⟨d, S2, h2, h3⟩ | ⟨c, ρ2, S2, h2, h3⟩
    · rw [h2]; exact loopF_inv P E hi step f (n + 1) ρ2 S2 (by omega) h3
    · rw [h2]; exact loopF_inv P E hi step f (n + 1) ρ2 S2 (by omega) h3
    · rw [h2]; exact .inr h3
    · rw [h2]; exact .inr h3
    · rw [h2]; exact .inr h3
/-- for, all turns done -/
theorem for_all {p it b : T} {ρ : Env} {S : Store} {i : Mk.It} {ds : List PyData} (P : Nat → Env → Store → Prop)
    (he : (den cf wf G it).it ρ S = .ok i S) (hi : ∀ n ρ S, P n ρ S → i.its S = ds) (h0 : P 0 ρ S)
    (step : ∀ n (hn : n < ds.length) ρ S, P n ρ S → ∃ ρ1 ρ2 S2, (den cf wf G p).pt S ds[n] ρ = some ρ1 ∧ ((den cf wf G b).s ρ1 S = .nx ρ2 S2 ∨ (den cf wf G b).s ρ1 S = .ct ρ2 S2) ∧ P (n + 1) ρ2 S2) :
    ∃ ρ' S', (den cf wf G (.for_ p it b)).s ρ S = .nx ρ' S' ∧ P ds.length ρ' S' := by
  rw [s_for', he]
  simp only [toS_ok]
  have hl : i.len S = ds.length := by rw [len_its, hi 0 ρ S h0]
  rw [hl]
  rcases loopF_inv (i := i) (ds := ds) (p := (den cf wf G p).pt) (b := (den cf wf G b).s) P (fun _ => False) hi (fun n hn ρ S h => by
    obtain ⟨ρ1, ρ2, S2, h1, h2, h3⟩ := step n hn ρ S h
    exact ⟨ρ1, h1, .inl ⟨ρ2, S2, h2, h3⟩⟩) ds.length 0 ρ S (by omega) h0 with h | h
  · exact h
  · exact h.elim
/-- for, with ways out -/
theorem for_some {p it b : T} {ρ : Env} {S : Store} {i : Mk.It} {ds : List PyData} (P : Nat → Env → Store → Prop) (E : SR → Prop)
    (he : (den cf wf G it).it ρ S = .ok i S) (hi : ∀ n ρ S, P n ρ S → i.its S = ds) (h0 : P 0 ρ S)
    (step : ∀ n (hn : n < ds.length) ρ S, P n ρ S → ∃ ρ1, (den cf wf G p).pt S ds[n] ρ = some ρ1 ∧ ((∃ ρ2 S2, ((den cf wf G b).s ρ1 S = .nx ρ2 S2 ∨ (den cf wf G b).s ρ1 S = .ct ρ2 S2) ∧ P (n + 1) ρ2 S2) ∨ (∃ ρ2 S2, (den cf wf G b).s ρ1 S = .bk ρ2 S2 ∧ E (.nx ρ2 S2)) ∨ (∃ d S2, (den cf wf G b).s ρ1 S = .rt d S2 ∧ E (.rt d S2)) ∨ (∃ c ρ2 S2, (den cf wf G b).s ρ1 S = .exc c ρ2 S2 ∧ E (.exc c ρ2 S2)))) :
    (∃ ρ' S', (den cf wf G (.for_ p it b)).s ρ S = .nx ρ' S' ∧ P ds.length ρ' S') ∨ E ((den cf wf G (.for_ p it b)).s ρ S) := by
  rw [s_for', he]
  simp only [toS_ok]
  have hl : i.len S = ds.length := by rw [len_its, hi 0 ρ S h0]
  rw [hl]
  exact loopF_inv (i := i) (ds := ds) P E hi step ds.length 0 ρ S (by omega) h0
/-- while: P with a measure m below the fuel -/
theorem while_inv {c b : T} (P : Nat → Env → Store → Prop) (E : SR → Prop)
    (step : ∀ m ρ S, P m ρ S → (∃ S1, (den cf wf G c).b ρ S = .ok false S1 ∧ E (.nx ρ S1)) ∨ (∃ S1, (den cf wf G c).b ρ S = .ok true S1 ∧ ((∃ m' ρ2 S2, ((den cf wf G b).s ρ S1 = .nx ρ2 S2 ∨ (den cf wf G b).s ρ S1 = .ct ρ2 S2) ∧ m' < m ∧ P m' ρ2 S2) ∨ (∃ ρ2 S2, (den cf wf G b).s ρ S1 = .bk ρ2 S2 ∧ E (.nx ρ2 S2)) ∨ (∃ d S2, (den cf wf G b).s ρ S1 = .rt d S2 ∧ E (.rt d S2)) ∨ (∃ x ρ2 S2, (den cf wf G b).s ρ S1 = .exc x ρ2 S2 ∧ E (.exc x ρ2 S2))))) :
    ∀ (m : Nat) (ρ : Env) (S : Store), m < wf → P m ρ S → E ((den cf wf G (.while_ c b)).s ρ S) := by
  intro m ρ S hm h
  rw [s_while']
  suffices key : ∀ (f m : Nat) (ρ : Env) (S : Store), m < f → P m ρ S → E (loopW (den cf wf G c).b (den cf wf G b).s f ρ S) from key wf m ρ S hm h
  intro f
  induction f with
  | zero => intro m ρ S hm; omega
  | succ f ih =>
    intro m ρ S hm h
    unfold loopW
    rcases step m ρ S h with ⟨S1, h1, h2⟩ | ⟨S1, h1, ⟨m', ρ2, S2, h2 | h2, h3, h4⟩ | ⟨ρ2, S2, h2, h3⟩ | ⟨d, S2, h2, h3⟩ | ⟨x, ρ2, S2, h2, h3⟩⟩
    · rw [h1]; exact h2
    · rw [h1]; simp only [h2]; exact ih m' ρ2 S2 (by omega) h4
    · rw [h1]; simp only [h2]; exact ih m' ρ2 S2 (by omega) h4
    · rw [h1]; simp only [h2]; exact h3
    · rw [h1]; simp only [h2]; exact h3
    · rw [h1]; simp only [h2]; exact h3
end
/-! ### calls -/
section
variable {Φ : Nat → Option Fn} {wf : Nat} {G : List PyData} {n f : Nat} {xs : List PyData} {fn : Fn}
theorem run_def (hΦ : Φ f = some fn) (hl : xs.length = fn.np) (S : Store) : callN Φ wf G (n + 1) f xs S = (match (den (callN Φ wf G n) wf G fn.body).s (startE fn.np fn.ns xs) S with
    | .rt d S' => leave fn.keep S.length d S'
    | .nx _ S' => leave fn.keep S.length .none S'
    | .exc c _ S' => if decide (S.length ≤ S'.length) && (S'.take S.length).all (blwC S.length) && clD c.fld then .exc c (S'.take S.length) else .stuck
    | _ => .stuck) := by
  show (match Φ f with | some fn => runF (callN Φ wf G n) wf G fn xs S | none => .stuck) = _
  rw [hΦ]
  show runF _ _ _ _ _ _ = _
  unfold runF
  rw [if_pos hl]
  all_goals rfl
theorem leave0 {d : PyData} {S : Store} (h : clD d = true) : leave k0 0 d S = .ok d [] := by
  have hr : isRf d = false := by cases d <;> first | rfl | cases h
  unfold leave
  simp only [Nat.zero_le, decide_true, List.take_zero, List.all_nil, Bool.and_self, if_true, hr, Bool.and_false, Bool.false_eq_true, if_false]
  have : outD S 0 d = some d := by
    cases d with
    | tuple ds =>
      show (if clDs ds then some (PyData.tuple ds) else _) = _
      rw [if_pos (by simpa [clD] using h)]
    | list ds =>
      show (if clD (.list ds) then some (PyData.list ds) else none) = _
      rw [if_pos h]
    | dict => cases h
    | _ => rfl
  rw [this]; rfl
/-- a closed call that hands back plain data -/
theorem call_rt (hΦ : Φ f = some fn) (hl : xs.length = fn.np) (hx : clDs xs = true) {d : PyData} {S' : Store} (hb : (den (callN Φ wf G n) wf G fn.body).s (startE fn.np fn.ns xs) [] = .rt d S') (hd : clD d = true) (S : Store) : callD (callN Φ wf G (n + 1)) f xs S = .ok d S := by
  have : callN Φ wf G (n + 1) f xs [] = .ok d [] := by
    rw [run_def hΦ hl, hb]; exact leave0 hd
  unfold callD
  rw [if_pos hx, this]
  show (if clD d = true then _ else _) = _
  rw [if_pos hd]
theorem call_nx (hΦ : Φ f = some fn) (hl : xs.length = fn.np) (hx : clDs xs = true) {ρ' : Env} {S' : Store} (hb : (den (callN Φ wf G n) wf G fn.body).s (startE fn.np fn.ns xs) [] = .nx ρ' S') (S : Store) : callD (callN Φ wf G (n + 1)) f xs S = .ok .none S := by
  have : callN Φ wf G (n + 1) f xs [] = .ok .none [] := by
    rw [run_def hΦ hl, hb]; exact leave0 rfl
  unfold callD
  rw [if_pos hx, this]; rfl
theorem call_exc (hΦ : Φ f = some fn) (hl : xs.length = fn.np) (hx : clDs xs = true) {ρ' : Env} {S' : Store} {c : Exc} (hb : (den (callN Φ wf G n) wf G fn.body).s (startE fn.np fn.ns xs) [] = .exc c ρ' S') (hc : clD c.fld = true) (S : Store) : callD (callN Φ wf G (n + 1)) f xs S = .exc c S := by
  have : callN Φ wf G (n + 1) f xs [] = .exc c [] := by
    rw [run_def hΦ hl, hb]
    simp [hc]
  unfold callD
  rw [if_pos hx, this]
/-- .. its own list, frozen -/
theorem call_cell (hk : fn.keep = false) (hΦ : Φ f = some fn) (hl : xs.length = fn.np) (hx : clDs xs = true) {k : Nat} {ds : List PyData} {S' : Store} (hb : (den (callN Φ wf G n) wf G fn.body).s (startE fn.np fn.ns xs) [] = .rt (cell k) S') (h : S'[k]? = some (.lst ds)) (hd : clDs ds = true) (S : Store) : callD (callN Φ wf G (n + 1)) f xs S = .ok (.list ds) S := by
  have : callN Φ wf G (n + 1) f xs [] = .ok (.list ds) [] := by
    rw [run_def hΦ hl, hb]
    show leave fn.keep 0 (cell k) S' = _
    rw [hk]
    have e : outD S' 0 (cell k) = some (.list ds) := by
      show (if k < 0 then some (rf k) else match S'[k]? with
        | some (.lst ds) => if clDs ds then some (PyData.list ds) else none
        | _ => none) = _
      rw [if_neg (Nat.not_lt_zero k), h]
      show (if clDs ds = true then _ else _) = _
      rw [if_pos hd]
    unfold leave
    simp only [Nat.zero_le, decide_true, List.take_zero, List.all_nil, Bool.and_self, if_true, Bool.false_and, Bool.false_eq_true, if_false, e]
    rfl
  unfold callD
  rw [if_pos hx, this]
  show (if clD (.list ds) = true then _ else _) = _
  rw [if_pos (by simpa [clD] using hd)]
end
end Mk

set_option Elab.async false
set_option linter.all false
set_option maxRecDepth 100000
set_option maxHeartbeats 1000000
/-! Enc: typed data as plain data. -/
namespace Mk
open PySem PySem.W L2
class Enc (α : Type) where
  deq : DecidableEq α
  enc : α → PyData
  cl : ∀ a, clD (enc a) = true
  lay : ∀ a, (enc a).canLay0 = true
  dep : Nat
  depOk : ∀ a, (enc a).depth ≤ dep
  eqv : ∀ a b, PyData.eqv (enc a) (enc b) = decide (a = b)
  ali : ∀ a b, alike (enc a) (enc b) = true
  nn : ∀ a, notN (enc a) = true
open Enc (enc)
instance (priority := low) {α : Type} [Enc α] : DecidableEq α := Enc.deq
theorem strOk_ofString (s : String) : PyData.strOk (Str.ofString s) = true := by
  unfold PyData.strOk
  rw [Str.ofString_eq_toList]
  rw [Array.all_eq_true]
  intro i hi
  simp only [List.size_toArray, List.length_map] at hi
  simp only [List.getElem_toArray, List.getElem_map, decide_eq_true_eq]
  have := (s.toList[i]).valid
  have h2 : (s.toList[i]).toNat < 0x110000 := by
    unfold UInt32.isValidChar Nat.isValidChar at this
    show (s.toList[i]).val.toNat < _
    omega
  exact h2
instance : Enc Int where
  deq := inferInstance
  enc i := .int i
  cl _ := rfl
  lay _ := rfl
  dep := 0
  depOk _ := by simp [PyData.depth]
  eqv a b := by simp only [PyData.eqv]; rfl
  ali _ _ := rfl
  nn _ := rfl
instance : Enc String where
  deq := inferInstance
  enc s := .str (Str.ofString s)
  cl _ := rfl
  lay s := by simp only [PyData.canLay0]; exact strOk_ofString s
  dep := 0
  depOk _ := by simp [PyData.depth]
  eqv a b := by
    simp only [PyData.eqv]
    rw [Bool.eq_iff_iff]
    simp [ofString_inj]
  ali _ _ := rfl
  nn _ := rfl
instance : Enc Bool where
  deq := inferInstance
  enc b := .bool b
  cl _ := rfl
  lay _ := rfl
  dep := 0
  depOk _ := by simp [PyData.depth]
  eqv a b := by cases a <;> cases b <;> rfl
  ali _ _ := rfl
  nn _ := rfl
instance {α β : Type} [Enc α] [Enc β] : Enc (α × β) where
  deq := inferInstance
  enc p := .tuple [enc p.1, enc p.2]
  cl p := by simp [clD, clDs, Enc.cl]
  lay p := by simp [PyData.canLay0, PyData.canLayAll0, Enc.lay]
  dep := max (Enc.dep α) (Enc.dep β) + 1
  depOk p := by
    have h1 := Enc.depOk p.1
    have h2 := Enc.depOk p.2
    simp only [PyData.depth, PyData.depthAll]
    omega
  eqv a b := by
    cases a; cases b
    simp only [PyData.eqv, PyData.eqvAll, Enc.eqv, Prod.mk.injEq, Bool.and_true]
    rw [Bool.decide_and]
  ali a b := by simp [alike, alikeAll, Enc.ali]
  nn _ := rfl
theorem cl_map {α : Type} [Enc α] (xs : List α) : clDs (xs.map enc) = true := by
  induction xs with
  | nil => rfl
  | cons a r ih => simp [clDs, Enc.cl, ih]
theorem lay_map {α : Type} [Enc α] (xs : List α) : PyData.canLayAll0 (xs.map enc) = true := by
  induction xs with
  | nil => rfl
  | cons a r ih => simp [PyData.canLayAll0, Enc.lay, ih]
theorem dep_map {α : Type} [Enc α] (xs : List α) : PyData.depthAll (xs.map enc) ≤ Enc.dep α := by
  induction xs with
  | nil => simp [PyData.depthAll]
  | cons a r ih => have := Enc.depOk a; simp only [List.map_cons, PyData.depthAll]; omega
theorem eqv_map {α : Type} [Enc α] (xs ys : List α) : PyData.eqvAll (xs.map enc) (ys.map enc) = decide (xs = ys) := by
  induction xs generalizing ys with
  | nil => cases ys <;> simp [PyData.eqvAll]
  | cons a r ih => cases ys with
    | nil => simp [PyData.eqvAll]
    | cons b s => simp only [List.map_cons, PyData.eqvAll, Enc.eqv, ih, List.cons.injEq]; rw [Bool.decide_and]
theorem ali_map {α : Type} [Enc α] (xs ys : List α) : alikeAll (xs.map enc) (ys.map enc) = true := by
  induction xs generalizing ys with
  | nil => simp [alikeAll]
  | cons a r ih => cases ys with
    | nil => simp [alikeAll]
    | cons b s => simp [alikeAll, Enc.ali, ih]
instance {α : Type} [Enc α] : Enc (List α) where
  deq := inferInstance
  enc xs := .tuple (xs.map enc)
  cl xs := by simp only [clD]; exact cl_map xs
  lay xs := by simp only [PyData.canLay0]; exact lay_map xs
  dep := Enc.dep α + 1
  depOk xs := by have := dep_map xs; simp only [PyData.depth]; omega
  eqv a b := by simp only [PyData.eqv]; exact eqv_map a b
  ali a b := by simp only [alike]; exact ali_map a b
  nn _ := rfl
@[simp] theorem enc_int (i : Int) : enc i = .int i := (rfl)
@[simp] theorem enc_str (s : String) : enc s = .str (Str.ofString s) := (rfl)
@[simp] theorem enc_bool (b : Bool) : enc b = .bool b := (rfl)
@[simp] theorem enc_pair {α β : Type} [Enc α] [Enc β] (p : α × β) : enc p = .tuple [enc p.1, enc p.2] := (rfl)
@[simp] theorem enc_list {α : Type} [Enc α] (xs : List α) : enc xs = .tuple (xs.map enc) := (rfl)
/-! shapes, by simp -/
@[simp] theorem cl_none : clD .none = true := (rfl)
@[simp] theorem cl_bool (b : Bool) : clD (.bool b) = true := (rfl)
@[simp] theorem cl_int (b : Int) : clD (.int b) = true := (rfl)
@[simp] theorem cl_str (b : Str) : clD (.str b) = true := (rfl)
@[simp] theorem cl_tup (b : List PyData) : clD (.tuple b) = clDs b := by simp only [clD]
@[simp] theorem cl_lst (b : List PyData) : clD (.list b) = clDs b := by simp only [clD]
@[simp] theorem cls_nil : clDs [] = true := (rfl)
@[simp] theorem cls_cons (d : PyData) (ds : List PyData) : clDs (d :: ds) = (clD d && clDs ds) := (rfl)
@[simp] theorem cls_app (xs ys : List PyData) : clDs (xs ++ ys) = (clDs xs && clDs ys) := by
  induction xs with
  | nil => rfl
  | cons a r ih => simp [ih, Bool.and_assoc]
@[simp] theorem cl_enc {α : Type} [Enc α] (a : α) : clD (enc a) = true := Enc.cl a
@[simp] theorem cls_enc {α : Type} [Enc α] (xs : List α) : clDs (xs.map enc) = true := cl_map xs
theorem cls_all {ds : List PyData} : clDs ds = true ↔ ∀ d ∈ ds, clD d = true := by
  induction ds with
  | nil => simp
  | cons a r ih => simp [ih]
theorem cls_map {α : Type} {f : α → PyData} {xs : List α} (h : ∀ x ∈ xs, clD (f x) = true) : clDs (xs.map f) = true := by
  rw [cls_all]; intro d hd; obtain ⟨x, hx, rfl⟩ := List.mem_map.mp hd; exact h x hx
@[simp] theorem cls_ints (xs : List Int) : clDs (xs.map .int) = true := cl_map xs
@[simp] theorem cls_bools {α : Type} (xs : List α) (f : α → Bool) : clDs (xs.map fun x => .bool (f x)) = true := cls_map fun _ _ => rfl
theorem shp_iff (d : PyData) : shp d = (d.canLay0 && decide (d.depth ≤ 64)) := rfl
theorem shp_enc {α : Type} [Enc α] (a : α) (h : Enc.dep α ≤ 64) : shp (enc a) = true := by
  rw [shp_iff, Enc.lay]
  have := Enc.depOk a
  simp; omega
theorem shp_lst {α : Type} [Enc α] (xs : List α) (h : Enc.dep α ≤ 63) : shp (.list (xs.map enc)) = true := by
  have h1 := dep_map xs
  unfold shp SeqAt.shaped
  simp only [PyData.canLay0, lay_map, PyData.depth, Bool.true_and]
  exact decide_eq_true (by omega)
theorem shp_tup {α : Type} [Enc α] (xs : List α) (h : Enc.dep α ≤ 63) : shp (.tuple (xs.map enc)) = true := by
  have h1 := dep_map xs
  unfold shp SeqAt.shaped
  simp only [PyData.canLay0, lay_map, PyData.depth, Bool.true_and]
  exact decide_eq_true (by omega)
/-! ### comparing -/
section
variable {S : Store}
theorem rd_cl {d : PyData} (h : clD d = true) : rd S d = d := by cases d <;> first | rfl | cases h
theorem eq_of {x y : PyData} (hx : shp x = true) (hy : shp y = true) : cmpD .eq S x y = some (PyData.eqv x y) := by
  have hn : ∀ d, shp d = true → rd S d = d := fun d h => by
    cases d with
    | dict kvs => rw [shp_iff] at h; simp [PyData.canLay0] at h
    | _ => rfl
  have hs : (match strEq x y with | some t => some t | none => if shp (rd S x) && shp (rd S y) then some (PyData.eqv (rd S x) (rd S y)) else none) = some (PyData.eqv x y) := by
    rw [hn x hx, hn y hy, hx, hy]
    unfold strEq
    split
    · rename_i t e
      split at e
      · cases e; simp only [PyData.eqv]; rfl
      · cases e
    · rfl
  exact hs
theorem ne_of {x y : PyData} (hx : shp x = true) (hy : shp y = true) : cmpD .ne S x y = some (!PyData.eqv x y) := by
  have hn : ∀ d, shp d = true → rd S d = d := fun d h => by
    cases d with
    | dict kvs => rw [shp_iff] at h; simp [PyData.canLay0] at h
    | _ => rfl
  have hs : (match strEq x y with | some t => some (!t) | none => if shp (rd S x) && shp (rd S y) then some (!PyData.eqv (rd S x) (rd S y)) else none) = some (!PyData.eqv x y) := by
    rw [hn x hx, hn y hy, hx, hy]
    unfold strEq
    split
    · rename_i t e
      split at e
      · cases e; simp only [PyData.eqv]; rfl
      · cases e
    · rfl
  exact hs
@[simp] theorem cmp_eq_strS {S : Store} (x y : Str) : cmpD .eq S (.str x) (.str y) = some (decide (x = y)) := rfl
@[simp] theorem cmp_ne_strS {S : Store} (x y : Str) : cmpD .ne S (.str x) (.str y) = some (!decide (x = y)) := rfl
theorem eq_enc {α : Type} [Enc α] (a b : α) (h : Enc.dep α ≤ 64) : cmpD .eq S (enc a) (enc b) = some (decide (a = b)) := by
  rw [eq_of (shp_enc a h) (shp_enc b h), Enc.eqv]
theorem ne_enc {α : Type} [Enc α] (a b : α) (h : Enc.dep α ≤ 64) : cmpD .ne S (enc a) (enc b) = some (!decide (a = b)) := by
  rw [ne_of (shp_enc a h) (shp_enc b h), Enc.eqv]
@[simp] theorem cmp_eq_str (a b : String) : cmpD .eq S (.str (Str.ofString a)) (.str (Str.ofString b)) = some (decide (a = b)) := eq_enc a b (by decide)
@[simp] theorem cmp_ne_str (a b : String) : cmpD .ne S (.str (Str.ofString a)) (.str (Str.ofString b)) = some (!decide (a = b)) := ne_enc a b (by decide)
theorem in_of {d : PyData} {ds : List PyData} {c : PyData} (hc : dctOf S c = none) (hs : ∀ x y, ¬ (d = .str x ∧ c = .str y)) (hi : itemsOf S c = some ds) (h1 : shp d = true) (h2 : shp (.list ds) = true) : inD S d c = some (ds.any fun z => PyData.eqv z d) := by
  unfold inD
  split
  · rename_i x y
    exact (hs x y ⟨rfl, rfl⟩).elim
  · rw [hc, hi]
    simp only [h1, h2, Bool.and_self, if_true]
theorem any_enc {α : Type} [Enc α] (a : α) (xs : List α) : ((xs.map enc).any fun z => PyData.eqv z (enc a)) = decide (a ∈ xs) := by
  induction xs with
  | nil => simp
  | cons b r ih =>
    simp only [List.map_cons, List.any_cons, ih, Enc.eqv, List.mem_cons]
    rw [Bool.decide_or]
    congr 1
    exact decide_eq_decide.mpr eq_comm
theorem in_lst {α : Type} [Enc α] (a : α) (xs : List α) (h : Enc.dep α ≤ 63) : inD S (enc a) (.list (xs.map enc)) = some (decide (a ∈ xs)) := by
  rw [in_of (ds := xs.map enc) rfl (fun x y h => by cases h.2) rfl (shp_enc a (by omega)) (shp_lst xs h), any_enc]
theorem in_tup {α : Type} [Enc α] (a : α) (xs : List α) (h : Enc.dep α ≤ 63) : inD S (enc a) (.tuple (xs.map enc)) = some (decide (a ∈ xs)) := by
  rw [in_of (ds := xs.map enc) rfl (fun x y h => by cases h.2) rfl (shp_enc a (by omega)) (shp_lst xs h), any_enc]
theorem in_cell {α : Type} [Enc α] {c : Nat} (a : α) (xs : List α) (h : Enc.dep α ≤ 63) (hc : S[c]? = some (.lst (xs.map enc))) : inD S (enc a) (cell c) = some (decide (a ∈ xs)) := by
  rw [in_of (ds := xs.map enc) (c := cell c) (by
    show (match S[c]? with
      | some (.dct t ks vs) => some (t, ks, vs)
      | _ => none) = none
    rw [hc]) (fun x y h => by cases h.2) (items_cell hc) (shp_enc a (by omega)) (shp_lst xs h), any_enc]
@[simp] theorem v_cmp_in (a b : PyData) : cmpD .in_ S a b = inD S a b := (rfl)
@[simp] theorem v_cmp_nin (a b : PyData) : cmpD .nin S a b = (inD S a b).map (!·) := (rfl)
@[simp] theorem in_ints (i : Int) (xs : List Int) : inD S (.int i) (.list (xs.map .int)) = some (decide (i ∈ xs)) := in_lst i xs (by decide)
@[simp] theorem in_intsT (i : Int) (xs : List Int) : inD S (.int i) (.tuple (xs.map .int)) = some (decide (i ∈ xs)) := in_tup i xs (by decide)
/-- in a written row of texts -/
theorem in_strs (a : String) (xs : List String) : inD S (.str (Str.ofString a)) (.tuple (xs.map fun s => .str (Str.ofString s))) = some (decide (a ∈ xs)) := in_tup a xs (by decide)
theorem in_strsL (a : String) (xs : List String) : inD S (.str (Str.ofString a)) (.list (xs.map fun s => .str (Str.ofString s))) = some (decide (a ∈ xs)) := in_lst a xs (by decide)
@[simp] theorem in_strs1 (a b : String) : inD S (.str (Str.ofString a)) (.tuple [.str (Str.ofString b)]) = some (decide (a ∈ [b])) := in_strs a [b]
@[simp] theorem in_strs2 (a b c : String) : inD S (.str (Str.ofString a)) (.tuple [.str (Str.ofString b), .str (Str.ofString c)]) = some (decide (a ∈ [b, c])) := in_strs a [b, c]
@[simp] theorem in_strs3 (a b c d : String) : inD S (.str (Str.ofString a)) (.tuple [.str (Str.ofString b), .str (Str.ofString c), .str (Str.ofString d)]) = some (decide (a ∈ [b, c, d])) := in_strs a [b, c, d]
@[simp] theorem in_strs4 (a b c d e : String) : inD S (.str (Str.ofString a)) (.tuple [.str (Str.ofString b), .str (Str.ofString c), .str (Str.ofString d), .str (Str.ofString e)]) = some (decide (a ∈ [b, c, d, e])) := in_strs a [b, c, d, e]
@[simp] theorem in_strsL1 (a b : String) : inD S (.str (Str.ofString a)) (.list [.str (Str.ofString b)]) = some (decide (a ∈ [b])) := in_strsL a [b]
@[simp] theorem in_strsL2 (a b c : String) : inD S (.str (Str.ofString a)) (.list [.str (Str.ofString b), .str (Str.ofString c)]) = some (decide (a ∈ [b, c])) := in_strsL a [b, c]
@[simp] theorem in_strsL3 (a b c d : String) : inD S (.str (Str.ofString a)) (.list [.str (Str.ofString b), .str (Str.ofString c), .str (Str.ofString d)]) = some (decide (a ∈ [b, c, d])) := in_strsL a [b, c, d]
@[simp] theorem in_strsL4 (a b c d e : String) : inD S (.str (Str.ofString a)) (.list [.str (Str.ofString b), .str (Str.ofString c), .str (Str.ofString d), .str (Str.ofString e)]) = some (decide (a ∈ [b, c, d, e])) := in_strsL a [b, c, d, e]
end
/-! ### sorting, sets -/
/-- typed data with Python's order -/
class EncO (α : Type) extends Enc α where
  le : α → α → Bool
  leOk : ∀ a b, (!dataLt (enc b) (enc a)) = le a b
  isT1 : Bool
  isT1Ok : ∀ a, isTup1 (enc a) = isT1
  isTNOk : ∀ a, isTupN (enc a) = isT1
instance : EncO Int where
  le a b := decide (a ≤ b)
  leOk a b := by
    show (!dataLt (.int b) (.int a)) = _
    rw [dataLt_int]
    by_cases h : b < a
    · simp [h]; 
    · simp [h]; omega
  isT1 := false
  isT1Ok _ := rfl
  isTNOk _ := rfl
theorem dataLe_enc {α : Type} [EncO α] (a b : α) : dataLe false (id : PyData → PyData) (enc a) (enc b) = EncO.le a b := EncO.leOk a b
theorem merge_map {α : Type} [EncO α] (xs : List α) : sortD (xs.map enc) = (xs.mergeSort EncO.le).map enc := by
  rw [sortD_eq]
  rw [← List.map_mergeSort (f := enc) (r := EncO.le) (s := dataLe false id)]
  intro a _ b _
  exact (dataLe_enc a b).symm
theorem allAlike_map {α : Type} [EncO α] (xs : List α) (h : Enc.dep α ≤ 64) : allAlike (xs.map enc) = true := by
  unfold allAlike
  rw [Bool.and_eq_true]
  constructor
  · rw [List.all_eq_true]
    intro a ha
    obtain ⟨x, _, rfl⟩ := List.mem_map.mp ha
    rw [shp_enc x h, Bool.true_and, List.all_eq_true]
    intro b hb
    obtain ⟨y, _, rfl⟩ := List.mem_map.mp hb
    exact Enc.ali x y
  · rw [Bool.or_eq_true]
    cases e : EncO.isT1 α with
    | true =>
      refine .inl (List.all_eq_true.mpr fun a ha => ?_)
      obtain ⟨x, _, rfl⟩ := List.mem_map.mp ha
      rw [EncO.isT1Ok, e]
    | false =>
      refine .inr (List.all_eq_true.mpr fun a ha => ?_)
      obtain ⟨x, _, rfl⟩ := List.mem_map.mp ha
      rw [EncO.isTNOk, e]; rfl
theorem sorted_map {α : Type} [EncO α] (xs : List α) (h : Enc.dep α ≤ 64) (hl : xs.length ≤ 1000000) : sortedOf (xs.map enc) = some (.list ((xs.mergeSort EncO.le).map enc)) := by
  unfold sortedOf
  rw [allAlike_map xs h, List.length_map, lenOk_of hl, merge_map]; rfl
/-- the first one of each -/
def nub {α : Type} [DecidableEq α] (xs : List α) : List α := xs.foldl (fun acc d => if d ∈ acc then acc else acc ++ [d]) []
theorem nubD_map {α : Type} [Enc α] (xs : List α) : nubD (xs.map enc) = (nub xs).map enc := by
  have key : ∀ (xs acc : List α), (xs.map enc).foldl (fun acc d => if acc.any (fun z => PyData.eqv z d) then acc else acc ++ [d]) (acc.map enc) = (xs.foldl (fun acc d => if d ∈ acc then acc else acc ++ [d]) acc).map enc := by
    intro xs
    induction xs with
    | nil => intro acc; rfl
    | cons a r ih =>
      intro acc
      rw [List.map_cons, List.foldl_cons, List.foldl_cons, any_enc]
      by_cases h : a ∈ acc
      · rw [if_pos (by simpa using h), if_pos h]; exact ih acc
      · rw [if_neg (by simpa using h), if_neg h, ← ih]
        rw [List.map_append]; rfl
  exact key xs []
theorem nub_spec {α : Type} [DecidableEq α] (xs : List α) : (nub xs).Nodup ∧ ∀ a, a ∈ nub xs ↔ a ∈ xs := by
  have key : ∀ (xs acc : List α), acc.Nodup → (xs.foldl (fun acc d => if d ∈ acc then acc else acc ++ [d]) acc).Nodup ∧ ∀ a, a ∈ xs.foldl (fun acc d => if d ∈ acc then acc else acc ++ [d]) acc ↔ a ∈ acc ∨ a ∈ xs := by
    intro xs
    induction xs with
    | nil => intro acc h; exact ⟨h, fun a => by simp⟩
    | cons b r ih =>
      intro acc h
      rw [List.foldl_cons]
      by_cases hb : b ∈ acc
      · rw [if_pos hb]
        obtain ⟨h1, h2⟩ := ih acc h
        refine ⟨h1, fun a => ?_⟩
        rw [h2, List.mem_cons]
        constructor
        · rintro (h | h) <;> simp [h]
        · rintro (h | rfl | h)
          · exact .inl h
          · exact .inl hb
          · exact .inr h
      · rw [if_neg hb]
        obtain ⟨h1, h2⟩ := ih (acc ++ [b]) (List.nodup_append.mpr ⟨h, by simp, by
          intro a ha c hc
          rw [List.mem_singleton] at hc
          rw [hc]
          intro e; rw [e] at ha; exact hb ha⟩)
        refine ⟨h1, fun a => ?_⟩
        rw [h2, List.mem_append, List.mem_singleton, List.mem_cons, or_assoc]
  have := key xs [] List.nodup_nil
  exact ⟨this.1, fun a => by rw [nub, this.2]; simp⟩
@[simp] theorem intsOf_map (xs : List Int) : intsOf (xs.map .int) = some xs := by
  induction xs with
  | nil => rfl
  | cons a r ih => show (intsOf (r.map .int)).map (a :: ·) = _; rw [ih]; rfl
theorem lenset_ints (xs : List Int) (h : xs.length ≤ 4000) : lensetOf (xs.map .int) = some (.int (nub xs).length) := by
  unfold lensetOf
  have : nubD (xs.map .int) = (nub xs).map .int := nubD_map xs
  rw [intsOf_map]
  show (if decide (xs.length ≤ 4000) = true then some (PyData.int ((nubD (xs.map .int)).length : Nat)) else none) = _
  rw [if_pos (decide_eq_true h), this, List.length_map]
/-- pairs of ints -/
theorem lenset_pairs (xs : List (Int × Int)) (h : xs.length < 64) : lensetOf (xs.map enc) = some (.int (nub xs).length) := by
  cases xs with
  | nil => rfl
  | cons a r =>
    unfold lensetOf
    have h0 : intsOf ((a :: r).map enc) = none := rfl
    have h1 : ∀ l : List (Int × Int), tupsOf (l.map enc) = some (l.map fun p => [p.1, p.2]) := fun l => by
      induction l with
      | nil => rfl
      | cons b l ih =>
        show (match intsOf [.int b.1, .int b.2], tupsOf (l.map enc) with | some k, some ks => some (k :: ks) | _, _ => none) = _
        rw [ih]; rfl
    have : nubD ((a :: r).map enc) = (nub (a :: r)).map enc := nubD_map (a :: r)
    rw [h0, h1]
    show (if decide ((List.map (fun (p : Int × Int) => [p.1, p.2]) (a :: r)).length < 64) = true then some (PyData.int ((nubD ((a :: r).map enc)).length : Nat)) else none) = _
    rw [if_pos (by rw [List.length_map]; exact decide_eq_true h), this, List.length_map]
theorem sortset_ints (xs : List Int) (h : xs.length ≤ 4000) (h2 : (nub xs).length < 64) : sortsetOf (xs.map .int) = some (.list (((nub xs).mergeSort (fun a b => decide (a ≤ b))).map .int)) := by
  unfold sortsetOf
  have : nubD (xs.map .int) = (nub xs).map .int := nubD_map xs
  rw [intsOf_map]
  dsimp only
  rw [this, List.length_map, decide_eq_true h, decide_eq_true h2]
  have := merge_map (nub xs)
  exact congrArg (fun l => some (PyData.list l)) this
theorem nub_len_le (xs : List Int) : (nub xs).length ≤ xs.length := (nub_spec xs).1.length_le_of_subset fun a h => ((nub_spec xs).2 a).mp h
@[simp] theorem blt_lenset {S : Store} (xs : List PyData) : bltD .lenset S [.list xs] = lensetOf xs := (rfl)
@[simp] theorem blt_sortset {S : Store} (xs : List PyData) : bltD .sortset S [.list xs] = sortsetOf xs := (rfl)
@[simp] theorem sorted_ints' (xs : List Int) (hl : xs.length ≤ 1000000) : sortedOf (xs.map .int) = some (.list ((xs.mergeSort (fun a b => decide (a ≤ b))).map .int)) := sorted_map xs (by decide) hl
theorem isort_perm (xs : List Int) : (xs.mergeSort (fun a b => decide (a ≤ b))).Perm xs := List.mergeSort_perm _ _
theorem isort_sorted (xs : List Int) : (xs.mergeSort (fun a b => decide (a ≤ b))).Pairwise (· ≤ ·) := by
  have := List.pairwise_mergeSort (le := fun a b : Int => decide (a ≤ b)) (fun a b c h1 h2 => by simp at *; omega) (fun a b => by simp; omega) xs
  exact this.imp fun h => by simpa using h
end Mk

set_option Elab.async false
set_option linter.all false
set_option maxRecDepth 100000
set_option maxHeartbeats 1000000
/-! Dw: the laws' draws as functions; comprehensions and calls that change the store. -/
namespace Mk
open PySem PySem.W L2
open Enc (enc)
/-- what is left of a draw -/
structure Dw where
  as : List Int
  a : Int
  r : Int
  s : Int
  has : ∀ x ∈ as, (0 : Int) ≤ x
  ha : -1 ≤ a
  hr : 0 ≤ r
  hs : 0 ≤ s
  hs2 : s < 2147483647
def Dw.cell (d : Dw) : Cell := dc d.as d.a d.r d.s
def Dw.r1 (d : Dw) : Int := if d.a + 1 < d.as.length then d.as.getD (d.a + 1).toNat 0 else d.r
def Dw.s1 (d : Dw) : Int := (d.s * 48271 + 11) % 2147483647
/-- the next digits are there -/
def Dw.next (d : Dw) : Dw := if d.r = 0 then
    (if h : d.r1 = 0 then ⟨d.as, d.a + 1, d.s1, d.s1, d.has, by have := d.ha; omega, Int.emod_nonneg _ (by decide), Int.emod_nonneg _ (by decide), Int.emod_lt_of_pos _ (by decide)⟩
     else ⟨d.as, d.a + 1, d.r1, d.s, d.has, by have := d.ha; omega, by
      unfold Dw.r1
      split
      · rename_i hc
        have := d.ha
        have hn : (d.a + 1).toNat < d.as.length := by omega
        rw [List.getD_eq_getElem?_getD, List.getElem?_eq_getElem hn]
        exact d.has _ (List.getElem_mem hn)
      · exact d.hr, d.hs, d.hs2⟩)
  else d
def Dw.take (d : Dw) (m : Int) : Int := d.next.r % m
def Dw.rest (d : Dw) (m : Int) : Dw := if h : 0 < m then ⟨d.next.as, d.next.a, d.next.r / m, d.next.s, d.next.has, d.next.ha, Int.ediv_nonneg d.next.hr (by omega), d.next.hs, d.next.hs2⟩ else d
theorem Dw.take_pos (d : Dw) {m : Int} (h : 0 < m) : 0 ≤ d.take m := Int.emod_nonneg _ (by omega)
theorem Dw.take_lt (d : Dw) {m : Int} (h : 0 < m) : d.take m < m := Int.emod_lt_of_pos _ h
section
variable {cf : CF} {wf : Nat} {G : List PyData}
theorem take_fnB (d : Dw) {S : Store} {c : Nat} {m : Int} (hS : S[c]? = some d.cell) (hm : 0 < m) (hm2 : m.natAbs.log2 < 9000) : (den cf wf G takeT).s [some (rf c), some (.int m), none] S = .rt (.int (d.take m)) (S.set c (d.rest m).cell) := by
  have hlt := (List.getElem?_eq_some_iff.mp hS).1
  have fin : ∀ (e : Dw) (S1 : Store), S1 = S.set c e.cell → e = d.next → (den cf wf G takeEnd).s [some (rf c), some (.int m), none] S1 = .rt (.int (d.take m)) (S.set c (d.rest m).cell) := by
    intro e S1 h1 h2
    subst h2
    have hS1 : S1[c]? = some (dc d.next.as d.next.a d.next.r d.next.s) := by rw [h1]; exact List.getElem?_set_self hlt
    rw [take_endB hS1 hm hm2, h1, List.set_set]
    unfold Dw.take Dw.rest
    rw [dif_pos hm]; rfl
  have step : (den cf wf G takeT).s [some (rf c), some (.int m), none] S = SR.seq ((den cf wf G (.if_ (.cmp .eq (.sub (.var 0) (.cst (.int 2))) (.cst (.int 0))) _ .nil)).s [some (rf c), some (.int m), none] S) (den cf wf G takeEnd).s := den_cons
  rw [step]
  show SR.seq (R.toS ((den cf wf G (.cmp .eq (.sub (.var 0) (.cst (.int 2))) (.cst (.int 0)))).b _ S) _ _) _ = _
  rw [bOf_eq0 hS]
  by_cases hr : d.r = 0
  · rw [decide_eq_true hr]
    show SR.seq ((den cf wf G (.cons _ (.cons _ (.cons _ .nil)))).s _ S) _ = _
    rw [den_cons, s_one hS, seq_nx]
    have hS1 : (S.set c (dc d.as (d.a + 1) d.r d.s))[c]? = some (dc d.as (d.a + 1) d.r d.s) := List.getElem?_set_self hlt
    rw [den_cons, if_two hS1 (by have := d.ha; omega), seq_nx, List.set_set]
    have hS2 := List.getElem?_set_self hlt (a := dc d.as (d.a + 1) d.r1 d.s)
    rw [den_cons]
    rw [show (if d.a + 1 < ↑d.as.length then d.as.getD (d.a + 1).toNat 0 else d.r) = d.r1 from rfl, if_three hS2 d.hs d.hs2, seq_nx, List.set_set]
    by_cases q : d.r1 = 0
    · rw [if_pos q, if_pos q]
      refine fin d.next _ ?_ rfl
      unfold Dw.next
      rw [if_pos hr, dif_pos q]; rfl
    · rw [if_neg q, if_neg q]
      refine fin d.next _ ?_ rfl
      unfold Dw.next
      rw [if_pos hr, dif_neg q]; rfl
  · rw [decide_eq_false hr]
    have hset : S.set c d.cell = S := by
      obtain ⟨hl, he⟩ := List.getElem?_eq_some_iff.mp hS
      rw [← he]; exact List.set_getElem_self hl
    exact fin d S hset.symm (by unfold Dw.next; rw [if_neg hr])
end
section
variable {Φ : Nat → Option Fn} {wf : Nat} {G : List PyData} {n f : Nat} {xs : List PyData} {fn : Fn}
theorem blw_cl {n : Nat} {ds : List PyData} (h : clDs ds = true) : blwC n (.lst ds) = true := by
  show ds.all (blwD n) = true
  rw [List.all_eq_true]
  intro d hd
  have := cls_all.mp h d hd
  cases d with
  | dict => cases this
  | _ => exact this
@[simp] theorem blw_dw {n : Nat} (d : Dw) : blwC n d.cell = true := blw_dc _ _ _ _
@[simp] theorem blw_ints {n : Nat} (xs : List Int) : blwC n (.lst (xs.map .int)) = true := blw_cl (by simp)
/-- not by itself: a cell is handed in -/
theorem call_open (hx : clDs xs = false) (hΦ : Φ f = some fn) (hl : xs.length = fn.np) (hk : fn.keep = false) {d : PyData} {S S' : Store} (hb : (den (callN Φ wf G n) wf G fn.body).s (startE fn.np fn.ns xs) S = .rt d S') (hd : clD d = true) (h1 : S.length ≤ S'.length) (h2 : (S'.take S.length).all (blwC S.length) = true) :
    callD (callN Φ wf G (n + 1)) f xs S = .ok d (S'.take S.length) := by
  unfold callD
  rw [if_neg (by rw [hx]; exact Bool.false_ne_true), run_def hΦ hl, hb]
  show leave fn.keep S.length d S' = _
  rw [hk]
  unfold leave
  rw [if_pos (by rw [h2, decide_eq_true h1]; rfl), Bool.false_and, if_neg Bool.false_ne_true]
  have : outD S' S.length d = some d := by
    cases d with
    | tuple ds =>
      show (if clDs ds then some (PyData.tuple ds) else _) = _
      rw [if_pos (by simpa [clD] using hd)]
    | list ds =>
      show (if clD (.list ds) then some (PyData.list ds) else none) = _
      rw [if_pos hd]
    | dict => cases hd
    | _ => rfl
  rw [this]; rfl
/-- .. that hands back a list of its own -/
theorem call_openL (hx : clDs xs = false) (hΦ : Φ f = some fn) (hl : xs.length = fn.np) (hk : fn.keep = false) {k : Nat} {ds : List PyData} {S S' : Store} (hb : (den (callN Φ wf G n) wf G fn.body).s (startE fn.np fn.ns xs) S = .rt (cell k) S') (hkn : ¬ k < S.length) (hc : S'[k]? = some (.lst ds)) (hd : clDs ds = true) (h1 : S.length ≤ S'.length) (h2 : (S'.take S.length).all (blwC S.length) = true) :
    callD (callN Φ wf G (n + 1)) f xs S = .ok (.list ds) (S'.take S.length) := by
  unfold callD
  rw [if_neg (by rw [hx]; exact Bool.false_ne_true), run_def hΦ hl, hb]
  show leave fn.keep S.length (cell k) S' = _
  rw [hk]
  unfold leave
  rw [if_pos (by rw [h2, decide_eq_true h1]; rfl), Bool.false_and, if_neg Bool.false_ne_true]
  have : outD S' S.length (cell k) = some (.list ds) := by
    show (if k < S.length then some (rf k) else match S'[k]? with
      | some (.lst ds) => if clDs ds then some (PyData.list ds) else none
      | _ => none) = _
    rw [if_neg hkn, hc]
    show (if clDs ds = true then _ else _) = _
    rw [if_pos hd]
  rw [this]; rfl
theorem take_callB (hΦ : Φ f = some takeF) (d : Dw) {m : Int} (hm : 0 < m) (hm2 : m.natAbs.log2 < 9000) {rest : Store} (hb : rest.all (blwC (rest.length + 1)) = true) :
    callD (callN Φ wf G (n + 1)) f [cell 0, .int m] (d.cell :: rest) = .ok (.int (d.take m)) ((d.rest m).cell :: rest) := by
  have := call_open (n := n) (wf := wf) (G := G) (xs := [cell 0, .int m]) (S := d.cell :: rest) (by rfl) hΦ rfl rfl (take_fnB (cf := callN Φ wf G n) (wf := wf) (G := G) d (S := d.cell :: rest) (c := 0) rfl hm hm2) rfl (by simp) (by
    simp only [List.set_cons_zero, List.length_cons, List.take_succ_cons, List.all_cons, Bool.and_eq_true, List.take_length]
    exact ⟨blw_dw _, hb⟩)
  rw [this]
  simp
end
theorem take_fn {cf : CF} {wf : Nat} {G : List PyData} (d : Dw) {S : Store} {c : Nat} {m : Int} (hS : S[c]? = some d.cell) (hm : 0 < m) (hm2 : m < 1000000) : (den cf wf G takeT).s [some (rf c), some (.int m), none] S = .rt (.int (d.take m)) (S.set c (d.rest m).cell) := take_fnB d hS hm (log_small hm hm2)
theorem take_call {Φ : Nat → Option Fn} {wf : Nat} {G : List PyData} {n f : Nat} (hΦ : Φ f = some takeF) (d : Dw) {m : Int} (hm : 0 < m) (hm2 : m < 1000000) {rest : Store} (hb : rest.all (blwC (rest.length + 1)) = true) :
    callD (callN Φ wf G (n + 1)) f [cell 0, .int m] (d.cell :: rest) = .ok (.int (d.take m)) ((d.rest m).cell :: rest) := take_callB hΦ d hm (log_small hm hm2) hb
/-! ### comprehensions that change the store -/
section
variable {α β σ : Type}
def mapS (f : α → σ → β × σ) : List α → σ → List β × σ
  | [], s => ([], s)
  | x :: xs, s => ((f x s).1 :: (mapS f xs (f x s).2).1, (mapS f xs (f x s).2).2)
theorem mapS_len (f : α → σ → β × σ) : ∀ (xs : List α) (s : σ), (mapS f xs s).1.length = xs.length
  | [], _ => rfl
  | x :: xs, s => by simp [mapS, mapS_len f xs]
theorem mapS_all {f : α → σ → β × σ} {P : β → Prop} : ∀ {xs : List α} {s : σ}, (∀ x ∈ xs, ∀ s, P (f x s).1) → ∀ y ∈ (mapS f xs s).1, P y
  | [], _, _, y, hy => by simp [mapS] at hy
  | x :: xs, s, h, y, hy => by
    simp only [mapS, List.mem_cons] at hy
    rcases hy with rfl | hy
    · exact h x (by simp) s
    · exact mapS_all (fun x hx => h x (by simp [hx])) y hy
variable {cf : CF} {wf : Nat} {G : List PyData}
theorem loopC_st {i : Mk.It} {Sto : σ → Store} {xs : List α} {enc : α → PyData} (hi : ∀ s, i.its (Sto s) = xs.map enc) {p : Bnd} {c : EvB} {elt : EvE} {ρ : Env} {f : α → σ → β × σ} {eb : β → PyData}
    (h : ∀ x ∈ xs, ∀ s, ∃ ρd, p (Sto s) (enc x) ρ = some ρd ∧ c ρd (Sto s) = .ok true (Sto s) ∧ elt ρd (Sto s) = .ok (eb (f x s).1) (Sto (f x s).2)) :
    ∀ (k n : Nat) (acc : List PyData) (s : σ), n + k = xs.length → acc.length + k ≤ 1000000 → loopC i p c (gNil elt) ρ k n (Sto s) acc = .ok (acc ++ (mapS f (xs.drop n) s).1.map eb) (Sto (mapS f (xs.drop n) s).2)
  | 0, n, acc, s, e, hl => by
    have : i.at (Sto s) n = none := by rw [at_its, hi, List.getElem?_eq_none (by rw [List.length_map]; omega)]
    unfold loopC
    rw [this, List.drop_of_length_le (by omega)]
    simp [mapS]
  | k + 1, n, acc, s, e, hl => by
    have hn : n < xs.length := by omega
    have ha : i.at (Sto s) n = some (enc xs[n]) := by rw [at_its, hi, List.getElem?_map, List.getElem?_eq_getElem hn]; rfl
    obtain ⟨ρd, h1, h2, h3⟩ := h xs[n] (List.getElem_mem hn) s
    unfold loopC
    rw [ha]
    simp only [h1, h2, bind_ok, if_true]
    unfold gNil
    rw [h3]
    simp only [bind_ok, lenOk_of (show acc.length + 1 ≤ 1000000 by omega), guard_true]
    have := loopC_st hi h k (n + 1) (acc ++ [eb (f xs[n] s).1]) (f xs[n] s).2 (by omega) (by rw [List.length_append]; simp only [List.length_singleton]; omega)
    rw [show (fun ρ S (acc : List PyData) => R.bind (elt ρ S) fun x S1 => guard' (lenOk (acc.length + 1)) (.ok (acc ++ [x]) S1)) = gNil elt from rfl, this, List.drop_eq_getElem_cons hn]
    simp [mapS]
theorem comp_st {own : List Nat} {p it c elt : T} {ρ : Env} {i : Mk.It} (Sto : σ → Store) (s0 : σ) (xs : List α) (enc : α → PyData) (f : α → σ → β × σ) (eb : β → PyData)
    (he : (den cf wf G it).it (wipeE ρ own) (Sto s0) = .ok i (Sto s0)) (hi : ∀ s, i.its (Sto s) = xs.map enc)
    (h : ∀ x ∈ xs, ∀ s, ∃ ρd, (den cf wf G p).pt (Sto s) (enc x) (wipeE (wipeE ρ own) (slotsT p)) = some ρd ∧ (den cf wf G c).b ρd (Sto s) = .ok true (Sto s) ∧ (den cf wf G elt).e ρd (Sto s) = .ok (eb (f x s).1) (Sto (f x s).2)) (hl : xs.length ≤ 1000000) :
    (den cf wf G (.comp own (.gen p it c .nil) elt)).e ρ (Sto s0) = .ok (.list ((mapS f xs s0).1.map eb)) (Sto (mapS f xs s0).2) := by
  show (R.bind ((den cf wf G it).it (wipeE ρ own) (Sto s0)) fun i S1 => noX (loopC i (den cf wf G p).pt (den cf wf G c).b (gNil (den cf wf G elt).e) (wipeE (wipeE ρ own) (slotsT p)) (i.len S1) 0 S1 [])).bind _ = _
  rw [he]
  simp only [bind_ok]
  rw [loopC_st hi h (i.len (Sto s0)) 0 [] s0 (by rw [len_its, hi, List.length_map]; omega) (by rw [len_its, hi, List.length_map]; simp only [List.length_nil]; omega)]
  simp
end
end Mk

set_option Elab.async false
set_option linter.all false
set_option maxRecDepth 100000
set_option maxHeartbeats 1000000
/-! Ev3: cells of a written store; slices; loops that collect. -/
namespace Mk
open PySem PySem.W L2
open Enc (enc)
section
variable {S : Store}
@[simp] theorem cell_of_0 (ds : List PyData) : cellOf (.lst ds :: S) 0 = some ds := (rfl)
@[simp] theorem items_0 (ds : List PyData) : itemsOf (.lst ds :: S) (cell 0) = some ds := (rfl)
@[simp] theorem lstOf_0 (ds : List PyData) : lstOf (.lst ds :: S) (cell 0) = some ds := (rfl)
@[simp] theorem len_0 (ds : List PyData) : lenD (.lst ds :: S) (cell 0) = some (.int ds.length) := (rfl)
@[simp] theorem list_0 (ds : List PyData) : listD (.lst ds :: S) (cell 0) = some (.list ds) := (rfl)
@[simp] theorem itOf_0 (ds : List PyData) : itOf (.lst ds :: S) (cell 0) = some (.cell 0) := (rfl)
@[simp] theorem its_0 (ds : List PyData) : (Mk.It.cell 0).its (.lst ds :: S) = ds := (rfl)
@[simp] theorem isCell_0 (ds : List PyData) : isCell (.lst ds :: S) (cell 0) = true := (rfl)
@[simp] theorem isSq_0 (ds : List PyData) : isSq false (.lst ds :: S) (cell 0) = true := (rfl)
@[simp] theorem isSqT_0 (ds : List PyData) : isSq true (.lst ds :: S) (cell 0) = false := (rfl)
@[simp] theorem truth_0 (ds : List PyData) : truth (.lst ds :: S) (cell 0) = some (!ds.isEmpty) := (rfl)
@[simp] theorem isT_0 (ds : List PyData) (t : Ty) : isT (.lst ds :: S) t (cell 0) = some (t == .list) := (rfl)
@[simp] theorem rd_0 (ds : List PyData) : rd (.lst ds :: S) (cell 0) = .list ds := (rfl)
@[simp] theorem sub_0 (ds : List PyData) (i : Int) : subD (.lst ds :: S) (cell 0) (.int i) = atI ds i := (rfl)
@[simp] theorem slc_0 (ds : List PyData) (l h : Option Int) : slcD (.lst ds :: S) (cell 0) l h = some (.list (cutD ds l h)) := (rfl)
@[simp] theorem rev_0 (ds : List PyData) : revD (.lst ds :: S) (cell 0) = some (.list ds.reverse) := (rfl)
@[simp] theorem in_0 (ds : List PyData) (a : PyData) : inD (.lst ds :: S) a (cell 0) = inD (.lst ds :: S) a (.list ds) := by cases a <;> rfl
@[simp] theorem app_0 (ds : List PyData) (x : PyData) : mutD .append (.lst ds :: S) (cell 0) x = if ds.length < sizeLine then some (.lst (ds ++ [x]) :: S) else none := (rfl)
@[simp] theorem set_0 (ds : List PyData) (i : Int) (x : PyData) : setD (.lst ds :: S) (cell 0) (.int i) x = (ixN ds.length i).map fun j => .lst (ds.set j x) :: S := (rfl)
@[simp] theorem dOf_0 (t : Bool) (ks vs : List PyData) : dctOf (.dct t ks vs :: S) (cell 0) = some (t, ks, vs) := (rfl)
@[simp] theorem dOfN_0 (ds : List PyData) : dctOf (.lst ds :: S) (cell 0) = none := (rfl)
@[simp] theorem dlen_0 (ks vs : List PyData) : lenD (.dct false ks vs :: S) (cell 0) = some (.int ks.length) := (rfl)
@[simp] theorem disCell_0 (t : Bool) (ks vs : List PyData) : isCell (.dct t ks vs :: S) (cell 0) = false := (rfl)
@[simp] theorem cell_of_1 (c0 : Cell) (ds : List PyData) : cellOf (c0 :: .lst ds :: S) 1 = some ds := (rfl)
@[simp] theorem items_1 (c0 : Cell) (ds : List PyData) : itemsOf (c0 :: .lst ds :: S) (cell 1) = some ds := (rfl)
@[simp] theorem lstOf_1 (c0 : Cell) (ds : List PyData) : lstOf (c0 :: .lst ds :: S) (cell 1) = some ds := (rfl)
@[simp] theorem len_1 (c0 : Cell) (ds : List PyData) : lenD (c0 :: .lst ds :: S) (cell 1) = some (.int ds.length) := (rfl)
@[simp] theorem list_1 (c0 : Cell) (ds : List PyData) : listD (c0 :: .lst ds :: S) (cell 1) = some (.list ds) := (rfl)
@[simp] theorem itOf_1 (c0 : Cell) (ds : List PyData) : itOf (c0 :: .lst ds :: S) (cell 1) = some (.cell 1) := (rfl)
@[simp] theorem its_1 (c0 : Cell) (ds : List PyData) : (Mk.It.cell 1).its (c0 :: .lst ds :: S) = ds := (rfl)
@[simp] theorem isCell_1 (c0 : Cell) (ds : List PyData) : isCell (c0 :: .lst ds :: S) (cell 1) = true := (rfl)
@[simp] theorem isSq_1 (c0 : Cell) (ds : List PyData) : isSq false (c0 :: .lst ds :: S) (cell 1) = true := (rfl)
@[simp] theorem isSqT_1 (c0 : Cell) (ds : List PyData) : isSq true (c0 :: .lst ds :: S) (cell 1) = false := (rfl)
@[simp] theorem truth_1 (c0 : Cell) (ds : List PyData) : truth (c0 :: .lst ds :: S) (cell 1) = some (!ds.isEmpty) := (rfl)
@[simp] theorem isT_1 (c0 : Cell) (ds : List PyData) (t : Ty) : isT (c0 :: .lst ds :: S) t (cell 1) = some (t == .list) := (rfl)
@[simp] theorem rd_1 (c0 : Cell) (ds : List PyData) : rd (c0 :: .lst ds :: S) (cell 1) = .list ds := (rfl)
@[simp] theorem sub_1 (c0 : Cell) (ds : List PyData) (i : Int) : subD (c0 :: .lst ds :: S) (cell 1) (.int i) = atI ds i := (rfl)
@[simp] theorem slc_1 (c0 : Cell) (ds : List PyData) (l h : Option Int) : slcD (c0 :: .lst ds :: S) (cell 1) l h = some (.list (cutD ds l h)) := (rfl)
@[simp] theorem rev_1 (c0 : Cell) (ds : List PyData) : revD (c0 :: .lst ds :: S) (cell 1) = some (.list ds.reverse) := (rfl)
@[simp] theorem in_1 (c0 : Cell) (ds : List PyData) (a : PyData) : inD (c0 :: .lst ds :: S) a (cell 1) = inD (c0 :: .lst ds :: S) a (.list ds) := by cases a <;> rfl
@[simp] theorem app_1 (c0 : Cell) (ds : List PyData) (x : PyData) : mutD .append (c0 :: .lst ds :: S) (cell 1) x = if ds.length < sizeLine then some (c0 :: .lst (ds ++ [x]) :: S) else none := (rfl)
@[simp] theorem set_1 (c0 : Cell) (ds : List PyData) (i : Int) (x : PyData) : setD (c0 :: .lst ds :: S) (cell 1) (.int i) x = (ixN ds.length i).map fun j => c0 :: .lst (ds.set j x) :: S := (rfl)
@[simp] theorem dOf_1 (c0 : Cell) (t : Bool) (ks vs : List PyData) : dctOf (c0 :: .dct t ks vs :: S) (cell 1) = some (t, ks, vs) := (rfl)
@[simp] theorem dOfN_1 (c0 : Cell) (ds : List PyData) : dctOf (c0 :: .lst ds :: S) (cell 1) = none := (rfl)
@[simp] theorem dlen_1 (c0 : Cell) (ks vs : List PyData) : lenD (c0 :: .dct false ks vs :: S) (cell 1) = some (.int ks.length) := (rfl)
@[simp] theorem disCell_1 (c0 : Cell) (t : Bool) (ks vs : List PyData) : isCell (c0 :: .dct t ks vs :: S) (cell 1) = false := (rfl)
@[simp] theorem cell_of_2 (c0 c1 : Cell) (ds : List PyData) : cellOf (c0 :: c1 :: .lst ds :: S) 2 = some ds := (rfl)
@[simp] theorem items_2 (c0 c1 : Cell) (ds : List PyData) : itemsOf (c0 :: c1 :: .lst ds :: S) (cell 2) = some ds := (rfl)
@[simp] theorem lstOf_2 (c0 c1 : Cell) (ds : List PyData) : lstOf (c0 :: c1 :: .lst ds :: S) (cell 2) = some ds := (rfl)
@[simp] theorem len_2 (c0 c1 : Cell) (ds : List PyData) : lenD (c0 :: c1 :: .lst ds :: S) (cell 2) = some (.int ds.length) := (rfl)
@[simp] theorem list_2 (c0 c1 : Cell) (ds : List PyData) : listD (c0 :: c1 :: .lst ds :: S) (cell 2) = some (.list ds) := (rfl)
@[simp] theorem itOf_2 (c0 c1 : Cell) (ds : List PyData) : itOf (c0 :: c1 :: .lst ds :: S) (cell 2) = some (.cell 2) := (rfl)
@[simp] theorem its_2 (c0 c1 : Cell) (ds : List PyData) : (Mk.It.cell 2).its (c0 :: c1 :: .lst ds :: S) = ds := (rfl)
@[simp] theorem isCell_2 (c0 c1 : Cell) (ds : List PyData) : isCell (c0 :: c1 :: .lst ds :: S) (cell 2) = true := (rfl)
@[simp] theorem isSq_2 (c0 c1 : Cell) (ds : List PyData) : isSq false (c0 :: c1 :: .lst ds :: S) (cell 2) = true := (rfl)
@[simp] theorem isSqT_2 (c0 c1 : Cell) (ds : List PyData) : isSq true (c0 :: c1 :: .lst ds :: S) (cell 2) = false := (rfl)
@[simp] theorem truth_2 (c0 c1 : Cell) (ds : List PyData) : truth (c0 :: c1 :: .lst ds :: S) (cell 2) = some (!ds.isEmpty) := (rfl)
@[simp] theorem isT_2 (c0 c1 : Cell) (ds : List PyData) (t : Ty) : isT (c0 :: c1 :: .lst ds :: S) t (cell 2) = some (t == .list) := (rfl)
@[simp] theorem rd_2 (c0 c1 : Cell) (ds : List PyData) : rd (c0 :: c1 :: .lst ds :: S) (cell 2) = .list ds := (rfl)
@[simp] theorem sub_2 (c0 c1 : Cell) (ds : List PyData) (i : Int) : subD (c0 :: c1 :: .lst ds :: S) (cell 2) (.int i) = atI ds i := (rfl)
@[simp] theorem slc_2 (c0 c1 : Cell) (ds : List PyData) (l h : Option Int) : slcD (c0 :: c1 :: .lst ds :: S) (cell 2) l h = some (.list (cutD ds l h)) := (rfl)
@[simp] theorem rev_2 (c0 c1 : Cell) (ds : List PyData) : revD (c0 :: c1 :: .lst ds :: S) (cell 2) = some (.list ds.reverse) := (rfl)
@[simp] theorem in_2 (c0 c1 : Cell) (ds : List PyData) (a : PyData) : inD (c0 :: c1 :: .lst ds :: S) a (cell 2) = inD (c0 :: c1 :: .lst ds :: S) a (.list ds) := by cases a <;> rfl
@[simp] theorem app_2 (c0 c1 : Cell) (ds : List PyData) (x : PyData) : mutD .append (c0 :: c1 :: .lst ds :: S) (cell 2) x = if ds.length < sizeLine then some (c0 :: c1 :: .lst (ds ++ [x]) :: S) else none := (rfl)
@[simp] theorem set_2 (c0 c1 : Cell) (ds : List PyData) (i : Int) (x : PyData) : setD (c0 :: c1 :: .lst ds :: S) (cell 2) (.int i) x = (ixN ds.length i).map fun j => c0 :: c1 :: .lst (ds.set j x) :: S := (rfl)
@[simp] theorem dOf_2 (c0 c1 : Cell) (t : Bool) (ks vs : List PyData) : dctOf (c0 :: c1 :: .dct t ks vs :: S) (cell 2) = some (t, ks, vs) := (rfl)
@[simp] theorem dOfN_2 (c0 c1 : Cell) (ds : List PyData) : dctOf (c0 :: c1 :: .lst ds :: S) (cell 2) = none := (rfl)
@[simp] theorem dlen_2 (c0 c1 : Cell) (ks vs : List PyData) : lenD (c0 :: c1 :: .dct false ks vs :: S) (cell 2) = some (.int ks.length) := (rfl)
@[simp] theorem disCell_2 (c0 c1 : Cell) (t : Bool) (ks vs : List PyData) : isCell (c0 :: c1 :: .dct t ks vs :: S) (cell 2) = false := (rfl)
@[simp] theorem cell_of_3 (c0 c1 c2 : Cell) (ds : List PyData) : cellOf (c0 :: c1 :: c2 :: .lst ds :: S) 3 = some ds := (rfl)
@[simp] theorem items_3 (c0 c1 c2 : Cell) (ds : List PyData) : itemsOf (c0 :: c1 :: c2 :: .lst ds :: S) (cell 3) = some ds := (rfl)
@[simp] theorem lstOf_3 (c0 c1 c2 : Cell) (ds : List PyData) : lstOf (c0 :: c1 :: c2 :: .lst ds :: S) (cell 3) = some ds := (rfl)
@[simp] theorem len_3 (c0 c1 c2 : Cell) (ds : List PyData) : lenD (c0 :: c1 :: c2 :: .lst ds :: S) (cell 3) = some (.int ds.length) := (rfl)
@[simp] theorem list_3 (c0 c1 c2 : Cell) (ds : List PyData) : listD (c0 :: c1 :: c2 :: .lst ds :: S) (cell 3) = some (.list ds) := (rfl)
@[simp] theorem itOf_3 (c0 c1 c2 : Cell) (ds : List PyData) : itOf (c0 :: c1 :: c2 :: .lst ds :: S) (cell 3) = some (.cell 3) := (rfl)
@[simp] theorem its_3 (c0 c1 c2 : Cell) (ds : List PyData) : (Mk.It.cell 3).its (c0 :: c1 :: c2 :: .lst ds :: S) = ds := (rfl)
@[simp] theorem isCell_3 (c0 c1 c2 : Cell) (ds : List PyData) : isCell (c0 :: c1 :: c2 :: .lst ds :: S) (cell 3) = true := (rfl)
@[simp] theorem isSq_3 (c0 c1 c2 : Cell) (ds : List PyData) : isSq false (c0 :: c1 :: c2 :: .lst ds :: S) (cell 3) = true := (rfl)
@[simp] theorem isSqT_3 (c0 c1 c2 : Cell) (ds : List PyData) : isSq true (c0 :: c1 :: c2 :: .lst ds :: S) (cell 3) = false := (rfl)
@[simp] theorem truth_3 (c0 c1 c2 : Cell) (ds : List PyData) : truth (c0 :: c1 :: c2 :: .lst ds :: S) (cell 3) = some (!ds.isEmpty) := (rfl)
@[simp] theorem isT_3 (c0 c1 c2 : Cell) (ds : List PyData) (t : Ty) : isT (c0 :: c1 :: c2 :: .lst ds :: S) t (cell 3) = some (t == .list) := (rfl)
@[simp] theorem rd_3 (c0 c1 c2 : Cell) (ds : List PyData) : rd (c0 :: c1 :: c2 :: .lst ds :: S) (cell 3) = .list ds := (rfl)
@[simp] theorem sub_3 (c0 c1 c2 : Cell) (ds : List PyData) (i : Int) : subD (c0 :: c1 :: c2 :: .lst ds :: S) (cell 3) (.int i) = atI ds i := (rfl)
@[simp] theorem slc_3 (c0 c1 c2 : Cell) (ds : List PyData) (l h : Option Int) : slcD (c0 :: c1 :: c2 :: .lst ds :: S) (cell 3) l h = some (.list (cutD ds l h)) := (rfl)
@[simp] theorem rev_3 (c0 c1 c2 : Cell) (ds : List PyData) : revD (c0 :: c1 :: c2 :: .lst ds :: S) (cell 3) = some (.list ds.reverse) := (rfl)
@[simp] theorem in_3 (c0 c1 c2 : Cell) (ds : List PyData) (a : PyData) : inD (c0 :: c1 :: c2 :: .lst ds :: S) a (cell 3) = inD (c0 :: c1 :: c2 :: .lst ds :: S) a (.list ds) := by cases a <;> rfl
@[simp] theorem app_3 (c0 c1 c2 : Cell) (ds : List PyData) (x : PyData) : mutD .append (c0 :: c1 :: c2 :: .lst ds :: S) (cell 3) x = if ds.length < sizeLine then some (c0 :: c1 :: c2 :: .lst (ds ++ [x]) :: S) else none := (rfl)
@[simp] theorem set_3 (c0 c1 c2 : Cell) (ds : List PyData) (i : Int) (x : PyData) : setD (c0 :: c1 :: c2 :: .lst ds :: S) (cell 3) (.int i) x = (ixN ds.length i).map fun j => c0 :: c1 :: c2 :: .lst (ds.set j x) :: S := (rfl)
@[simp] theorem dOf_3 (c0 c1 c2 : Cell) (t : Bool) (ks vs : List PyData) : dctOf (c0 :: c1 :: c2 :: .dct t ks vs :: S) (cell 3) = some (t, ks, vs) := (rfl)
@[simp] theorem dOfN_3 (c0 c1 c2 : Cell) (ds : List PyData) : dctOf (c0 :: c1 :: c2 :: .lst ds :: S) (cell 3) = none := (rfl)
@[simp] theorem dlen_3 (c0 c1 c2 : Cell) (ks vs : List PyData) : lenD (c0 :: c1 :: c2 :: .dct false ks vs :: S) (cell 3) = some (.int ks.length) := (rfl)
@[simp] theorem disCell_3 (c0 c1 c2 : Cell) (t : Bool) (ks vs : List PyData) : isCell (c0 :: c1 :: c2 :: .dct t ks vs :: S) (cell 3) = false := (rfl)
@[simp] theorem cell_of_4 (c0 c1 c2 c3 : Cell) (ds : List PyData) : cellOf (c0 :: c1 :: c2 :: c3 :: .lst ds :: S) 4 = some ds := (rfl)
@[simp] theorem items_4 (c0 c1 c2 c3 : Cell) (ds : List PyData) : itemsOf (c0 :: c1 :: c2 :: c3 :: .lst ds :: S) (cell 4) = some ds := (rfl)
@[simp] theorem lstOf_4 (c0 c1 c2 c3 : Cell) (ds : List PyData) : lstOf (c0 :: c1 :: c2 :: c3 :: .lst ds :: S) (cell 4) = some ds := (rfl)
@[simp] theorem len_4 (c0 c1 c2 c3 : Cell) (ds : List PyData) : lenD (c0 :: c1 :: c2 :: c3 :: .lst ds :: S) (cell 4) = some (.int ds.length) := (rfl)
@[simp] theorem list_4 (c0 c1 c2 c3 : Cell) (ds : List PyData) : listD (c0 :: c1 :: c2 :: c3 :: .lst ds :: S) (cell 4) = some (.list ds) := (rfl)
@[simp] theorem itOf_4 (c0 c1 c2 c3 : Cell) (ds : List PyData) : itOf (c0 :: c1 :: c2 :: c3 :: .lst ds :: S) (cell 4) = some (.cell 4) := (rfl)
@[simp] theorem its_4 (c0 c1 c2 c3 : Cell) (ds : List PyData) : (Mk.It.cell 4).its (c0 :: c1 :: c2 :: c3 :: .lst ds :: S) = ds := (rfl)
@[simp] theorem isCell_4 (c0 c1 c2 c3 : Cell) (ds : List PyData) : isCell (c0 :: c1 :: c2 :: c3 :: .lst ds :: S) (cell 4) = true := (rfl)
@[simp] theorem isSq_4 (c0 c1 c2 c3 : Cell) (ds : List PyData) : isSq false (c0 :: c1 :: c2 :: c3 :: .lst ds :: S) (cell 4) = true := (rfl)
@[simp] theorem isSqT_4 (c0 c1 c2 c3 : Cell) (ds : List PyData) : isSq true (c0 :: c1 :: c2 :: c3 :: .lst ds :: S) (cell 4) = false := (rfl)
@[simp] theorem truth_4 (c0 c1 c2 c3 : Cell) (ds : List PyData) : truth (c0 :: c1 :: c2 :: c3 :: .lst ds :: S) (cell 4) = some (!ds.isEmpty) := (rfl)
@[simp] theorem isT_4 (c0 c1 c2 c3 : Cell) (ds : List PyData) (t : Ty) : isT (c0 :: c1 :: c2 :: c3 :: .lst ds :: S) t (cell 4) = some (t == .list) := (rfl)
@[simp] theorem rd_4 (c0 c1 c2 c3 : Cell) (ds : List PyData) : rd (c0 :: c1 :: c2 :: c3 :: .lst ds :: S) (cell 4) = .list ds := (rfl)
@[simp] theorem sub_4 (c0 c1 c2 c3 : Cell) (ds : List PyData) (i : Int) : subD (c0 :: c1 :: c2 :: c3 :: .lst ds :: S) (cell 4) (.int i) = atI ds i := (rfl)
@[simp] theorem slc_4 (c0 c1 c2 c3 : Cell) (ds : List PyData) (l h : Option Int) : slcD (c0 :: c1 :: c2 :: c3 :: .lst ds :: S) (cell 4) l h = some (.list (cutD ds l h)) := (rfl)
@[simp] theorem rev_4 (c0 c1 c2 c3 : Cell) (ds : List PyData) : revD (c0 :: c1 :: c2 :: c3 :: .lst ds :: S) (cell 4) = some (.list ds.reverse) := (rfl)
@[simp] theorem in_4 (c0 c1 c2 c3 : Cell) (ds : List PyData) (a : PyData) : inD (c0 :: c1 :: c2 :: c3 :: .lst ds :: S) a (cell 4) = inD (c0 :: c1 :: c2 :: c3 :: .lst ds :: S) a (.list ds) := by cases a <;> rfl
@[simp] theorem app_4 (c0 c1 c2 c3 : Cell) (ds : List PyData) (x : PyData) : mutD .append (c0 :: c1 :: c2 :: c3 :: .lst ds :: S) (cell 4) x = if ds.length < sizeLine then some (c0 :: c1 :: c2 :: c3 :: .lst (ds ++ [x]) :: S) else none := (rfl)
@[simp] theorem set_4 (c0 c1 c2 c3 : Cell) (ds : List PyData) (i : Int) (x : PyData) : setD (c0 :: c1 :: c2 :: c3 :: .lst ds :: S) (cell 4) (.int i) x = (ixN ds.length i).map fun j => c0 :: c1 :: c2 :: c3 :: .lst (ds.set j x) :: S := (rfl)
@[simp] theorem dOf_4 (c0 c1 c2 c3 : Cell) (t : Bool) (ks vs : List PyData) : dctOf (c0 :: c1 :: c2 :: c3 :: .dct t ks vs :: S) (cell 4) = some (t, ks, vs) := (rfl)
@[simp] theorem dOfN_4 (c0 c1 c2 c3 : Cell) (ds : List PyData) : dctOf (c0 :: c1 :: c2 :: c3 :: .lst ds :: S) (cell 4) = none := (rfl)
@[simp] theorem dlen_4 (c0 c1 c2 c3 : Cell) (ks vs : List PyData) : lenD (c0 :: c1 :: c2 :: c3 :: .dct false ks vs :: S) (cell 4) = some (.int ks.length) := (rfl)
@[simp] theorem disCell_4 (c0 c1 c2 c3 : Cell) (t : Bool) (ks vs : List PyData) : isCell (c0 :: c1 :: c2 :: c3 :: .dct t ks vs :: S) (cell 4) = false := (rfl)
@[simp] theorem cell_of_5 (c0 c1 c2 c3 c4 : Cell) (ds : List PyData) : cellOf (c0 :: c1 :: c2 :: c3 :: c4 :: .lst ds :: S) 5 = some ds := (rfl)
@[simp] theorem items_5 (c0 c1 c2 c3 c4 : Cell) (ds : List PyData) : itemsOf (c0 :: c1 :: c2 :: c3 :: c4 :: .lst ds :: S) (cell 5) = some ds := (rfl)
@[simp] theorem lstOf_5 (c0 c1 c2 c3 c4 : Cell) (ds : List PyData) : lstOf (c0 :: c1 :: c2 :: c3 :: c4 :: .lst ds :: S) (cell 5) = some ds := (rfl)
@[simp] theorem len_5 (c0 c1 c2 c3 c4 : Cell) (ds : List PyData) : lenD (c0 :: c1 :: c2 :: c3 :: c4 :: .lst ds :: S) (cell 5) = some (.int ds.length) := (rfl)
@[simp] theorem list_5 (c0 c1 c2 c3 c4 : Cell) (ds : List PyData) : listD (c0 :: c1 :: c2 :: c3 :: c4 :: .lst ds :: S) (cell 5) = some (.list ds) := (rfl)
@[simp] theorem itOf_5 (c0 c1 c2 c3 c4 : Cell) (ds : List PyData) : itOf (c0 :: c1 :: c2 :: c3 :: c4 :: .lst ds :: S) (cell 5) = some (.cell 5) := (rfl)
@[simp] theorem its_5 (c0 c1 c2 c3 c4 : Cell) (ds : List PyData) : (Mk.It.cell 5).its (c0 :: c1 :: c2 :: c3 :: c4 :: .lst ds :: S) = ds := (rfl)
@[simp] theorem isCell_5 (c0 c1 c2 c3 c4 : Cell) (ds : List PyData) : isCell (c0 :: c1 :: c2 :: c3 :: c4 :: .lst ds :: S) (cell 5) = true := (rfl)
@[simp] theorem isSq_5 (c0 c1 c2 c3 c4 : Cell) (ds : List PyData) : isSq false (c0 :: c1 :: c2 :: c3 :: c4 :: .lst ds :: S) (cell 5) = true := (rfl)
@[simp] theorem isSqT_5 (c0 c1 c2 c3 c4 : Cell) (ds : List PyData) : isSq true (c0 :: c1 :: c2 :: c3 :: c4 :: .lst ds :: S) (cell 5) = false := (rfl)
@[simp] theorem truth_5 (c0 c1 c2 c3 c4 : Cell) (ds : List PyData) : truth (c0 :: c1 :: c2 :: c3 :: c4 :: .lst ds :: S) (cell 5) = some (!ds.isEmpty) := (rfl)
@[simp] theorem isT_5 (c0 c1 c2 c3 c4 : Cell) (ds : List PyData) (t : Ty) : isT (c0 :: c1 :: c2 :: c3 :: c4 :: .lst ds :: S) t (cell 5) = some (t == .list) := (rfl)
@[simp] theorem rd_5 (c0 c1 c2 c3 c4 : Cell) (ds : List PyData) : rd (c0 :: c1 :: c2 :: c3 :: c4 :: .lst ds :: S) (cell 5) = .list ds := (rfl)
@[simp] theorem sub_5 (c0 c1 c2 c3 c4 : Cell) (ds : List PyData) (i : Int) : subD (c0 :: c1 :: c2 :: c3 :: c4 :: .lst ds :: S) (cell 5) (.int i) = atI ds i := (rfl)
@[simp] theorem slc_5 (c0 c1 c2 c3 c4 : Cell) (ds : List PyData) (l h : Option Int) : slcD (c0 :: c1 :: c2 :: c3 :: c4 :: .lst ds :: S) (cell 5) l h = some (.list (cutD ds l h)) := (rfl)
@[simp] theorem rev_5 (c0 c1 c2 c3 c4 : Cell) (ds : List PyData) : revD (c0 :: c1 :: c2 :: c3 :: c4 :: .lst ds :: S) (cell 5) = some (.list ds.reverse) := (rfl)
@[simp] theorem in_5 (c0 c1 c2 c3 c4 : Cell) (ds : List PyData) (a : PyData) : inD (c0 :: c1 :: c2 :: c3 :: c4 :: .lst ds :: S) a (cell 5) = inD (c0 :: c1 :: c2 :: c3 :: c4 :: .lst ds :: S) a (.list ds) := by cases a <;> rfl
@[simp] theorem app_5 (c0 c1 c2 c3 c4 : Cell) (ds : List PyData) (x : PyData) : mutD .append (c0 :: c1 :: c2 :: c3 :: c4 :: .lst ds :: S) (cell 5) x = if ds.length < sizeLine then some (c0 :: c1 :: c2 :: c3 :: c4 :: .lst (ds ++ [x]) :: S) else none := (rfl)
@[simp] theorem set_5 (c0 c1 c2 c3 c4 : Cell) (ds : List PyData) (i : Int) (x : PyData) : setD (c0 :: c1 :: c2 :: c3 :: c4 :: .lst ds :: S) (cell 5) (.int i) x = (ixN ds.length i).map fun j => c0 :: c1 :: c2 :: c3 :: c4 :: .lst (ds.set j x) :: S := (rfl)
@[simp] theorem dOf_5 (c0 c1 c2 c3 c4 : Cell) (t : Bool) (ks vs : List PyData) : dctOf (c0 :: c1 :: c2 :: c3 :: c4 :: .dct t ks vs :: S) (cell 5) = some (t, ks, vs) := (rfl)
@[simp] theorem dOfN_5 (c0 c1 c2 c3 c4 : Cell) (ds : List PyData) : dctOf (c0 :: c1 :: c2 :: c3 :: c4 :: .lst ds :: S) (cell 5) = none := (rfl)
@[simp] theorem dlen_5 (c0 c1 c2 c3 c4 : Cell) (ks vs : List PyData) : lenD (c0 :: c1 :: c2 :: c3 :: c4 :: .dct false ks vs :: S) (cell 5) = some (.int ks.length) := (rfl)
@[simp] theorem disCell_5 (c0 c1 c2 c3 c4 : Cell) (t : Bool) (ks vs : List PyData) : isCell (c0 :: c1 :: c2 :: c3 :: c4 :: .dct t ks vs :: S) (cell 5) = false := (rfl)
@[simp] theorem cell_of_6 (c0 c1 c2 c3 c4 c5 : Cell) (ds : List PyData) : cellOf (c0 :: c1 :: c2 :: c3 :: c4 :: c5 :: .lst ds :: S) 6 = some ds := (rfl)
@[simp] theorem items_6 (c0 c1 c2 c3 c4 c5 : Cell) (ds : List PyData) : itemsOf (c0 :: c1 :: c2 :: c3 :: c4 :: c5 :: .lst ds :: S) (cell 6) = some ds := (rfl)
@[simp] theorem lstOf_6 (c0 c1 c2 c3 c4 c5 : Cell) (ds : List PyData) : lstOf (c0 :: c1 :: c2 :: c3 :: c4 :: c5 :: .lst ds :: S) (cell 6) = some ds := (rfl)
@[simp] theorem len_6 (c0 c1 c2 c3 c4 c5 : Cell) (ds : List PyData) : lenD (c0 :: c1 :: c2 :: c3 :: c4 :: c5 :: .lst ds :: S) (cell 6) = some (.int ds.length) := (rfl)
@[simp] theorem list_6 (c0 c1 c2 c3 c4 c5 : Cell) (ds : List PyData) : listD (c0 :: c1 :: c2 :: c3 :: c4 :: c5 :: .lst ds :: S) (cell 6) = some (.list ds) := (rfl)
@[simp] theorem itOf_6 (c0 c1 c2 c3 c4 c5 : Cell) (ds : List PyData) : itOf (c0 :: c1 :: c2 :: c3 :: c4 :: c5 :: .lst ds :: S) (cell 6) = some (.cell 6) := (rfl)
@[simp] theorem its_6 (c0 c1 c2 c3 c4 c5 : Cell) (ds : List PyData) : (Mk.It.cell 6).its (c0 :: c1 :: c2 :: c3 :: c4 :: c5 :: .lst ds :: S) = ds := (rfl)
@[simp] theorem isCell_6 (c0 c1 c2 c3 c4 c5 : Cell) (ds : List PyData) : isCell (c0 :: c1 :: c2 :: c3 :: c4 :: c5 :: .lst ds :: S) (cell 6) = true := (rfl)
@[simp] theorem isSq_6 (c0 c1 c2 c3 c4 c5 : Cell) (ds : List PyData) : isSq false (c0 :: c1 :: c2 :: c3 :: c4 :: c5 :: .lst ds :: S) (cell 6) = true := (rfl)
@[simp] theorem isSqT_6 (c0 c1 c2 c3 c4 c5 : Cell) (ds : List PyData) : isSq true (c0 :: c1 :: c2 :: c3 :: c4 :: c5 :: .lst ds :: S) (cell 6) = false := (rfl)
@[simp] theorem truth_6 (c0 c1 c2 c3 c4 c5 : Cell) (ds : List PyData) : truth (c0 :: c1 :: c2 :: c3 :: c4 :: c5 :: .lst ds :: S) (cell 6) = some (!ds.isEmpty) := (rfl)
@[simp] theorem isT_6 (c0 c1 c2 c3 c4 c5 : Cell) (ds : List PyData) (t : Ty) : isT (c0 :: c1 :: c2 :: c3 :: c4 :: c5 :: .lst ds :: S) t (cell 6) = some (t == .list) := (rfl)
@[simp] theorem rd_6 (c0 c1 c2 c3 c4 c5 : Cell) (ds : List PyData) : rd (c0 :: c1 :: c2 :: c3 :: c4 :: c5 :: .lst ds :: S) (cell 6) = .list ds := (rfl)
@[simp] theorem sub_6 (c0 c1 c2 c3 c4 c5 : Cell) (ds : List PyData) (i : Int) : subD (c0 :: c1 :: c2 :: c3 :: c4 :: c5 :: .lst ds :: S) (cell 6) (.int i) = atI ds i := (rfl)
@[simp] theorem slc_6 (c0 c1 c2 c3 c4 c5 : Cell) (ds : List PyData) (l h : Option Int) : slcD (c0 :: c1 :: c2 :: c3 :: c4 :: c5 :: .lst ds :: S) (cell 6) l h = some (.list (cutD ds l h)) := (rfl)
@[simp] theorem rev_6 (c0 c1 c2 c3 c4 c5 : Cell) (ds : List PyData) : revD (c0 :: c1 :: c2 :: c3 :: c4 :: c5 :: .lst ds :: S) (cell 6) = some (.list ds.reverse) := (rfl)
@[simp] theorem in_6 (c0 c1 c2 c3 c4 c5 : Cell) (ds : List PyData) (a : PyData) : inD (c0 :: c1 :: c2 :: c3 :: c4 :: c5 :: .lst ds :: S) a (cell 6) = inD (c0 :: c1 :: c2 :: c3 :: c4 :: c5 :: .lst ds :: S) a (.list ds) := by cases a <;> rfl
@[simp] theorem app_6 (c0 c1 c2 c3 c4 c5 : Cell) (ds : List PyData) (x : PyData) : mutD .append (c0 :: c1 :: c2 :: c3 :: c4 :: c5 :: .lst ds :: S) (cell 6) x = if ds.length < sizeLine then some (c0 :: c1 :: c2 :: c3 :: c4 :: c5 :: .lst (ds ++ [x]) :: S) else none := (rfl)
@[simp] theorem set_6 (c0 c1 c2 c3 c4 c5 : Cell) (ds : List PyData) (i : Int) (x : PyData) : setD (c0 :: c1 :: c2 :: c3 :: c4 :: c5 :: .lst ds :: S) (cell 6) (.int i) x = (ixN ds.length i).map fun j => c0 :: c1 :: c2 :: c3 :: c4 :: c5 :: .lst (ds.set j x) :: S := (rfl)
@[simp] theorem dOf_6 (c0 c1 c2 c3 c4 c5 : Cell) (t : Bool) (ks vs : List PyData) : dctOf (c0 :: c1 :: c2 :: c3 :: c4 :: c5 :: .dct t ks vs :: S) (cell 6) = some (t, ks, vs) := (rfl)
@[simp] theorem dOfN_6 (c0 c1 c2 c3 c4 c5 : Cell) (ds : List PyData) : dctOf (c0 :: c1 :: c2 :: c3 :: c4 :: c5 :: .lst ds :: S) (cell 6) = none := (rfl)
@[simp] theorem dlen_6 (c0 c1 c2 c3 c4 c5 : Cell) (ks vs : List PyData) : lenD (c0 :: c1 :: c2 :: c3 :: c4 :: c5 :: .dct false ks vs :: S) (cell 6) = some (.int ks.length) := (rfl)
@[simp] theorem disCell_6 (c0 c1 c2 c3 c4 c5 : Cell) (t : Bool) (ks vs : List PyData) : isCell (c0 :: c1 :: c2 :: c3 :: c4 :: c5 :: .dct t ks vs :: S) (cell 6) = false := (rfl)
@[simp] theorem cell_of_7 (c0 c1 c2 c3 c4 c5 c6 : Cell) (ds : List PyData) : cellOf (c0 :: c1 :: c2 :: c3 :: c4 :: c5 :: c6 :: .lst ds :: S) 7 = some ds := (rfl)
@[simp] theorem items_7 (c0 c1 c2 c3 c4 c5 c6 : Cell) (ds : List PyData) : itemsOf (c0 :: c1 :: c2 :: c3 :: c4 :: c5 :: c6 :: .lst ds :: S) (cell 7) = some ds := (rfl)
@[simp] theorem lstOf_7 (c0 c1 c2 c3 c4 c5 c6 : Cell) (ds : List PyData) : lstOf (c0 :: c1 :: c2 :: c3 :: c4 :: c5 :: c6 :: .lst ds :: S) (cell 7) = some ds := (rfl)
@[simp] theorem len_7 (c0 c1 c2 c3 c4 c5 c6 : Cell) (ds : List PyData) : lenD (c0 :: c1 :: c2 :: c3 :: c4 :: c5 :: c6 :: .lst ds :: S) (cell 7) = some (.int ds.length) := (rfl)
@[simp] theorem list_7 (c0 c1 c2 c3 c4 c5 c6 : Cell) (ds : List PyData) : listD (c0 :: c1 :: c2 :: c3 :: c4 :: c5 :: c6 :: .lst ds :: S) (cell 7) = some (.list ds) := (rfl)
@[simp] theorem itOf_7 (c0 c1 c2 c3 c4 c5 c6 : Cell) (ds : List PyData) : itOf (c0 :: c1 :: c2 :: c3 :: c4 :: c5 :: c6 :: .lst ds :: S) (cell 7) = some (.cell 7) := (rfl)
@[simp] theorem its_7 (c0 c1 c2 c3 c4 c5 c6 : Cell) (ds : List PyData) : (Mk.It.cell 7).its (c0 :: c1 :: c2 :: c3 :: c4 :: c5 :: c6 :: .lst ds :: S) = ds := (rfl)
@[simp] theorem isCell_7 (c0 c1 c2 c3 c4 c5 c6 : Cell) (ds : List PyData) : isCell (c0 :: c1 :: c2 :: c3 :: c4 :: c5 :: c6 :: .lst ds :: S) (cell 7) = true := (rfl)
@[simp] theorem isSq_7 (c0 c1 c2 c3 c4 c5 c6 : Cell) (ds : List PyData) : isSq false (c0 :: c1 :: c2 :: c3 :: c4 :: c5 :: c6 :: .lst ds :: S) (cell 7) = true := (rfl)
@[simp] theorem isSqT_7 (c0 c1 c2 c3 c4 c5 c6 : Cell) (ds : List PyData) : isSq true (c0 :: c1 :: c2 :: c3 :: c4 :: c5 :: c6 :: .lst ds :: S) (cell 7) = false := (rfl)
@[simp] theorem truth_7 (c0 c1 c2 c3 c4 c5 c6 : Cell) (ds : List PyData) : truth (c0 :: c1 :: c2 :: c3 :: c4 :: c5 :: c6 :: .lst ds :: S) (cell 7) = some (!ds.isEmpty) := (rfl)
@[simp] theorem isT_7 (c0 c1 c2 c3 c4 c5 c6 : Cell) (ds : List PyData) (t : Ty) : isT (c0 :: c1 :: c2 :: c3 :: c4 :: c5 :: c6 :: .lst ds :: S) t (cell 7) = some (t == .list) := (rfl)
@[simp] theorem rd_7 (c0 c1 c2 c3 c4 c5 c6 : Cell) (ds : List PyData) : rd (c0 :: c1 :: c2 :: c3 :: c4 :: c5 :: c6 :: .lst ds :: S) (cell 7) = .list ds := (rfl)
@[simp] theorem sub_7 (c0 c1 c2 c3 c4 c5 c6 : Cell) (ds : List PyData) (i : Int) : subD (c0 :: c1 :: c2 :: c3 :: c4 :: c5 :: c6 :: .lst ds :: S) (cell 7) (.int i) = atI ds i := (rfl)
@[simp] theorem slc_7 (c0 c1 c2 c3 c4 c5 c6 : Cell) (ds : List PyData) (l h : Option Int) : slcD (c0 :: c1 :: c2 :: c3 :: c4 :: c5 :: c6 :: .lst ds :: S) (cell 7) l h = some (.list (cutD ds l h)) := (rfl)
@[simp] theorem rev_7 (c0 c1 c2 c3 c4 c5 c6 : Cell) (ds : List PyData) : revD (c0 :: c1 :: c2 :: c3 :: c4 :: c5 :: c6 :: .lst ds :: S) (cell 7) = some (.list ds.reverse) := (rfl)
@[simp] theorem in_7 (c0 c1 c2 c3 c4 c5 c6 : Cell) (ds : List PyData) (a : PyData) : inD (c0 :: c1 :: c2 :: c3 :: c4 :: c5 :: c6 :: .lst ds :: S) a (cell 7) = inD (c0 :: c1 :: c2 :: c3 :: c4 :: c5 :: c6 :: .lst ds :: S) a (.list ds) := by cases a <;> rfl
@[simp] theorem app_7 (c0 c1 c2 c3 c4 c5 c6 : Cell) (ds : List PyData) (x : PyData) : mutD .append (c0 :: c1 :: c2 :: c3 :: c4 :: c5 :: c6 :: .lst ds :: S) (cell 7) x = if ds.length < sizeLine then some (c0 :: c1 :: c2 :: c3 :: c4 :: c5 :: c6 :: .lst (ds ++ [x]) :: S) else none := (rfl)
@[simp] theorem set_7 (c0 c1 c2 c3 c4 c5 c6 : Cell) (ds : List PyData) (i : Int) (x : PyData) : setD (c0 :: c1 :: c2 :: c3 :: c4 :: c5 :: c6 :: .lst ds :: S) (cell 7) (.int i) x = (ixN ds.length i).map fun j => c0 :: c1 :: c2 :: c3 :: c4 :: c5 :: c6 :: .lst (ds.set j x) :: S := (rfl)
@[simp] theorem dOf_7 (c0 c1 c2 c3 c4 c5 c6 : Cell) (t : Bool) (ks vs : List PyData) : dctOf (c0 :: c1 :: c2 :: c3 :: c4 :: c5 :: c6 :: .dct t ks vs :: S) (cell 7) = some (t, ks, vs) := (rfl)
@[simp] theorem dOfN_7 (c0 c1 c2 c3 c4 c5 c6 : Cell) (ds : List PyData) : dctOf (c0 :: c1 :: c2 :: c3 :: c4 :: c5 :: c6 :: .lst ds :: S) (cell 7) = none := (rfl)
@[simp] theorem dlen_7 (c0 c1 c2 c3 c4 c5 c6 : Cell) (ks vs : List PyData) : lenD (c0 :: c1 :: c2 :: c3 :: c4 :: c5 :: c6 :: .dct false ks vs :: S) (cell 7) = some (.int ks.length) := (rfl)
@[simp] theorem disCell_7 (c0 c1 c2 c3 c4 c5 c6 : Cell) (t : Bool) (ks vs : List PyData) : isCell (c0 :: c1 :: c2 :: c3 :: c4 :: c5 :: c6 :: .dct t ks vs :: S) (cell 7) = false := (rfl)
@[simp] theorem cell_of_8 (c0 c1 c2 c3 c4 c5 c6 c7 : Cell) (ds : List PyData) : cellOf (c0 :: c1 :: c2 :: c3 :: c4 :: c5 :: c6 :: c7 :: .lst ds :: S) 8 = some ds := (rfl)
@[simp] theorem items_8 (c0 c1 c2 c3 c4 c5 c6 c7 : Cell) (ds : List PyData) : itemsOf (c0 :: c1 :: c2 :: c3 :: c4 :: c5 :: c6 :: c7 :: .lst ds :: S) (cell 8) = some ds := (rfl)
@[simp] theorem lstOf_8 (c0 c1 c2 c3 c4 c5 c6 c7 : Cell) (ds : List PyData) : lstOf (c0 :: c1 :: c2 :: c3 :: c4 :: c5 :: c6 :: c7 :: .lst ds :: S) (cell 8) = some ds := (rfl)
@[simp] theorem len_8 (c0 c1 c2 c3 c4 c5 c6 c7 : Cell) (ds : List PyData) : lenD (c0 :: c1 :: c2 :: c3 :: c4 :: c5 :: c6 :: c7 :: .lst ds :: S) (cell 8) = some (.int ds.length) := (rfl)
@[simp] theorem list_8 (c0 c1 c2 c3 c4 c5 c6 c7 : Cell) (ds : List PyData) : listD (c0 :: c1 :: c2 :: c3 :: c4 :: c5 :: c6 :: c7 :: .lst ds :: S) (cell 8) = some (.list ds) := (rfl)
@[simp] theorem itOf_8 (c0 c1 c2 c3 c4 c5 c6 c7 : Cell) (ds : List PyData) : itOf (c0 :: c1 :: c2 :: c3 :: c4 :: c5 :: c6 :: c7 :: .lst ds :: S) (cell 8) = some (.cell 8) := (rfl)
@[simp] theorem its_8 (c0 c1 c2 c3 c4 c5 c6 c7 : Cell) (ds : List PyData) : (Mk.It.cell 8).its (c0 :: c1 :: c2 :: c3 :: c4 :: c5 :: c6 :: c7 :: .lst ds :: S) = ds := (rfl)
@[simp] theorem isCell_8 (c0 c1 c2 c3 c4 c5 c6 c7 : Cell) (ds : List PyData) : isCell (c0 :: c1 :: c2 :: c3 :: c4 :: c5 :: c6 :: c7 :: .lst ds :: S) (cell 8) = true := (rfl)
@[simp] theorem isSq_8 (c0 c1 c2 c3 c4 c5 c6 c7 : Cell) (ds : List PyData) : isSq false (c0 :: c1 :: c2 :: c3 :: c4 :: c5 :: c6 :: c7 :: .lst ds :: S) (cell 8) = true := (rfl)
@[simp] theorem isSqT_8 (c0 c1 c2 c3 c4 c5 c6 c7 : Cell) (ds : List PyData) : isSq true (c0 :: c1 :: c2 :: c3 :: c4 :: c5 :: c6 :: c7 :: .lst ds :: S) (cell 8) = false := (rfl)
@[simp] theorem truth_8 (c0 c1 c2 c3 c4 c5 c6 c7 : Cell) (ds : List PyData) : truth (c0 :: c1 :: c2 :: c3 :: c4 :: c5 :: c6 :: c7 :: .lst ds :: S) (cell 8) = some (!ds.isEmpty) := (rfl)
@[simp] theorem isT_8 (c0 c1 c2 c3 c4 c5 c6 c7 : Cell) (ds : List PyData) (t : Ty) : isT (c0 :: c1 :: c2 :: c3 :: c4 :: c5 :: c6 :: c7 :: .lst ds :: S) t (cell 8) = some (t == .list) := (rfl)
@[simp] theorem rd_8 (c0 c1 c2 c3 c4 c5 c6 c7 : Cell) (ds : List PyData) : rd (c0 :: c1 :: c2 :: c3 :: c4 :: c5 :: c6 :: c7 :: .lst ds :: S) (cell 8) = .list ds := (rfl)
@[simp] theorem sub_8 (c0 c1 c2 c3 c4 c5 c6 c7 : Cell) (ds : List PyData) (i : Int) : subD (c0 :: c1 :: c2 :: c3 :: c4 :: c5 :: c6 :: c7 :: .lst ds :: S) (cell 8) (.int i) = atI ds i := (rfl)
@[simp] theorem slc_8 (c0 c1 c2 c3 c4 c5 c6 c7 : Cell) (ds : List PyData) (l h : Option Int) : slcD (c0 :: c1 :: c2 :: c3 :: c4 :: c5 :: c6 :: c7 :: .lst ds :: S) (cell 8) l h = some (.list (cutD ds l h)) := (rfl)
@[simp] theorem rev_8 (c0 c1 c2 c3 c4 c5 c6 c7 : Cell) (ds : List PyData) : revD (c0 :: c1 :: c2 :: c3 :: c4 :: c5 :: c6 :: c7 :: .lst ds :: S) (cell 8) = some (.list ds.reverse) := (rfl)
@[simp] theorem in_8 (c0 c1 c2 c3 c4 c5 c6 c7 : Cell) (ds : List PyData) (a : PyData) : inD (c0 :: c1 :: c2 :: c3 :: c4 :: c5 :: c6 :: c7 :: .lst ds :: S) a (cell 8) = inD (c0 :: c1 :: c2 :: c3 :: c4 :: c5 :: c6 :: c7 :: .lst ds :: S) a (.list ds) := by cases a <;> rfl
@[simp] theorem app_8 (c0 c1 c2 c3 c4 c5 c6 c7 : Cell) (ds : List PyData) (x : PyData) : mutD .append (c0 :: c1 :: c2 :: c3 :: c4 :: c5 :: c6 :: c7 :: .lst ds :: S) (cell 8) x = if ds.length < sizeLine then some (c0 :: c1 :: c2 :: c3 :: c4 :: c5 :: c6 :: c7 :: .lst (ds ++ [x]) :: S) else none := (rfl)
@[simp] theorem set_8 (c0 c1 c2 c3 c4 c5 c6 c7 : Cell) (ds : List PyData) (i : Int) (x : PyData) : setD (c0 :: c1 :: c2 :: c3 :: c4 :: c5 :: c6 :: c7 :: .lst ds :: S) (cell 8) (.int i) x = (ixN ds.length i).map fun j => c0 :: c1 :: c2 :: c3 :: c4 :: c5 :: c6 :: c7 :: .lst (ds.set j x) :: S := (rfl)
@[simp] theorem dOf_8 (c0 c1 c2 c3 c4 c5 c6 c7 : Cell) (t : Bool) (ks vs : List PyData) : dctOf (c0 :: c1 :: c2 :: c3 :: c4 :: c5 :: c6 :: c7 :: .dct t ks vs :: S) (cell 8) = some (t, ks, vs) := (rfl)
@[simp] theorem dOfN_8 (c0 c1 c2 c3 c4 c5 c6 c7 : Cell) (ds : List PyData) : dctOf (c0 :: c1 :: c2 :: c3 :: c4 :: c5 :: c6 :: c7 :: .lst ds :: S) (cell 8) = none := (rfl)
@[simp] theorem dlen_8 (c0 c1 c2 c3 c4 c5 c6 c7 : Cell) (ks vs : List PyData) : lenD (c0 :: c1 :: c2 :: c3 :: c4 :: c5 :: c6 :: c7 :: .dct false ks vs :: S) (cell 8) = some (.int ks.length) := (rfl)
@[simp] theorem disCell_8 (c0 c1 c2 c3 c4 c5 c6 c7 : Cell) (t : Bool) (ks vs : List PyData) : isCell (c0 :: c1 :: c2 :: c3 :: c4 :: c5 :: c6 :: c7 :: .dct t ks vs :: S) (cell 8) = false := (rfl)
@[simp] theorem cell_of_9 (c0 c1 c2 c3 c4 c5 c6 c7 c8 : Cell) (ds : List PyData) : cellOf (c0 :: c1 :: c2 :: c3 :: c4 :: c5 :: c6 :: c7 :: c8 :: .lst ds :: S) 9 = some ds := (rfl)
@[simp] theorem items_9 (c0 c1 c2 c3 c4 c5 c6 c7 c8 : Cell) (ds : List PyData) : itemsOf (c0 :: c1 :: c2 :: c3 :: c4 :: c5 :: c6 :: c7 :: c8 :: .lst ds :: S) (cell 9) = some ds := (rfl)
@[simp] theorem lstOf_9 (c0 c1 c2 c3 c4 c5 c6 c7 c8 : Cell) (ds : List PyData) : lstOf (c0 :: c1 :: c2 :: c3 :: c4 :: c5 :: c6 :: c7 :: c8 :: .lst ds :: S) (cell 9) = some ds := (rfl)
@[simp] theorem len_9 (c0 c1 c2 c3 c4 c5 c6 c7 c8 : Cell) (ds : List PyData) : lenD (c0 :: c1 :: c2 :: c3 :: c4 :: c5 :: c6 :: c7 :: c8 :: .lst ds :: S) (cell 9) = some (.int ds.length) := (rfl)
@[simp] theorem list_9 (c0 c1 c2 c3 c4 c5 c6 c7 c8 : Cell) (ds : List PyData) : listD (c0 :: c1 :: c2 :: c3 :: c4 :: c5 :: c6 :: c7 :: c8 :: .lst ds :: S) (cell 9) = some (.list ds) := (rfl)
@[simp] theorem itOf_9 (c0 c1 c2 c3 c4 c5 c6 c7 c8 : Cell) (ds : List PyData) : itOf (c0 :: c1 :: c2 :: c3 :: c4 :: c5 :: c6 :: c7 :: c8 :: .lst ds :: S) (cell 9) = some (.cell 9) := (rfl)
@[simp] theorem its_9 (c0 c1 c2 c3 c4 c5 c6 c7 c8 : Cell) (ds : List PyData) : (Mk.It.cell 9).its (c0 :: c1 :: c2 :: c3 :: c4 :: c5 :: c6 :: c7 :: c8 :: .lst ds :: S) = ds := (rfl)
@[simp] theorem isCell_9 (c0 c1 c2 c3 c4 c5 c6 c7 c8 : Cell) (ds : List PyData) : isCell (c0 :: c1 :: c2 :: c3 :: c4 :: c5 :: c6 :: c7 :: c8 :: .lst ds :: S) (cell 9) = true := (rfl)
@[simp] theorem isSq_9 (c0 c1 c2 c3 c4 c5 c6 c7 c8 : Cell) (ds : List PyData) : isSq false (c0 :: c1 :: c2 :: c3 :: c4 :: c5 :: c6 :: c7 :: c8 :: .lst ds :: S) (cell 9) = true := (rfl)
@[simp] theorem isSqT_9 (c0 c1 c2 c3 c4 c5 c6 c7 c8 : Cell) (ds : List PyData) : isSq true (c0 :: c1 :: c2 :: c3 :: c4 :: c5 :: c6 :: c7 :: c8 :: .lst ds :: S) (cell 9) = false := (rfl)
@[simp] theorem truth_9 (c0 c1 c2 c3 c4 c5 c6 c7 c8 : Cell) (ds : List PyData) : truth (c0 :: c1 :: c2 :: c3 :: c4 :: c5 :: c6 :: c7 :: c8 :: .lst ds :: S) (cell 9) = some (!ds.isEmpty) := (rfl)
@[simp] theorem isT_9 (c0 c1 c2 c3 c4 c5 c6 c7 c8 : Cell) (ds : List PyData) (t : Ty) : isT (c0 :: c1 :: c2 :: c3 :: c4 :: c5 :: c6 :: c7 :: c8 :: .lst ds :: S) t (cell 9) = some (t == .list) := (rfl)
@[simp] theorem rd_9 (c0 c1 c2 c3 c4 c5 c6 c7 c8 : Cell) (ds : List PyData) : rd (c0 :: c1 :: c2 :: c3 :: c4 :: c5 :: c6 :: c7 :: c8 :: .lst ds :: S) (cell 9) = .list ds := (rfl)
@[simp] theorem sub_9 (c0 c1 c2 c3 c4 c5 c6 c7 c8 : Cell) (ds : List PyData) (i : Int) : subD (c0 :: c1 :: c2 :: c3 :: c4 :: c5 :: c6 :: c7 :: c8 :: .lst ds :: S) (cell 9) (.int i) = atI ds i := (rfl)
@[simp] theorem slc_9 (c0 c1 c2 c3 c4 c5 c6 c7 c8 : Cell) (ds : List PyData) (l h : Option Int) : slcD (c0 :: c1 :: c2 :: c3 :: c4 :: c5 :: c6 :: c7 :: c8 :: .lst ds :: S) (cell 9) l h = some (.list (cutD ds l h)) := (rfl)
@[simp] theorem rev_9 (c0 c1 c2 c3 c4 c5 c6 c7 c8 : Cell) (ds : List PyData) : revD (c0 :: c1 :: c2 :: c3 :: c4 :: c5 :: c6 :: c7 :: c8 :: .lst ds :: S) (cell 9) = some (.list ds.reverse) := (rfl)
@[simp] theorem in_9 (c0 c1 c2 c3 c4 c5 c6 c7 c8 : Cell) (ds : List PyData) (a : PyData) : inD (c0 :: c1 :: c2 :: c3 :: c4 :: c5 :: c6 :: c7 :: c8 :: .lst ds :: S) a (cell 9) = inD (c0 :: c1 :: c2 :: c3 :: c4 :: c5 :: c6 :: c7 :: c8 :: .lst ds :: S) a (.list ds) := by cases a <;> rfl
@[simp] theorem app_9 (c0 c1 c2 c3 c4 c5 c6 c7 c8 : Cell) (ds : List PyData) (x : PyData) : mutD .append (c0 :: c1 :: c2 :: c3 :: c4 :: c5 :: c6 :: c7 :: c8 :: .lst ds :: S) (cell 9) x = if ds.length < sizeLine then some (c0 :: c1 :: c2 :: c3 :: c4 :: c5 :: c6 :: c7 :: c8 :: .lst (ds ++ [x]) :: S) else none := (rfl)
@[simp] theorem set_9 (c0 c1 c2 c3 c4 c5 c6 c7 c8 : Cell) (ds : List PyData) (i : Int) (x : PyData) : setD (c0 :: c1 :: c2 :: c3 :: c4 :: c5 :: c6 :: c7 :: c8 :: .lst ds :: S) (cell 9) (.int i) x = (ixN ds.length i).map fun j => c0 :: c1 :: c2 :: c3 :: c4 :: c5 :: c6 :: c7 :: c8 :: .lst (ds.set j x) :: S := (rfl)
@[simp] theorem dOf_9 (c0 c1 c2 c3 c4 c5 c6 c7 c8 : Cell) (t : Bool) (ks vs : List PyData) : dctOf (c0 :: c1 :: c2 :: c3 :: c4 :: c5 :: c6 :: c7 :: c8 :: .dct t ks vs :: S) (cell 9) = some (t, ks, vs) := (rfl)
@[simp] theorem dOfN_9 (c0 c1 c2 c3 c4 c5 c6 c7 c8 : Cell) (ds : List PyData) : dctOf (c0 :: c1 :: c2 :: c3 :: c4 :: c5 :: c6 :: c7 :: c8 :: .lst ds :: S) (cell 9) = none := (rfl)
@[simp] theorem dlen_9 (c0 c1 c2 c3 c4 c5 c6 c7 c8 : Cell) (ks vs : List PyData) : lenD (c0 :: c1 :: c2 :: c3 :: c4 :: c5 :: c6 :: c7 :: c8 :: .dct false ks vs :: S) (cell 9) = some (.int ks.length) := (rfl)
@[simp] theorem disCell_9 (c0 c1 c2 c3 c4 c5 c6 c7 c8 : Cell) (t : Bool) (ks vs : List PyData) : isCell (c0 :: c1 :: c2 :: c3 :: c4 :: c5 :: c6 :: c7 :: c8 :: .dct t ks vs :: S) (cell 9) = false := (rfl)
@[simp] theorem out_0 (ds : List PyData) : out1 (.lst ds :: S) 0 (cell 0) = if clDs ds then some (.list ds) else none := (rfl)
@[simp] theorem out_1 (c0 : Cell) (ds : List PyData) : out1 (c0 :: .lst ds :: S) 0 (cell 1) = if clDs ds then some (.list ds) else none := (rfl)
@[simp] theorem out_2 (c0 c1 : Cell) (ds : List PyData) : out1 (c0 :: c1 :: .lst ds :: S) 0 (cell 2) = if clDs ds then some (.list ds) else none := (rfl)
@[simp] theorem out_3 (c0 c1 c2 : Cell) (ds : List PyData) : out1 (c0 :: c1 :: c2 :: .lst ds :: S) 0 (cell 3) = if clDs ds then some (.list ds) else none := (rfl)
@[simp] theorem out_4 (c0 c1 c2 c3 : Cell) (ds : List PyData) : out1 (c0 :: c1 :: c2 :: c3 :: .lst ds :: S) 0 (cell 4) = if clDs ds then some (.list ds) else none := (rfl)
@[simp] theorem out_5 (c0 c1 c2 c3 c4 : Cell) (ds : List PyData) : out1 (c0 :: c1 :: c2 :: c3 :: c4 :: .lst ds :: S) 0 (cell 5) = if clDs ds then some (.list ds) else none := (rfl)
@[simp] theorem out_6 (c0 c1 c2 c3 c4 c5 : Cell) (ds : List PyData) : out1 (c0 :: c1 :: c2 :: c3 :: c4 :: c5 :: .lst ds :: S) 0 (cell 6) = if clDs ds then some (.list ds) else none := (rfl)
@[simp] theorem out_7 (c0 c1 c2 c3 c4 c5 c6 : Cell) (ds : List PyData) : out1 (c0 :: c1 :: c2 :: c3 :: c4 :: c5 :: c6 :: .lst ds :: S) 0 (cell 7) = if clDs ds then some (.list ds) else none := (rfl)
@[simp] theorem out_8 (c0 c1 c2 c3 c4 c5 c6 c7 : Cell) (ds : List PyData) : out1 (c0 :: c1 :: c2 :: c3 :: c4 :: c5 :: c6 :: c7 :: .lst ds :: S) 0 (cell 8) = if clDs ds then some (.list ds) else none := (rfl)
@[simp] theorem out_9 (c0 c1 c2 c3 c4 c5 c6 c7 c8 : Cell) (ds : List PyData) : out1 (c0 :: c1 :: c2 :: c3 :: c4 :: c5 :: c6 :: c7 :: c8 :: .lst ds :: S) 0 (cell 9) = if clDs ds then some (.list ds) else none := (rfl)
@[simp] theorem out_int (i : Int) (n : Nat) : out1 S n (.int i) = some (.int i) := (rfl)
@[simp] theorem out_bool (i : Bool) (n : Nat) : out1 S n (.bool i) = some (.bool i) := (rfl)
@[simp] theorem out_str (i : Str) (n : Nat) : out1 S n (.str i) = some (.str i) := (rfl)
@[simp] theorem out_none (n : Nat) : out1 S n .none = some .none := (rfl)
@[simp] theorem out_tup (ds : List PyData) (n : Nat) : out1 S n (.tuple ds) = if clDs ds then some (.tuple ds) else none := by
  show (if clD (.tuple ds) then some (PyData.tuple ds) else none) = _
  rw [cl_tup]
@[simp] theorem out_lst (ds : List PyData) (n : Nat) : out1 S n (.list ds) = if clDs ds then some (.list ds) else none := by
  show (if clD (.list ds) then some (PyData.list ds) else none) = _
  rw [cl_lst]
@[simp] theorem outs_nil (n : Nat) : outs S n [] = some [] := (rfl)
@[simp] theorem outs_cons (d : PyData) (ds : List PyData) (n : Nat) : outs S n (d :: ds) = (out1 S n d).bind fun x => (outs S n ds).map (x :: ·) := (rfl)
@[simp] theorem cl_cell (k : Nat) : clD (cell k) = false := (rfl)
theorem sizeLine_pos {n : Nat} (h : n ≤ 1000000) : n < sizeLine := by rw [sizeLine_eq]; omega
@[simp] theorem slc_tup (ds : List PyData) (l h : Option Int) : slcD S (.tuple ds) l h = some (.tuple (cutD ds l h)) := (rfl)
@[simp] theorem slc_lst (ds : List PyData) (l h : Option Int) : slcD S (.list ds) l h = some (.list (cutD ds l h)) := (rfl)
@[simp] theorem rev_tup (ds : List PyData) : revD S (.tuple ds) = some (.tuple ds.reverse) := (rfl)
@[simp] theorem rev_lst (ds : List PyData) : revD S (.list ds) = some (.list ds.reverse) := (rfl)
end
section
variable {Φ : Nat → Option Fn} {wf : Nat} {G : List PyData} {n f : Nat} {xs : List PyData} {fn : Fn}
/-- a closed call that hands back a tuple, some of its items cells of its own -/
theorem call_outs (hk : fn.keep = false) (hΦ : Φ f = some fn) (hl : xs.length = fn.np) (hx : clDs xs = true) {ds es : List PyData} {S' : Store} (hb : (den (callN Φ wf G n) wf G fn.body).s (startE fn.np fn.ns xs) [] = .rt (.tuple ds) S') (hd : clDs ds = false) (ho : outs S' 0 ds = some es) (he : clDs es = true) (S : Store) : callD (callN Φ wf G (n + 1)) f xs S = .ok (.tuple es) S := by
  have : callN Φ wf G (n + 1) f xs [] = .ok (.tuple es) [] := by
    rw [run_def hΦ hl, hb]
    show leave fn.keep 0 (.tuple ds) S' = _
    rw [hk]
    have e : outD S' 0 (.tuple ds) = some (.tuple es) := by
      show (if clDs ds then some (PyData.tuple ds) else (outs S' 0 ds).map .tuple) = _
      rw [if_neg (by rw [hd]; exact Bool.false_ne_true), ho]; rfl
    unfold leave
    simp only [Nat.zero_le, decide_true, List.take_zero, List.all_nil, Bool.and_self, if_true, Bool.false_and, Bool.false_eq_true, if_false, e]
    rfl
  unfold callD
  rw [if_pos hx, this]
  show (if clD (.tuple es) = true then _ else _) = _
  rw [if_pos (by simpa [clD] using he)]
end
/-! slices -/
theorem cut_to {ds : List PyData} {m : Int} (h : 0 ≤ m) : cutD ds none (some m) = ds.take m.toNat := by
  unfold cutD HT.sIx
  simp only [List.drop_zero, Nat.sub_zero]
  rw [if_neg (by omega)]
  rw [List.take_eq_take_iff]
  omega
theorem cut_from {ds : List PyData} {m : Int} (h : 0 ≤ m) : cutD ds (some m) none = ds.drop m.toNat := by
  unfold cutD HT.sIx
  simp only
  rw [if_neg (by omega)]
  by_cases hl : m.toNat ≤ ds.length
  · rw [Nat.min_eq_left hl]
    exact List.take_of_length_le (by rw [List.length_drop]; omega)
  · rw [Nat.min_eq_right (by omega), List.drop_length, List.drop_of_length_le (by omega)]; simp
theorem cut_last {ds : List PyData} : cutD ds none (some (-1)) = ds.dropLast := by
  unfold cutD HT.sIx
  simp only [List.drop_zero, Nat.sub_zero]
  rw [if_pos (by omega), List.dropLast_eq_take]
  rw [List.take_eq_take_iff]
  omega
theorem cut_map {α : Type} (f : α → PyData) (xs : List α) (m : Nat) : (xs.map f).take m = (xs.take m).map f := (List.map_take ..).symm
/-! enumerate, of typed data -/
theorem its_enum_map {α : Type} {S : Store} {i : Mk.It} {xs : List α} {f : α → PyData} (h : i.its S = xs.map f) : (Mk.It.enum i).its S = xs.zipIdx.map fun (p : α × Nat) => PyData.tuple [.int (p.2 : Int), f p.1] := by
  rw [its_enum, h, List.zipIdx_map, List.map_map]; rfl
theorem its_zip_map {α β : Type} {S : Store} {i j : Mk.It} {xs : List α} {ys : List β} {f : α → PyData} {g : β → PyData} (h : i.its S = xs.map f) (h2 : j.its S = ys.map g) : (Mk.It.zip i j).its S = (xs.zip ys).map fun (p : α × β) => PyData.tuple [f p.1, g p.2] := by
  rw [its_zip, h, h2, List.zip_map, List.map_map]; rfl
/-! loops that collect -/
section
variable {α : Type} {cf : CF} {wf : Nat} {G : List PyData}
theorem for_add {p it b : T} {ρ : Env} {S0 : Store} {i : Mk.It} (k : Nat) (xs : List α) (f : α → PyData) (add : α → List PyData) (acc0 : List PyData) (I : Env → Prop)
    (hk : S0[k]? = some (.lst acc0)) (he : (den cf wf G it).it ρ S0 = .ok i S0) (hi : ∀ S, i.its S = xs.map f) (h0 : I ρ) (hl : acc0.length + (xs.flatMap add).length ≤ 1000000)
    (step : ∀ x ∈ xs, ∀ ρ acc, I ρ → acc.length + (add x).length ≤ 1000000 → ∃ ρ1 ρ2, (den cf wf G p).pt (S0.set k (.lst acc)) (f x) ρ = some ρ1 ∧ ((den cf wf G b).s ρ1 (S0.set k (.lst acc)) = .nx ρ2 (S0.set k (.lst (acc ++ add x))) ∨ (den cf wf G b).s ρ1 (S0.set k (.lst acc)) = .ct ρ2 (S0.set k (.lst (acc ++ add x)))) ∧ I ρ2) :
    ∃ ρ', (den cf wf G (.for_ p it b)).s ρ S0 = .nx ρ' (S0.set k (.lst (acc0 ++ xs.flatMap add))) ∧ I ρ' := by
  have hset : S0.set k (.lst acc0) = S0 := by
    obtain ⟨hl, he⟩ := List.getElem?_eq_some_iff.mp hk
    rw [← he]; exact List.set_getElem_self hl
  obtain ⟨ρ', S', h1, h2, h3⟩ := for_all (cf := cf) (wf := wf) (G := G) (p := p) (it := it) (b := b) (ds := xs.map f) (fun n ρ S => I ρ ∧ S = S0.set k (.lst (acc0 ++ (xs.take n).flatMap add))) he (fun _ _ _ _ => hi _) ⟨h0, by simp [hset]⟩ (fun n hn ρ S ⟨hI, hS⟩ => by
    rw [List.length_map] at hn
    have hlen : (acc0 ++ (xs.take n).flatMap add).length + (add xs[n]).length ≤ 1000000 := by
      have e : xs = xs.take n ++ xs[n] :: xs.drop (n + 1) := by rw [← List.drop_eq_getElem_cons hn, List.take_append_drop]
      have : (xs.flatMap add).length = ((xs.take n).flatMap add).length + ((add xs[n]).length + ((xs.drop (n + 1)).flatMap add).length) := by
        conv => lhs; rw [e]
        rw [List.flatMap_append, List.length_append, List.flatMap_cons, List.length_append]
      rw [List.length_append]; omega
    obtain ⟨ρ1, ρ2, q1, q2, q3⟩ := step xs[n] (List.getElem_mem hn) ρ _ hI hlen
    refine ⟨ρ1, ρ2, _, by rw [List.getElem_map, hS]; exact q1, by rw [hS]; exact q2, q3, ?_⟩
    rw [List.take_succ_eq_append_getElem hn, List.flatMap_append, List.append_assoc]
    simp)
  refine ⟨ρ', ?_, h2⟩
  rw [h1, h3]
  congr 3
  rw [List.length_map, List.take_length]
/-- a loop that changes names and cells: one step for each item -/
theorem for_fold {σ : Type} {p it b : T} {ρ : Env} {S0 : Store} {i : Mk.It} (xs : List α) (f : α → PyData) (s0 : σ) (nx : σ → α → σ) (I : σ → Env → Store → Prop)
    (he : (den cf wf G it).it ρ S0 = .ok i S0) (hi : ∀ s ρ S, I s ρ S → i.its S = xs.map f) (h0 : I s0 ρ S0)
    (step : ∀ n (hn : n < xs.length) s ρ S, s = (xs.take n).foldl nx s0 → I s ρ S → ∃ ρ1 ρ2 S2, (den cf wf G p).pt S (f xs[n]) ρ = some ρ1 ∧ ((den cf wf G b).s ρ1 S = .nx ρ2 S2 ∨ (den cf wf G b).s ρ1 S = .ct ρ2 S2) ∧ I (nx s xs[n]) ρ2 S2) :
    ∃ ρ' S', (den cf wf G (.for_ p it b)).s ρ S0 = .nx ρ' S' ∧ I (xs.foldl nx s0) ρ' S' := by
  obtain ⟨ρ', S', h1, h2⟩ := for_all (cf := cf) (wf := wf) (G := G) (p := p) (it := it) (b := b) (ds := xs.map f) (fun n ρ S => I ((xs.take n).foldl nx s0) ρ S) he (fun n ρ S h => hi _ ρ S h) h0 (fun n hn ρ S h => by
    rw [List.length_map] at hn
    obtain ⟨ρ1, ρ2, S2, q1, q2, q3⟩ := step n hn _ ρ S rfl h
    refine ⟨ρ1, ρ2, S2, by rw [List.getElem_map]; exact q1, q2, ?_⟩
    rw [List.take_succ_eq_append_getElem hn, List.foldl_append]
    exact q3)
  refine ⟨ρ', S', h1, ?_⟩
  rw [List.length_map, List.take_length] at h2
  exact h2
end
end Mk

set_option Elab.async false
set_option linter.all false
set_option maxRecDepth 100000
set_option maxHeartbeats 1000000
/-! Rep: repr of small data. -/
namespace Mk
open PySem PySem.W L2
open Enc (enc)
mutual
/-- all whole numbers small -/
def smI : PyData → Bool
  | .int i => decide (i.natAbs < 1073741824)
  | .list xs => smIs xs
  | .tuple xs => smIs xs
  | .dict _ => false
  | _ => true
def smIs : List PyData → Bool
  | [] => true
  | x :: xs => smI x && smIs xs
end
mutual
def cnt : PyData → Nat
  | .str x => x.cps.size + 1
  | .list xs => cnts xs + 1
  | .tuple xs => cnts xs + 1
  | _ => 1
def cnts : List PyData → Nat
  | [] => 0
  | x :: xs => cnt x + cnts xs
end
mutual
theorem sm_all : ∀ d : PyData, smI d = true → d.intsShort 13 = true ∧ d.showable = true ∧ d.weight + 1 ≤ 33 * cnt d
  | .none, _ => by simp [PyData.intsShort, PyData.showable, PyData.weight, cnt]
  | .bool b, _ => by simp [PyData.intsShort, PyData.showable, PyData.weight, cnt]
  | .int i, h => by
    have h' : i.natAbs < 1073741824 := by simpa [smI] using h
    have hlog : i.natAbs.log2 < 31 := by
      by_cases h0 : i.natAbs = 0
      · rw [h0]; decide
      · have := (Nat.log2_lt (k := 30) h0).mpr (by omega); omega
    refine ⟨?_, ?_, ?_⟩
    · simp only [PyData.intsShort, decide_eq_true_eq]
      exact PyData.shown_int_le (by omega)
    · simp only [PyData.showable, decide_eq_true_eq]; omega
    · simp only [PyData.weight, cnt]
      split <;> omega
  | .str x, _ => by
    refine ⟨by simp [PyData.intsShort], by simp [PyData.showable], ?_⟩
    simp only [PyData.weight, cnt]; omega
  | .list xs, h => by
    obtain ⟨h1, h2, h3⟩ := sms_all xs (by simpa [smI] using h)
    refine ⟨by simpa [PyData.intsShort] using h1, by simpa [PyData.showable] using h2, ?_⟩
    simp only [PyData.weight, cnt]; omega
  | .tuple xs, h => by
    obtain ⟨h1, h2, h3⟩ := sms_all xs (by simpa [smI] using h)
    refine ⟨by simpa [PyData.intsShort] using h1, by simpa [PyData.showable] using h2, ?_⟩
    simp only [PyData.weight, cnt]; omega
  | .dict _, h => by simp [smI] at h
theorem sms_all : ∀ ds : List PyData, smIs ds = true → PyData.intsShortAll 13 ds = true ∧ PyData.showableAll ds = true ∧ PyData.weightAll ds ≤ 33 * cnts ds
  | [], _ => by simp [PyData.intsShortAll, PyData.showableAll, PyData.weightAll]
  | d :: ds, h => by
    rw [smIs, Bool.and_eq_true] at h
    obtain ⟨a1, a2, a3⟩ := sm_all d h.1
    obtain ⟨b1, b2, b3⟩ := sms_all ds h.2
    have : 1 ≤ cnt d := by cases d <;> simp [cnt]
    refine ⟨by simp [PyData.intsShortAll, a1, b1], by simp [PyData.showableAll, a2, b2], ?_⟩
    simp only [PyData.weightAll, cnts]; omega
end
theorem repr_ok {S : Store} {d : PyData} (h1 : shp d = true) (h2 : smI d = true) (h3 : cnt d ≤ 20000) : bltD .repr S [d] = some (.str d.shown) := by
  show reprD S d = _
  have hr : rd S d = d := by
    cases d with
    | dict => simp [smI] at h2
    | _ => rfl
  obtain ⟨a1, a2, a3⟩ := sm_all d h2
  have hl := PyData.leavesShort_of_canLay0 13 d (SeqAt.canLay_of_shaped h1) a1
  have hf := PyData.shown_fits (B := 13) (by decide) (by decide) hl (by omega)
  unfold reprD
  rw [hr, h1, a2]
  have : lenOk d.shown.length = true := decide_eq_true hf
  rw [this]; rfl
@[simp] theorem smI_int (i : Int) : smI (.int i) = decide (i.natAbs < 1073741824) := by simp only [smI]
@[simp] theorem smI_none : smI .none = true := by simp only [smI]
@[simp] theorem smI_bool (b : Bool) : smI (.bool b) = true := by simp only [smI]
@[simp] theorem smI_str (b : Str) : smI (.str b) = true := by simp only [smI]
@[simp] theorem smI_lst (xs : List PyData) : smI (.list xs) = smIs xs := by simp only [smI]
@[simp] theorem smI_tup (xs : List PyData) : smI (.tuple xs) = smIs xs := by simp only [smI]
@[simp] theorem smIs_nil : smIs [] = true := by simp only [smIs]
@[simp] theorem smIs_cons (x : PyData) (xs : List PyData) : smIs (x :: xs) = (smI x && smIs xs) := by simp only [smIs]
theorem smIs_map {α : Type} {f : α → PyData} {xs : List α} (h : ∀ x ∈ xs, smI (f x) = true) : smIs (xs.map f) = true := by
  induction xs with
  | nil => simp
  | cons a r ih => simp only [List.map_cons, smIs_cons, h a (by simp), ih fun x hx => h x (by simp [hx]), Bool.and_self]
@[simp] theorem cnt_int (i : Int) : cnt (.int i) = 1 := by simp only [cnt]
@[simp] theorem cnt_none : cnt .none = 1 := by simp only [cnt]
@[simp] theorem cnt_bool (b : Bool) : cnt (.bool b) = 1 := by simp only [cnt]
@[simp] theorem cnt_lst (xs : List PyData) : cnt (.list xs) = cnts xs + 1 := by simp only [cnt]
@[simp] theorem cnt_tup (xs : List PyData) : cnt (.tuple xs) = cnts xs + 1 := by simp only [cnt]
@[simp] theorem cnts_nil : cnts [] = 0 := by simp only [cnts]
@[simp] theorem cnts_cons (x : PyData) (xs : List PyData) : cnts (x :: xs) = cnt x + cnts xs := by simp only [cnts]
theorem cnts_map {α : Type} {f : α → PyData} {xs : List α} {c : Nat} (h : ∀ x ∈ xs, cnt (f x) ≤ c) : cnts (xs.map f) ≤ xs.length * c := by
  induction xs with
  | nil => simp
  | cons a r ih =>
    have h1 := h a (by simp)
    have h2 := ih fun x hx => h x (by simp [hx])
    simp only [List.map_cons, cnts_cons, List.length_cons, Nat.succ_mul]; omega
theorem cnts_ints (xs : List Int) : cnts (xs.map .int) ≤ xs.length := by
  have := cnts_map (f := PyData.int) (xs := xs) (c := 1) (fun _ _ => by simp)
  omega
/-! shapes -/
mutual
def dpt : PyData → Nat
  | .list xs => dpts xs + 1
  | .tuple xs => dpts xs + 1
  | _ => 0
def dpts : List PyData → Nat
  | [] => 0
  | x :: xs => max (dpt x) (dpts xs)
end
theorem shp_mk {d : PyData} (h1 : d.canLay0 = true) (h2 : d.depth ≤ 64) : shp d = true := by rw [shp_iff, h1, decide_eq_true h2]; rfl
@[simp] theorem lay_int (i : Int) : (PyData.int i).canLay0 = true := rfl
@[simp] theorem lay_none : (PyData.none).canLay0 = true := rfl
@[simp] theorem lay_bool (i : Bool) : (PyData.bool i).canLay0 = true := rfl
@[simp] theorem lay_str (s : String) : (PyData.str (Str.ofString s)).canLay0 = true := Enc.lay s
@[simp] theorem lay_lst (xs : List PyData) : (PyData.list xs).canLay0 = PyData.canLayAll0 xs := by simp only [PyData.canLay0]
@[simp] theorem lay_tup (xs : List PyData) : (PyData.tuple xs).canLay0 = PyData.canLayAll0 xs := by simp only [PyData.canLay0]
@[simp] theorem lays_nil : PyData.canLayAll0 [] = true := by simp only [PyData.canLayAll0]
@[simp] theorem lays_cons (x : PyData) (xs : List PyData) : PyData.canLayAll0 (x :: xs) = (x.canLay0 && PyData.canLayAll0 xs) := by simp only [PyData.canLayAll0]
theorem lays_map' {α : Type} {f : α → PyData} {xs : List α} (h : ∀ x ∈ xs, (f x).canLay0 = true) : PyData.canLayAll0 (xs.map f) = true := by
  induction xs with
  | nil => simp
  | cons a r ih => simp only [List.map_cons, lays_cons, h a (by simp), ih fun x hx => h x (by simp [hx]), Bool.and_self]
@[simp] theorem dep_int (i : Int) : (PyData.int i).depth = 0 := by simp only [PyData.depth]
@[simp] theorem dep_none : (PyData.none).depth = 0 := by simp only [PyData.depth]
@[simp] theorem dep_bool (i : Bool) : (PyData.bool i).depth = 0 := by simp only [PyData.depth]
@[simp] theorem dep_str (s : Str) : (PyData.str s).depth = 0 := by simp only [PyData.depth]
@[simp] theorem dep_lst (xs : List PyData) : (PyData.list xs).depth = PyData.depthAll xs + 1 := by simp only [PyData.depth]
@[simp] theorem dep_tup (xs : List PyData) : (PyData.tuple xs).depth = PyData.depthAll xs + 1 := by simp only [PyData.depth]
@[simp] theorem deps_nil : PyData.depthAll [] = 0 := by simp only [PyData.depthAll]
@[simp] theorem deps_cons (x : PyData) (xs : List PyData) : PyData.depthAll (x :: xs) = max x.depth (PyData.depthAll xs) := by simp only [PyData.depthAll]
theorem deps_map' {α : Type} {f : α → PyData} {xs : List α} {c : Nat} (h : ∀ x ∈ xs, (f x).depth ≤ c) : PyData.depthAll (xs.map f) ≤ c := by
  induction xs with
  | nil => simp
  | cons a r ih =>
    have h1 := h a (by simp)
    have h2 := ih fun x hx => h x (by simp [hx])
    simp only [List.map_cons, deps_cons]; omega
end Mk

set_option Elab.async false
set_option linter.all false
set_option maxRecDepth 100000
set_option maxHeartbeats 1000000
/-! Ev4: the start and the end of a law's body. -/
namespace Mk
open PySem PySem.W L2
@[simp] theorem rem_0 (ns : List Int) (i : Int) {S : Store} : mutD .remove (.lst (ns.map .int) :: S) (cell 0) (.int i) = if i ∈ ns then some (.lst ((ns.erase i).map .int) :: S) else none := by
  show (intsOf (ns.map .int)).bind _ = _
  rw [intsOf_map]; rfl
@[simp] theorem rem_1 (c0 : Cell) (ns : List Int) (i : Int) {S : Store} : mutD .remove (c0 :: .lst (ns.map .int) :: S) (cell 1) (.int i) = if i ∈ ns then some (c0 :: .lst ((ns.erase i).map .int) :: S) else none := by
  show (intsOf (ns.map .int)).bind _ = _
  rw [intsOf_map]; rfl
@[simp] theorem rem_2 (c0 c1 : Cell) (ns : List Int) (i : Int) {S : Store} : mutD .remove (c0 :: c1 :: .lst (ns.map .int) :: S) (cell 2) (.int i) = if i ∈ ns then some (c0 :: c1 :: .lst ((ns.erase i).map .int) :: S) else none := by
  show (intsOf (ns.map .int)).bind _ = _
  rw [intsOf_map]; rfl
@[simp] theorem rem_3 (c0 c1 c2 : Cell) (ns : List Int) (i : Int) {S : Store} : mutD .remove (c0 :: c1 :: c2 :: .lst (ns.map .int) :: S) (cell 3) (.int i) = if i ∈ ns then some (c0 :: c1 :: c2 :: .lst ((ns.erase i).map .int) :: S) else none := by
  show (intsOf (ns.map .int)).bind _ = _
  rw [intsOf_map]; rfl
@[simp] theorem rem_4 (c0 c1 c2 c3 : Cell) (ns : List Int) (i : Int) {S : Store} : mutD .remove (c0 :: c1 :: c2 :: c3 :: .lst (ns.map .int) :: S) (cell 4) (.int i) = if i ∈ ns then some (c0 :: c1 :: c2 :: c3 :: .lst ((ns.erase i).map .int) :: S) else none := by
  show (intsOf (ns.map .int)).bind _ = _
  rw [intsOf_map]; rfl
@[simp] theorem rem_5 (c0 c1 c2 c3 c4 : Cell) (ns : List Int) (i : Int) {S : Store} : mutD .remove (c0 :: c1 :: c2 :: c3 :: c4 :: .lst (ns.map .int) :: S) (cell 5) (.int i) = if i ∈ ns then some (c0 :: c1 :: c2 :: c3 :: c4 :: .lst ((ns.erase i).map .int) :: S) else none := by
  show (intsOf (ns.map .int)).bind _ = _
  rw [intsOf_map]; rfl
@[simp] theorem rem_6 (c0 c1 c2 c3 c4 c5 : Cell) (ns : List Int) (i : Int) {S : Store} : mutD .remove (c0 :: c1 :: c2 :: c3 :: c4 :: c5 :: .lst (ns.map .int) :: S) (cell 6) (.int i) = if i ∈ ns then some (c0 :: c1 :: c2 :: c3 :: c4 :: c5 :: .lst ((ns.erase i).map .int) :: S) else none := by
  show (intsOf (ns.map .int)).bind _ = _
  rw [intsOf_map]; rfl
@[simp] theorem rem_7 (c0 c1 c2 c3 c4 c5 c6 : Cell) (ns : List Int) (i : Int) {S : Store} : mutD .remove (c0 :: c1 :: c2 :: c3 :: c4 :: c5 :: c6 :: .lst (ns.map .int) :: S) (cell 7) (.int i) = if i ∈ ns then some (c0 :: c1 :: c2 :: c3 :: c4 :: c5 :: c6 :: .lst ((ns.erase i).map .int) :: S) else none := by
  show (intsOf (ns.map .int)).bind _ = _
  rw [intsOf_map]; rfl
theorem draw_start {Φ : Nat → Option Fn} {wf : Nat} {G : List PyData} {n f : Nat} (hΦ : Φ f = some drawF) {ns : List Int} (hl : ns.length ≤ 63) : ∃ d : Dw, callD (callN Φ wf G (n + 1)) f [lk (ns.map .int)] [] = .ok (cell 0) [d.cell] := by
  obtain ⟨seed, g0, g1, e⟩ := draw_run (cf := callN Φ wf G n) (wf := wf) (G := G) hl
  refine ⟨⟨ns.map absI, -1, 0, seed, fun x hx => ?_, by omega, by omega, g0, g1⟩, ?_⟩
  · obtain ⟨i, _, rfl⟩ := List.mem_map.mp hx
    unfold absI; split <;> omega
  · show (if clDs [lk (ns.map .int)] = true then _ else callN Φ wf G (n + 1) f [lk (ns.map .int)] []) = _
    rw [if_neg (by exact Bool.false_ne_true)]
    show (match Φ f with
      | some fn => runF (callN Φ wf G n) wf G fn [lk (ns.map .int)] []
      | none => .stuck) = _
    rw [hΦ]
    show runF (callN Φ wf G n) wf G drawF [lk (ns.map .int)] [] = _
    rw [e]
    show _ = R.ok (rf 0) [Dw.cell _]
    unfold Dw.cell dc
    rw [List.map_map]; rfl
theorem law_end {Φ : Nat → Option Fn} {wf : Nat} {G : List PyData} {n f : Nat} {xs : List PyData} {fn : Fn} (hΦ : Φ f = some fn) (hl : xs.length = fn.np) (hk : fn.keep = false) {S : Store} (hb : (den (callN Φ wf G n) wf G fn.body).s (startE fn.np fn.ns xs) [] = .rt (.bool true) S) : callN Φ wf G (n + 1) f xs [] = .ok (.bool true) [] := by
  rw [run_def hΦ hl, hb]
  show leave fn.keep 0 (.bool true) S = _
  rw [hk]
  simp [leave, isRf, outD, out1, clD, ofO]
end Mk

set_option Elab.async false
set_option linter.all false
set_option maxRecDepth 100000
set_option maxHeartbeats 1000000
/-! Dw2: comprehensions whose condition draws. -/
namespace Mk
open PySem PySem.W L2
section
variable {α σ : Type}
def filS (f : α → σ → Bool × σ) : List α → σ → List α × σ
  | [], s => ([], s)
  | x :: xs, s => ((if (f x s).1 then x :: (filS f xs (f x s).2).1 else (filS f xs (f x s).2).1), (filS f xs (f x s).2).2)
theorem filS_sub (f : α → σ → Bool × σ) : ∀ (xs : List α) (s : σ), List.Sublist (filS f xs s).1 xs
  | [], _ => List.Sublist.refl _
  | x :: xs, s => by
    unfold filS
    dsimp only
    split
    · exact (filS_sub f xs _).cons₂ x
    · exact (filS_sub f xs _).cons x
variable {cf : CF} {wf : Nat} {G : List PyData}
theorem loopC_cs {i : Mk.It} {Sto : σ → Store} {xs : List α} {enc : α → PyData} (hi : ∀ s, i.its (Sto s) = xs.map enc) {p : Bnd} {c : EvB} {elt : EvE} {ρ : Env} {f : α → σ → Bool × σ} {g : α → PyData}
    (h : ∀ x ∈ xs, ∀ s, ∃ ρd, p (Sto s) (enc x) ρ = some ρd ∧ c ρd (Sto s) = .ok (f x s).1 (Sto (f x s).2) ∧ ((f x s).1 = true → elt ρd (Sto (f x s).2) = .ok (g x) (Sto (f x s).2))) :
    ∀ (k n : Nat) (acc : List PyData) (s : σ), n + k = xs.length → acc.length + k ≤ 1000000 → loopC i p c (gNil elt) ρ k n (Sto s) acc = .ok (acc ++ (filS f (xs.drop n) s).1.map g) (Sto (filS f (xs.drop n) s).2)
  | 0, n, acc, s, e, hl => by
    have : i.at (Sto s) n = none := by rw [at_its, hi, List.getElem?_eq_none (by rw [List.length_map]; omega)]
    unfold loopC
    rw [this, List.drop_of_length_le (by omega)]
    simp [filS]
  | k + 1, n, acc, s, e, hl => by
    have hn : n < xs.length := by omega
    have ha : i.at (Sto s) n = some (enc xs[n]) := by rw [at_its, hi, List.getElem?_map, List.getElem?_eq_getElem hn]; rfl
    obtain ⟨ρd, h1, h2, h3⟩ := h xs[n] (List.getElem_mem hn) s
    unfold loopC
    rw [ha]
    rw [List.drop_eq_getElem_cons hn]
    unfold filS
    dsimp only
    cases hf : (f xs[n] s).1 with
    | true =>
      rw [hf] at h2
      simp only [h1, h2, bind_ok, if_true]
      unfold gNil
      rw [h3 hf]
      simp only [bind_ok, lenOk_of (show acc.length + 1 ≤ 1000000 by omega), guard_true]
      have := loopC_cs hi h k (n + 1) (acc ++ [g xs[n]]) (f xs[n] s).2 (by omega) (by rw [List.length_append]; simp only [List.length_singleton]; omega)
      rw [show (fun ρ S (acc : List PyData) => R.bind (elt ρ S) fun x S1 => guard' (lenOk (acc.length + 1)) (.ok (acc ++ [x]) S1)) = gNil elt from rfl, this]
      simp
    | false =>
      rw [hf] at h2
      simp only [h1, h2, bind_ok, Bool.false_eq_true, if_false]
      rw [loopC_cs hi h k (n + 1) acc (f xs[n] s).2 (by omega) (by omega)]
theorem comp_cs {own : List Nat} {p it c elt : T} {ρ : Env} {i : Mk.It} (Sto : σ → Store) (s0 : σ) (xs : List α) (enc : α → PyData) (f : α → σ → Bool × σ) (g : α → PyData)
    (he : (den cf wf G it).it (wipeE ρ own) (Sto s0) = .ok i (Sto s0)) (hi : ∀ s, i.its (Sto s) = xs.map enc)
    (h : ∀ x ∈ xs, ∀ s, ∃ ρd, (den cf wf G p).pt (Sto s) (enc x) (wipeE (wipeE ρ own) (slotsT p)) = some ρd ∧ (den cf wf G c).b ρd (Sto s) = .ok (f x s).1 (Sto (f x s).2) ∧ ((f x s).1 = true → (den cf wf G elt).e ρd (Sto (f x s).2) = .ok (g x) (Sto (f x s).2))) (hl : xs.length ≤ 1000000) :
    (den cf wf G (.comp own (.gen p it c .nil) elt)).e ρ (Sto s0) = .ok (.list ((filS f xs s0).1.map g)) (Sto (filS f xs s0).2) := by
  show (R.bind ((den cf wf G it).it (wipeE ρ own) (Sto s0)) fun i S1 => noX (loopC i (den cf wf G p).pt (den cf wf G c).b (gNil (den cf wf G elt).e) (wipeE (wipeE ρ own) (slotsT p)) (i.len S1) 0 S1 [])).bind _ = _
  rw [he]
  simp only [bind_ok]
  rw [loopC_cs hi h (i.len (Sto s0)) 0 [] s0 (by rw [len_its, hi, List.length_map]; omega) (by rw [len_its, hi, List.length_map]; simp only [List.length_nil]; omega)]
  simp
end
end Mk

set_option Elab.async false
set_option linter.all false
set_option maxRecDepth 100000
set_option maxHeartbeats 1000000
/-! Dw3: how long a draw can give zeros. -/
namespace Mk
open PySem PySem.W L2
/-- all numbers of the draw are at most B -/
def Bd (B : Int) (d : Dw) : Prop := (∀ x ∈ d.as, x ≤ B) ∧ d.r ≤ B
theorem r1_le {B : Int} {d : Dw} (h : Bd B d) : d.r1 ≤ B ∧ 0 ≤ d.r1 := by
  unfold Dw.r1
  split
  · rename_i hc
    have := d.ha
    have hn : (d.a + 1).toNat < d.as.length := by omega
    rw [List.getD_eq_getElem?_getD, List.getElem?_eq_getElem hn]
    exact ⟨h.1 _ (List.getElem_mem hn), d.has _ (List.getElem_mem hn)⟩
  · exact ⟨h.2, d.hr⟩
theorem s1_lt (d : Dw) : 0 ≤ d.s1 ∧ d.s1 < 2147483647 := ⟨Int.emod_nonneg _ (by decide), Int.emod_lt_of_pos _ (by decide)⟩
theorem next_as (d : Dw) : d.next.as = d.as := by
  unfold Dw.next
  split
  · split <;> rfl
  · rfl
theorem next_le {B : Int} (hB : 2147483647 ≤ B) {d : Dw} (h : Bd B d) : d.next.r ≤ B := by
  unfold Dw.next
  split
  · split
    · have := (s1_lt d).2
      show d.s1 ≤ B
      omega
    · exact (r1_le h).1
  · exact h.2
theorem Bd.rest {B : Int} (hB : 2147483647 ≤ B) {d : Dw} (h : Bd B d) (m : Int) : Bd B (d.rest m) := by
  unfold Dw.rest
  split
  · rename_i hm
    refine ⟨fun x hx => h.1 x (by rw [← next_as d]; exact hx), ?_⟩
    show d.next.r / m ≤ B
    have h1 := next_le hB h
    have h2 := d.next.hr
    have h3 : d.next.r / m ≤ d.next.r := Int.ediv_le_self _ h2
    omega
  · exact h
/-- how many zeros can come yet -/
def zM (B : Int) (d : Dw) : Nat := if d.r = 0 then B.toNat.log2 + (if d.s = 0 then 3 else 4) else d.r.toNat.log2 + 1
theorem zM_le (B : Int) {d : Dw} (h : Bd B d) (hB : 2147483647 ≤ B) : zM B d ≤ B.toNat.log2 + 4 := by
  unfold zM
  split
  · split <;> omega
  · rename_i hr
    have h0 := d.hr
    have h1 := h.2
    have hlt : d.r.toNat < 2 ^ (B.toNat.log2 + 1) := by
      have := Nat.lt_log2_self (n := B.toNat)
      omega
    have := (Nat.log2_lt (by omega : d.r.toNat ≠ 0)).mpr hlt
    omega
theorem log_quarter {r : Nat} (h : r / 4 ≠ 0) : (r / 4).log2 < r.log2 := by
  have h1 := Nat.lt_log2_self (n := r)
  refine (Nat.log2_lt h).mpr ?_
  rw [Nat.pow_succ] at h1
  omega
theorem log_le {r B : Nat} (h : r ≠ 0) (hrB : r ≤ B) : r.log2 ≤ B.log2 := by
  have h1 := Nat.lt_log2_self (n := B)
  have := (Nat.log2_lt h).mpr (show r < 2 ^ (B.log2 + 1) by omega)
  omega
theorem next_a {d : Dw} (h : d.r = 0) (h1 : d.r1 = 0) : d.next.r = d.s1 ∧ d.next.s = d.s1 := by
  unfold Dw.next
  rw [if_pos h, dif_pos h1]
  exact ⟨rfl, rfl⟩
theorem next_b {d : Dw} (h : d.r = 0) (h1 : ¬ d.r1 = 0) : d.next.r = d.r1 ∧ d.next.s = d.s := by
  unfold Dw.next
  rw [if_pos h, dif_neg h1]
  exact ⟨rfl, rfl⟩
theorem next_c {d : Dw} (h : ¬ d.r = 0) : d.next.r = d.r ∧ d.next.s = d.s := by
  unfold Dw.next
  rw [if_neg h]
  exact ⟨rfl, rfl⟩
theorem zM_dec {B : Int} (hB : 2147483647 ≤ B) {d : Dw} (h : Bd B d) (h0 : d.take 4 = 0) : zM B (d.rest 4) < zM B d := by
  have hrest : (d.rest 4).r = d.next.r / 4 ∧ (d.rest 4).s = d.next.s := by
    unfold Dw.rest
    rw [dif_pos (by decide)]
    exact ⟨rfl, rfl⟩
  have ht : d.next.r % 4 = 0 := h0
  unfold zM
  rw [hrest.1, hrest.2]
  by_cases hr : d.r = 0
  · rw [if_pos hr]
    by_cases h1 : d.r1 = 0
    · obtain ⟨n1, n2⟩ := next_a hr h1
      rw [n1] at ht
      rw [n1, n2]
      have hs := s1_lt d
      by_cases hq : d.s1 / 4 = 0
      · have hs0 : d.s1 = 0 := by omega
        rw [if_pos hq, if_pos hs0]
        by_cases hd : d.s = 0
        · exfalso
          unfold Dw.s1 at hs0
          rw [hd] at hs0
          exact absurd hs0 (by decide)
        · rw [if_neg hd]; omega
      · rw [if_neg hq]
        have := log_le (r := (d.s1 / 4).toNat) (B := B.toNat) (by omega) (by omega)
        split <;> omega
    · obtain ⟨n1, n2⟩ := next_b hr h1
      rw [n1] at ht
      rw [n1, n2]
      obtain ⟨r1, r2⟩ := r1_le h
      have hq : ¬ d.r1 / 4 = 0 := by omega
      rw [if_neg hq]
      have := log_le (r := (d.r1 / 4).toNat) (B := B.toNat) (by omega) (by omega)
      split <;> omega
  · rw [if_neg hr]
    obtain ⟨n1, n2⟩ := next_c hr
    rw [n1] at ht
    rw [n1]
    have hr0 := d.hr
    have hq : ¬ d.r / 4 = 0 := by omega
    rw [if_neg hq]
    have e : (d.r / 4).toNat = d.r.toNat / 4 := by omega
    rw [e]
    have := log_quarter (r := d.r.toNat) (by omega)
    omega
/-- the first draw of a script, its numbers bounded -/
theorem draw_startB {Φ : Nat → Option Fn} {wf : Nat} {G : List PyData} {n f : Nat} (hΦ : Φ f = some drawF) {ns : List Int} (hl : ns.length ≤ 63) {B : Int} (h0 : 0 ≤ B) (hB : ∀ i ∈ ns, absI i ≤ B) : ∃ d : Dw, Bd B d ∧ callD (callN Φ wf G (n + 1)) f [lk (ns.map .int)] [] = .ok (cell 0) [d.cell] := by
  obtain ⟨seed, g0, g1, e⟩ := draw_run (cf := callN Φ wf G n) (wf := wf) (G := G) hl
  refine ⟨⟨ns.map absI, -1, 0, seed, fun x hx => ?_, by omega, by omega, g0, g1⟩, ⟨fun x hx => ?_, h0⟩, ?_⟩
  · obtain ⟨i, _, rfl⟩ := List.mem_map.mp hx
    unfold absI; split <;> omega
  · obtain ⟨i, hi, rfl⟩ := List.mem_map.mp hx
    exact hB i hi
  · show (if clDs [lk (ns.map .int)] = true then _ else callN Φ wf G (n + 1) f [lk (ns.map .int)] []) = _
    rw [if_neg (by exact Bool.false_ne_true)]
    show (match Φ f with
      | some fn => runF (callN Φ wf G n) wf G fn [lk (ns.map .int)] []
      | none => .stuck) = _
    rw [hΦ]
    show runF (callN Φ wf G n) wf G drawF [lk (ns.map .int)] [] = _
    rw [e]
    show _ = R.ok (rf 0) [Dw.cell _]
    unfold Dw.cell dc
    rw [List.map_map]; rfl
end Mk

set_option Elab.async false
set_option linter.all false
set_option maxRecDepth 100000
set_option maxHeartbeats 0
namespace Lk00
open PySem Mk
def g_DIGITS : PyData := (.str "0123456789")
def g_MOST_DIGITS : PyData := (.int 4000)
def g_ZERO : PyData := (.tuple [(.int 0), (.int 1)])
abbrev i_is_whole : Nat := 0
abbrev i_read_whole : Nat := 1
abbrev i_common : Nat := 2
abbrev i_lowest : Nat := 3
abbrev i_ratio : Nat := 4
abbrev i_is_ratio : Nat := 5
abbrev i_plus : Nat := 6
abbrev i_minus : Nat := 7
abbrev i_times : Nat := 8
abbrev i_over : Nat := 9
abbrev i_below : Nat := 10
abbrev i_total : Nat := 11
abbrev i_lesser : Nat := 12
abbrev i_greater : Nat := 13
abbrev i_ratio_text : Nat := 14
abbrev i_read_ratio : Nat := 15
abbrev i__law_draw : Nat := 16
abbrev i__law_take : Nat := 17
abbrev i__law_says : Nat := 18
abbrev i__law_gcd : Nat := 19
abbrev i__law_low : Nat := 20
abbrev i__law_number : Nat := 21
abbrev i__law_same : Nat := 22
abbrev i__law_whole_text : Nat := 23
abbrev i__law_due : Nat := 24
abbrev i__law_reads : Nat := 25
abbrev i__law_raises : Nat := 26
abbrev i_law : Nat := 27
def t_is_whole : T := (.cons (.ret (.and (.blt (.isi .int) (.cons (.var 0) .nil)) (.not (.blt (.isi .bool) (.cons (.var 0) .nil))))) .nil)
def f_is_whole : Fn := ⟨1, 1, t_is_whole, false⟩
def t_read_whole_c1 : T := (.comp [2] (.gen (.var 2) (.var 1) .nil .nil) (.cmp .in_ (.var 2) (.glo 0)))
def t_read_whole : T := (.cons (.if_ (.not (.blt (.isi .str) (.cons (.var 0) .nil))) (.cons (.raise_ 2 (.cons (.cst (.int 0)) .nil)) .nil) .nil) (.cons (.asg (.var 1) (.ife (.cmp .eq (.slc (.var 0) .nil (.cst (.int 1))) (.cst (.str "-"))) (.slc (.var 0) (.cst (.int 1)) .nil) (.var 0))) (.cons (.if_ (.or (.cmp .lt (.blt .len (.cons (.var 1) .nil)) (.cst (.int 1))) (.or (.cmp .gt (.blt .len (.cons (.var 1) .nil)) (.glo 1)) (.not (.blt .all (.cons t_read_whole_c1 .nil))))) (.cons (.raise_ 2 (.cons (.cst (.int 0)) .nil)) .nil) .nil) (.cons (.if_ (.and (.cmp .eq (.sub (.var 1) (.cst (.int 0))) (.cst (.str "0"))) (.cmp .ne (.var 0) (.cst (.str "0")))) (.cons (.raise_ 2 (.cons (.cst (.int 0)) .nil)) .nil) .nil) (.cons (.ret (.blt .int (.cons (.var 0) .nil))) .nil)))))
def f_read_whole : Fn := ⟨1, 3, t_read_whole, false⟩
def t_common_b1 : T := (.cons (.par (.cons (.var 0) (.cons (.var 1) .nil)) (.cons (.var 1) (.cons (.bin .mod (.var 0) (.var 1)) .nil))) .nil)
def t_common_w1 : T := (.while_ (.cmp .ne (.var 1) (.cst (.int 0))) t_common_b1)
def t_common : T := (.cons (.par (.cons (.var 0) (.cons (.var 1) .nil)) (.cons (.blt .abs (.cons (.var 0) .nil)) (.cons (.blt .abs (.cons (.var 1) .nil)) .nil))) (.cons t_common_w1 (.cons (.ret (.var 0)) .nil)))
def f_common : Fn := ⟨2, 2, t_common, false⟩
def t_lowest : T := (.cons (.asg (.var 2) (.call 2 (.cons (.var 0) (.cons (.var 1) .nil)))) (.cons (.if_ (.cmp .lt (.var 1) (.cst (.int 0))) (.cons (.asg (.var 2) (.neg (.var 2))) .nil) .nil) (.cons (.ret (.tup (.cons (.bin .fdiv (.var 0) (.var 2)) (.cons (.bin .fdiv (.var 1) (.var 2)) .nil)))) .nil)))
def f_lowest : Fn := ⟨2, 3, t_lowest, false⟩
def t_ratio : T := (.cons (.if_ (.or (.not (.call 0 (.cons (.var 0) .nil))) (.or (.not (.call 0 (.cons (.var 1) .nil))) (.cmp .eq (.var 1) (.cst (.int 0))))) (.cons (.raise_ 0 (.cons (.cst (.str "no fraction")) .nil)) .nil) .nil) (.cons (.ret (.call 3 (.cons (.var 0) (.cons (.var 1) .nil)))) .nil))
def f_ratio : Fn := ⟨2, 2, t_ratio, false⟩
def t_is_ratio : T := (.cons (.if_ (.or (.not (.blt (.isi .tuple) (.cons (.var 0) .nil))) (.or (.cmp .ne (.blt .len (.cons (.var 0) .nil)) (.cst (.int 2))) (.or (.not (.call 0 (.cons (.sub (.var 0) (.cst (.int 0))) .nil))) (.not (.call 0 (.cons (.sub (.var 0) (.cst (.int 1))) .nil)))))) (.cons (.ret (.cst (.bool false))) .nil) .nil) (.cons (.ret (.and (.cmp .gt (.sub (.var 0) (.cst (.int 1))) (.cst (.int 0))) (.cmp .eq (.call 2 (.cons (.sub (.var 0) (.cst (.int 0))) (.cons (.sub (.var 0) (.cst (.int 1))) .nil))) (.cst (.int 1))))) .nil))
def f_is_ratio : Fn := ⟨1, 1, t_is_ratio, false⟩
def t_plus : T := (.cons (.ret (.call 3 (.cons (.bin .add (.bin .mul (.sub (.var 0) (.cst (.int 0))) (.sub (.var 1) (.cst (.int 1)))) (.bin .mul (.sub (.var 1) (.cst (.int 0))) (.sub (.var 0) (.cst (.int 1))))) (.cons (.bin .mul (.sub (.var 0) (.cst (.int 1))) (.sub (.var 1) (.cst (.int 1)))) .nil)))) .nil)
def f_plus : Fn := ⟨2, 2, t_plus, false⟩
def t_minus : T := (.cons (.ret (.call 3 (.cons (.bin .sub (.bin .mul (.sub (.var 0) (.cst (.int 0))) (.sub (.var 1) (.cst (.int 1)))) (.bin .mul (.sub (.var 1) (.cst (.int 0))) (.sub (.var 0) (.cst (.int 1))))) (.cons (.bin .mul (.sub (.var 0) (.cst (.int 1))) (.sub (.var 1) (.cst (.int 1)))) .nil)))) .nil)
def f_minus : Fn := ⟨2, 2, t_minus, false⟩
def t_times : T := (.cons (.ret (.call 3 (.cons (.bin .mul (.sub (.var 0) (.cst (.int 0))) (.sub (.var 1) (.cst (.int 0)))) (.cons (.bin .mul (.sub (.var 0) (.cst (.int 1))) (.sub (.var 1) (.cst (.int 1)))) .nil)))) .nil)
def f_times : Fn := ⟨2, 2, t_times, false⟩
def t_over : T := (.cons (.if_ (.cmp .eq (.sub (.var 1) (.cst (.int 0))) (.cst (.int 0))) (.cons (.raise_ 0 (.cons (.cst (.str "zero")) .nil)) .nil) .nil) (.cons (.ret (.call 3 (.cons (.bin .mul (.sub (.var 0) (.cst (.int 0))) (.sub (.var 1) (.cst (.int 1)))) (.cons (.bin .mul (.sub (.var 0) (.cst (.int 1))) (.sub (.var 1) (.cst (.int 0)))) .nil)))) .nil))
def f_over : Fn := ⟨2, 2, t_over, false⟩
def t_below : T := (.cons (.ret (.cmp .lt (.bin .mul (.sub (.var 0) (.cst (.int 0))) (.sub (.var 1) (.cst (.int 1)))) (.bin .mul (.sub (.var 1) (.cst (.int 0))) (.sub (.var 0) (.cst (.int 1)))))) .nil)
def f_below : Fn := ⟨2, 2, t_below, false⟩
def t_total_b1 : T := (.cons (.if_ (.cmp .ne (.sub (.var 2) (.cst (.int 0))) (.cst (.int 0))) (.cons (.asg (.var 1) (.call 6 (.cons (.var 1) (.cons (.var 2) .nil)))) .nil) .nil) .nil)
def t_total_l1 : T := (.for_ (.var 2) (.var 0) t_total_b1)
def t_total : T := (.cons (.asg (.var 1) (.glo 2)) (.cons t_total_l1 (.cons (.ret (.var 1)) .nil)))
def f_total : Fn := ⟨1, 3, t_total, false⟩
def t_lesser : T := (.cons (.ret (.ife (.call 10 (.cons (.var 1) (.cons (.var 0) .nil))) (.var 1) (.var 0))) .nil)
def f_lesser : Fn := ⟨2, 2, t_lesser, false⟩
def t_greater : T := (.cons (.ret (.ife (.call 10 (.cons (.var 0) (.cons (.var 1) .nil))) (.var 1) (.var 0))) .nil)
def f_greater : Fn := ⟨2, 2, t_greater, false⟩
def t_ratio_text : T := (.cons (.ret (.ife (.cmp .eq (.sub (.var 0) (.cst (.int 1))) (.cst (.int 1))) (.blt .str (.cons (.sub (.var 0) (.cst (.int 0))) .nil)) (.bin .add (.bin .add (.blt .str (.cons (.sub (.var 0) (.cst (.int 0))) .nil)) (.cst (.str "/"))) (.blt .str (.cons (.sub (.var 0) (.cst (.int 1))) .nil))))) .nil)
def f_ratio_text : Fn := ⟨1, 1, t_ratio_text, false⟩
def t_read_ratio : T := (.cons (.if_ (.not (.blt (.isi .str) (.cons (.var 0) .nil))) (.cons (.raise_ 2 (.cons (.cst (.int 0)) .nil)) .nil) .nil) (.cons (.asg (.tup (.cons (.var 1) (.cons (.var 2) (.cons (.var 3) .nil)))) (.mth .part (.var 0) (.cons (.cst (.str "/")) .nil))) (.cons (.asg (.var 4) (.tup (.cons (.call 1 (.cons (.var 1) .nil)) (.cons (.ife (.cmp .ne (.var 2) (.cst (.str ""))) (.call 1 (.cons (.var 3) .nil)) (.cst (.int 1))) .nil)))) (.cons (.if_ (.or (.not (.call 5 (.cons (.var 4) .nil))) (.and (.cmp .ne (.var 2) (.cst (.str ""))) (.cmp .eq (.sub (.var 4) (.cst (.int 1))) (.cst (.int 1))))) (.cons (.raise_ 2 (.cons (.cst (.int 0)) .nil)) .nil) .nil) (.cons (.ret (.var 4)) .nil)))))
def f_read_ratio : Fn := ⟨1, 5, t_read_ratio, false⟩
def t__law_draw_b1 : T := (.cons (.asg (.var 1) (.bin .mod (.blt .int (.cons (.bin .add (.bin .add (.bin .mul (.var 1) (.cst (.int 48271))) (.bin .mod (.blt .abs (.cons (.blt .int (.cons (.var 2) .nil)) .nil)) (.cst (.int 65521)))) (.cst (.int 1))) .nil)) (.cst (.int 2147483647)))) .nil)
def t__law_draw_l1 : T := (.for_ (.var 2) (.var 0) t__law_draw_b1)
def t__law_draw_c1 : T := (.comp [2] (.gen (.var 2) (.var 0) .nil .nil) (.blt .abs (.cons (.blt .int (.cons (.var 2) .nil)) .nil)))
def t__law_draw : T := (.cons (.asg (.var 1) (.cst (.int 7))) (.cons t__law_draw_l1 (.cons (.ret (.thaw (.lst (.cons t__law_draw_c1 (.cons (.neg (.cst (.int 1))) (.cons (.cst (.int 0)) (.cons (.var 1) .nil))))))) .nil)))
def f__law_draw : Fn := ⟨1, 3, t__law_draw, true⟩
def t__law_take : T := (.cons (.if_ (.cmp .eq (.sub (.var 0) (.cst (.int 2))) (.cst (.int 0))) (.cons (.set (.var 0) (.cst (.int 1)) (.bin .add (.sub (.var 0) (.cst (.int 1))) (.cst (.int 1)))) (.cons (.if_ (.cmp .lt (.sub (.var 0) (.cst (.int 1))) (.blt .len (.cons (.sub (.var 0) (.cst (.int 0))) .nil))) (.cons (.set (.var 0) (.cst (.int 2)) (.sub (.sub (.var 0) (.cst (.int 0))) (.sub (.var 0) (.cst (.int 1))))) .nil) .nil) (.cons (.if_ (.cmp .eq (.sub (.var 0) (.cst (.int 2))) (.cst (.int 0))) (.cons (.set (.var 0) (.cst (.int 3)) (.bin .mod (.blt .int (.cons (.bin .add (.bin .mul (.sub (.var 0) (.cst (.int 3))) (.cst (.int 48271))) (.cst (.int 11))) .nil)) (.cst (.int 2147483647)))) (.cons (.set (.var 0) (.cst (.int 2)) (.sub (.var 0) (.cst (.int 3)))) .nil)) .nil) .nil))) .nil) (.cons (.asg (.var 2) (.bin .mod (.blt .int (.cons (.sub (.var 0) (.cst (.int 2))) .nil)) (.var 1))) (.cons (.set (.var 0) (.cst (.int 2)) (.bin .fdiv (.sub (.var 0) (.cst (.int 2))) (.var 1))) (.cons (.ret (.var 2)) .nil))))
def f__law_take : Fn := ⟨2, 3, t__law_take, false⟩
def t__law_says : T := (.cons (.ret (.and (.blt (.isi .bool) (.cons (.var 0) .nil)) (.cmp .eq (.var 0) (.var 1)))) .nil)
def f__law_says : Fn := ⟨2, 2, t__law_says, false⟩
def t__law_gcd_b1 : T := (.cons (.par (.cons (.var 0) (.cons (.var 1) .nil)) (.cons (.var 1) (.cons (.bin .mod (.blt .int (.cons (.var 0) .nil)) (.var 1)) .nil))) .nil)
def t__law_gcd_w1 : T := (.while_ (.cmp .gt (.var 1) (.cst (.int 0))) t__law_gcd_b1)
def t__law_gcd : T := (.cons (.par (.cons (.var 0) (.cons (.var 1) .nil)) (.cons (.blt .abs (.cons (.var 0) .nil)) (.cons (.blt .abs (.cons (.var 1) .nil)) .nil))) (.cons t__law_gcd_w1 (.cons (.ret (.var 0)) .nil)))
def f__law_gcd : Fn := ⟨2, 2, t__law_gcd, false⟩
def t__law_low : T := (.cons (.asg (.var 2) (.call 19 (.cons (.var 0) (.cons (.var 1) .nil)))) (.cons (.if_ (.cmp .lt (.var 1) (.cst (.int 0))) (.cons (.asg (.var 2) (.neg (.var 2))) .nil) .nil) (.cons (.ret (.tup (.cons (.bin .fdiv (.var 0) (.var 2)) (.cons (.bin .fdiv (.var 1) (.var 2)) .nil)))) .nil)))
def f__law_low : Fn := ⟨2, 3, t__law_low, false⟩
def t__law_number : T := (.cons (.asg (.var 1) (.sub (.lst (.cons (.cst (.int 3)) (.cons (.cst (.int 20)) (.cons (.cst (.int 1000)) (.cons (.bin .pow (.cst (.int 10)) (.cst (.int 30))) .nil))))) (.call 17 (.cons (.var 0) (.cons (.cst (.int 4)) .nil))))) (.cons (.ret (.bin .sub (.call 17 (.cons (.var 0) (.cons (.bin .add (.bin .mul (.cst (.int 2)) (.var 1)) (.cst (.int 1))) .nil))) (.var 1))) .nil))
def f__law_number : Fn := ⟨1, 2, t__law_number, false⟩
def t__law_same_c1 : T := (.comp [2] (.gen (.var 2) (.var 0) .nil .nil) (.and (.blt (.isi .int) (.cons (.var 2) .nil)) (.not (.blt (.isi .bool) (.cons (.var 2) .nil)))))
def t__law_same : T := (.cons (.ret (.and (.blt (.isi .tuple) (.cons (.var 0) .nil)) (.and (.cmp .eq (.blt .len (.cons (.var 0) .nil)) (.cst (.int 2))) (.and (.blt .all (.cons t__law_same_c1 .nil)) (.cmp .eq (.var 0) (.var 1)))))) .nil)
def f__law_same : Fn := ⟨2, 3, t__law_same, false⟩
def t__law_whole_text_c1 : T := (.comp [2] (.gen (.var 2) (.var 1) .nil .nil) (.cmp .nin (.var 2) (.cst (.str "0123456789"))))
def t__law_whole_text : T := (.cons (.asg (.var 1) (.ife (.cmp .eq (.slc (.var 0) .nil (.cst (.int 1))) (.cst (.str "-"))) (.slc (.var 0) (.cst (.int 1)) .nil) (.var 0))) (.cons (.if_ (.or (.cmp .eq (.var 1) (.cst (.str ""))) (.blt .any (.cons t__law_whole_text_c1 .nil))) (.cons (.ret (.cst (.bool false))) .nil) .nil) (.cons (.ret (.or (.cmp .eq (.var 0) (.cst (.str "0"))) (.cmp .ne (.sub (.var 1) (.cst (.int 0))) (.cst (.str "0"))))) .nil)))
def f__law_whole_text : Fn := ⟨1, 3, t__law_whole_text, false⟩
def t__law_due_c1 : T := (.comp [2] (.gen (.var 2) (.var 1) .nil .nil) (.call 23 (.cons (.var 2) .nil)))
def t__law_due : T := (.cons (.asg (.var 1) (.mth .split (.var 0) (.cons (.cst (.str "/")) .nil))) (.cons (.if_ (.or (.cmp .gt (.blt .len (.cons (.var 1) .nil)) (.cst (.int 2))) (.not (.blt .all (.cons t__law_due_c1 .nil)))) (.cons (.ret (.cst .none)) .nil) .nil) (.cons (.par (.cons (.var 3) (.cons (.var 4) .nil)) (.cons (.blt .int (.cons (.sub (.var 1) (.cst (.int 0))) .nil)) (.cons (.ife (.cmp .eq (.blt .len (.cons (.var 1) .nil)) (.cst (.int 2))) (.blt .int (.cons (.sub (.var 1) (.neg (.cst (.int 1)))) .nil)) (.cst (.int 1))) .nil))) (.cons (.if_ (.or (.cmp .lt (.var 4) (.cst (.int 1))) (.or (.cmp .ne (.call 19 (.cons (.var 3) (.cons (.var 4) .nil))) (.cst (.int 1))) (.and (.cmp .eq (.blt .len (.cons (.var 1) .nil)) (.cst (.int 2))) (.cmp .eq (.var 4) (.cst (.int 1)))))) (.cons (.ret (.cst .none)) .nil) .nil) (.cons (.ret (.tup (.cons (.var 3) (.cons (.var 4) .nil)))) .nil)))))
def f__law_due : Fn := ⟨1, 5, t__law_due, false⟩
def t__law_reads : T := (.cons (.tryx (.cons (.ret (.call 15 (.cons (.var 0) .nil))) .nil) [⟨[2], some 1, (.ite (.and (.isE [0, 2, 3]) (.and .isV (.not (.isE [0])))) (.tup (.str "at") .fld) (.str "other"))⟩]) .nil)
def f__law_reads : Fn := ⟨1, 2, t__law_reads, false⟩
def t__law_raises : T := (.cons (.tryx (.cons (.if_ (.cmp .eq (.var 0) (.cst (.int 0))) (.cons (.expr (.call 4 (.cons (.var 1) (.cons (.var 2) .nil)))) .nil) (.cons (.expr (.call 9 (.cons (.var 1) (.cons (.var 2) .nil)))) .nil)) .nil) [⟨[0], some 3, (.and (.isE [0, 2, 3]) (.not (.isE [2])))⟩]) (.cons (.ret (.cst (.bool false))) .nil))
def f__law_raises : Fn := ⟨3, 4, t__law_raises, false⟩
def t_law_s1 : T := (.asg (.var 1) (.call 16 (.cons (.var 0) .nil)))
def t_law_c1 : T := (.comp [6] (.gen (.var 6) (.rng (.cst (.int 0)) (.cst (.int 4))) .nil .nil) (.call 21 (.cons (.var 1) .nil)))
def t_law_s2 : T := (.asg (.tup (.cons (.var 2) (.cons (.var 3) (.cons (.var 4) (.cons (.var 5) .nil))))) t_law_c1)
def t_law_s3 : T := (.par (.cons (.var 3) (.cons (.var 5) .nil)) (.cons (.or (.var 3) (.cst (.int 7))) (.cons (.or (.var 5) (.neg (.cst (.int 2)))) .nil)))
def t_law_s4 : T := (.par (.cons (.var 7) (.cons (.var 8) .nil)) (.cons (.call 4 (.cons (.var 2) (.cons (.var 3) .nil))) (.cons (.call 4 (.cons (.var 4) (.cons (.var 5) .nil))) .nil)))
def t_law_s5 : T := (.ret (.cst (.bool false)))
def t_law_s6 : T := (.if_ (.or (.not (.call 22 (.cons (.var 7) (.cons (.call 20 (.cons (.var 2) (.cons (.var 3) .nil))) .nil)))) (.not (.call 22 (.cons (.var 8) (.cons (.call 20 (.cons (.var 4) (.cons (.var 5) .nil))) .nil))))) (.cons t_law_s5 .nil) .nil)
def t_law_s7 : T := (.asg (.var 9) (.lst (.cons (.call 20 (.cons (.bin .add (.bin .mul (.sub (.var 7) (.cst (.int 0))) (.sub (.var 8) (.cst (.int 1)))) (.bin .mul (.sub (.var 8) (.cst (.int 0))) (.sub (.var 7) (.cst (.int 1))))) (.cons (.bin .mul (.sub (.var 7) (.cst (.int 1))) (.sub (.var 8) (.cst (.int 1)))) .nil))) (.cons (.call 20 (.cons (.bin .sub (.bin .mul (.sub (.var 7) (.cst (.int 0))) (.sub (.var 8) (.cst (.int 1)))) (.bin .mul (.sub (.var 8) (.cst (.int 0))) (.sub (.var 7) (.cst (.int 1))))) (.cons (.bin .mul (.sub (.var 7) (.cst (.int 1))) (.sub (.var 8) (.cst (.int 1)))) .nil))) (.cons (.call 20 (.cons (.bin .mul (.sub (.var 7) (.cst (.int 0))) (.sub (.var 8) (.cst (.int 0)))) (.cons (.bin .mul (.sub (.var 7) (.cst (.int 1))) (.sub (.var 8) (.cst (.int 1)))) .nil))) .nil)))))
def t_law_s8 : T := (.ret (.cst (.bool false)))
def t_law_s9 : T := (.if_ (.not (.call 22 (.cons (.var 10) (.cons (.var 11) .nil)))) (.cons t_law_s8 .nil) .nil)
def t_law_b1 : T := (.cons t_law_s9 .nil)
def t_law_l1 : T := (.for_ (.tup (.cons (.var 10) (.cons (.var 11) .nil))) (.zip (.lst (.cons (.call 6 (.cons (.var 7) (.cons (.var 8) .nil))) (.cons (.call 7 (.cons (.var 7) (.cons (.var 8) .nil))) (.cons (.call 8 (.cons (.var 7) (.cons (.var 8) .nil))) .nil)))) (.var 9)) t_law_b1)
def t_law_s10 : T := (.ret (.cst (.bool false)))
def t_law_s11 : T := (.if_ (.and (.cmp .ne (.sub (.var 8) (.cst (.int 0))) (.cst (.int 0))) (.not (.call 22 (.cons (.call 9 (.cons (.var 7) (.cons (.var 8) .nil))) (.cons (.call 20 (.cons (.bin .mul (.sub (.var 7) (.cst (.int 0))) (.sub (.var 8) (.cst (.int 1)))) (.cons (.bin .mul (.sub (.var 7) (.cst (.int 1))) (.sub (.var 8) (.cst (.int 0)))) .nil))) .nil))))) (.cons t_law_s10 .nil) .nil)
def t_law_s12 : T := (.asg (.var 12) (.cmp .lt (.bin .mul (.sub (.var 7) (.cst (.int 0))) (.sub (.var 8) (.cst (.int 1)))) (.bin .mul (.sub (.var 8) (.cst (.int 0))) (.sub (.var 7) (.cst (.int 1))))))
def t_law_s13 : T := (.ret (.cst (.bool false)))
def t_law_s14 : T := (.if_ (.or (.not (.call 18 (.cons (.call 10 (.cons (.var 7) (.cons (.var 8) .nil))) (.cons (.var 12) .nil)))) (.or (.cmp .ne (.call 12 (.cons (.var 7) (.cons (.var 8) .nil))) (.ife (.var 12) (.var 7) (.var 8))) (.cmp .ne (.call 13 (.cons (.var 7) (.cons (.var 8) .nil))) (.ife (.var 12) (.var 8) (.var 7))))) (.cons t_law_s13 .nil) .nil)
def t_law_s15 : T := (.ret (.cst (.bool false)))
def t_law_s16 : T := (.if_ (.or (.not (.call 22 (.cons (.call 11 (.cons (.lst (.cons (.var 7) (.cons (.var 8) (.cons (.var 7) (.cons (.var 8) (.cons (.var 8) .nil)))))) .nil)) (.cons (.call 6 (.cons (.call 6 (.cons (.call 6 (.cons (.var 7) (.cons (.var 8) .nil))) (.cons (.call 6 (.cons (.var 7) (.cons (.var 8) .nil))) .nil))) (.cons (.var 8) .nil))) .nil)))) (.cmp .ne (.call 11 (.cons (.tup .nil) .nil)) (.tup (.cons (.cst (.int 0)) (.cons (.cst (.int 1)) .nil))))) (.cons t_law_s15 .nil) .nil)
def t_law_s17 : T := (.asg (.var 13) (.ife (.cmp .eq (.sub (.var 7) (.cst (.int 1))) (.cst (.int 1))) (.blt .str (.cons (.sub (.var 7) (.cst (.int 0))) .nil)) (.bin .add (.bin .add (.blt .str (.cons (.sub (.var 7) (.cst (.int 0))) .nil)) (.cst (.str "/"))) (.blt .str (.cons (.sub (.var 7) (.cst (.int 1))) .nil)))))
def t_law_s18 : T := (.ret (.cst (.bool false)))
def t_law_s19 : T := (.if_ (.or (.cmp .ne (.call 14 (.cons (.var 7) .nil)) (.var 13)) (.cmp .ne (.call 25 (.cons (.var 13) .nil)) (.var 7))) (.cons t_law_s18 .nil) .nil)
def t_law_s20 : T := (.asg (.var 14) (.call 17 (.cons (.var 1) (.cons (.bin .add (.blt .len (.cons (.var 13) .nil)) (.cst (.int 1))) .nil))))
def t_law_s21 : T := (.asg (.var 15) (.sub (.cst (.str "0123456789/- +.")) (.call 17 (.cons (.var 1) (.cons (.cst (.int 15)) .nil)))))
def t_law_s22 : T := (.asg (.var 17) (.call 24 (.cons (.var 16) .nil)))
def t_law_s23 : T := (.ret (.cst (.bool false)))
def t_law_s24 : T := (.if_ (.cmp .ne (.call 25 (.cons (.var 16) .nil)) (.ife (.cmp .isN (.var 17) (.cst .none)) (.tup (.cons (.cst (.str "at")) (.cons (.cst (.int 0)) .nil))) (.var 17))) (.cons t_law_s23 .nil) .nil)
def t_law_b2 : T := (.cons t_law_s22 (.cons t_law_s24 .nil))
def t_law_l2 : T := (.for_ (.var 16) (.lst (.cons (.bin .add (.bin .add (.slc (.var 13) .nil (.var 14)) (.var 15)) (.slc (.var 13) (.var 14) .nil)) (.cons (.bin .add (.slc (.var 13) .nil (.var 14)) (.slc (.var 13) (.bin .add (.var 14) (.cst (.int 1))) .nil)) (.cons (.bin .add (.var 13) (.cst (.str "/1"))) (.cons (.bin .add (.cst (.str "/")) (.var 13)) (.cons (.bin .add (.cst (.str "-")) (.var 13)) (.cons (.cst (.str "")) (.cons (.bin .add (.cst (.str " ")) (.var 13)) (.cons (.bin .add (.cst (.str "0")) (.var 13)) (.cons (.bin .add (.var 13) (.cst (.str "/0"))) .nil)))))))))) t_law_b2)
def t_law_s25 : T := (.ret (.cst (.bool false)))
def t_law_s26 : T := (.if_ (.cmp .ne (.call 25 (.cons (.var 18) .nil)) (.tup (.cons (.cst (.str "at")) (.cons (.cst (.int 0)) .nil)))) (.cons t_law_s25 .nil) .nil)
def t_law_b3 : T := (.cons t_law_s26 .nil)
def t_law_l3 : T := (.for_ (.var 18) (.lst (.cons (.cst .none) (.cons (.cst (.int 5)) (.cons (.tup (.cons (.cst (.int 1)) (.cons (.cst (.int 2)) .nil))) (.cons (.lst (.cons (.cst (.str "1")) .nil)) (.cons (.cst (.bool true)) .nil)))))) t_law_b3)
def t_law_s27 : T := (.asg (.var 19) (.lst (.cons (.tup (.cons (.var 2) (.cons (.cst (.bool true)) (.cons (.cst (.bool false)) .nil)))) (.cons (.tup (.cons (.cst (.bool true)) (.cons (.cst (.bool false)) (.cons (.cst (.bool false)) .nil)))) (.cons (.tup (.cons (.cst (.str "1")) (.cons (.cst (.bool false)) (.cons (.cst (.bool false)) .nil)))) (.cons (.tup (.cons (.var 7) (.cons (.cst (.bool false)) (.cons (.cst (.bool true)) .nil)))) (.cons (.tup (.cons (.tup (.cons (.cst (.int 2)) (.cons (.cst (.int 4)) .nil))) (.cons (.cst (.bool false)) (.cons (.cst (.bool false)) .nil)))) (.cons (.tup (.cons (.tup (.cons (.cst (.int 1)) (.cons (.neg (.cst (.int 2))) .nil))) (.cons (.cst (.bool false)) (.cons (.cst (.bool false)) .nil)))) .nil))))))))
def t_law_s28 : T := (.asg (.var 19) (.bin .add (.var 19) (.lst (.cons (.tup (.cons (.tup (.cons (.cst (.int 0)) (.cons (.cst (.int 1)) .nil))) (.cons (.cst (.bool false)) (.cons (.cst (.bool true)) .nil)))) (.cons (.tup (.cons (.tup (.cons (.cst (.int 0)) (.cons (.cst (.int 2)) .nil))) (.cons (.cst (.bool false)) (.cons (.cst (.bool false)) .nil)))) (.cons (.tup (.cons (.lst (.cons (.cst (.int 1)) (.cons (.cst (.int 2)) .nil))) (.cons (.cst (.bool false)) (.cons (.cst (.bool false)) .nil)))) (.cons (.tup (.cons (.tup (.cons (.cst (.bool true)) (.cons (.cst (.int 1)) .nil))) (.cons (.cst (.bool false)) (.cons (.cst (.bool false)) .nil)))) (.cons (.tup (.cons (.tup (.cons (.cst (.int 1)) (.cons (.cst (.int 2)) (.cons (.cst (.int 3)) .nil)))) (.cons (.cst (.bool false)) (.cons (.cst (.bool false)) .nil)))) .nil))))))))
def t_law_s29 : T := (.ret (.cst (.bool false)))
def t_law_s30 : T := (.if_ (.or (.not (.call 18 (.cons (.call 0 (.cons (.var 18) .nil)) (.cons (.var 20) .nil)))) (.not (.call 18 (.cons (.call 5 (.cons (.var 18) .nil)) (.cons (.var 21) .nil))))) (.cons t_law_s29 .nil) .nil)
def t_law_b4 : T := (.cons t_law_s30 .nil)
def t_law_l4 : T := (.for_ (.tup (.cons (.var 18) (.cons (.var 20) (.cons (.var 21) .nil)))) (.bin .add (.var 19) (.lst (.cons (.tup (.cons (.cst .none) (.cons (.cst (.bool false)) (.cons (.cst (.bool false)) .nil)))) .nil))) t_law_b4)
def t_law_s31 : T := (.ret (.cst (.bool false)))
def t_law_s32 : T := (.if_ (.cmp .ne (.call 1 (.cons (.blt .str (.cons (.var 2) .nil)) .nil)) (.var 2)) (.cons t_law_s31 .nil) .nil)
def t_law_s33 : T := (.ret (.and (.call 26 (.cons (.cst (.int 0)) (.cons (.var 2) (.cons (.cst (.int 0)) .nil)))) (.and (.call 26 (.cons (.cst (.int 0)) (.cons (.cst (.bool true)) (.cons (.cst (.int 2)) .nil)))) (.and (.call 26 (.cons (.cst (.int 0)) (.cons (.cst (.str "1")) (.cons (.cst (.int 2)) .nil)))) (.and (.call 26 (.cons (.cst (.int 0)) (.cons (.cst (.int 1)) (.cons (.cst .none) .nil)))) (.call 26 (.cons (.cst (.int 1)) (.cons (.var 7) (.cons (.tup (.cons (.cst (.int 0)) (.cons (.cst (.int 1)) .nil))) .nil)))))))))
def t_law : T := (.cons t_law_s1 (.cons t_law_s2 (.cons t_law_s3 (.cons t_law_s4 (.cons t_law_s6 (.cons t_law_s7 (.cons t_law_l1 (.cons t_law_s11 (.cons t_law_s12 (.cons t_law_s14 (.cons t_law_s16 (.cons t_law_s17 (.cons t_law_s19 (.cons t_law_s20 (.cons t_law_s21 (.cons t_law_l2 (.cons t_law_l3 (.cons t_law_s27 (.cons t_law_s28 (.cons t_law_l4 (.cons t_law_s32 (.cons t_law_s33 .nil))))))))))))))))))))))
def f_law : Fn := ⟨1, 22, t_law, false⟩
def top (i : Nat) : Stmt := PySem.Challenge.pw_mailkinds_k00_fractions.main.body.getD i (.Pass ⟨0, 0, 0, 0⟩)
def d_is_whole : Dd := ⟨"is_whole", top 8, ["value"], f_is_whole⟩
def d_read_whole : Dd := ⟨"read_whole", top 9, ["text", "body", "sign"], f_read_whole⟩
def d_common : Dd := ⟨"common", top 10, ["a", "b"], f_common⟩
def d_lowest : Dd := ⟨"lowest", top 11, ["n", "d", "g"], f_lowest⟩
def d_ratio : Dd := ⟨"ratio", top 12, ["n", "d"], f_ratio⟩
def d_is_ratio : Dd := ⟨"is_ratio", top 13, ["value"], f_is_ratio⟩
def d_plus : Dd := ⟨"plus", top 14, ["a", "b"], f_plus⟩
def d_minus : Dd := ⟨"minus", top 15, ["a", "b"], f_minus⟩
def d_times : Dd := ⟨"times", top 16, ["a", "b"], f_times⟩
def d_over : Dd := ⟨"over", top 17, ["a", "b"], f_over⟩
def d_below : Dd := ⟨"below", top 18, ["a", "b"], f_below⟩
def d_total : Dd := ⟨"total", top 19, ["items", "found", "item"], f_total⟩
def d_lesser : Dd := ⟨"lesser", top 20, ["a", "b"], f_lesser⟩
def d_greater : Dd := ⟨"greater", top 21, ["a", "b"], f_greater⟩
def d_ratio_text : Dd := ⟨"ratio_text", top 22, ["a"], f_ratio_text⟩
def d_read_ratio : Dd := ⟨"read_ratio", top 23, ["text", "top", "line", "bottom", "found"], f_read_ratio⟩
def d__law_draw : Dd := ⟨"_law_draw", top 25, ["script", "seed", "cell"], f__law_draw⟩
def d__law_take : Dd := ⟨"_law_take", top 26, ["draw", "many", "found"], f__law_take⟩
def d__law_says : Dd := ⟨"_law_says", top 27, ["value", "due"], f__law_says⟩
def d__law_gcd : Dd := ⟨"_law_gcd", top 28, ["a", "b"], f__law_gcd⟩
def d__law_low : Dd := ⟨"_law_low", top 29, ["n", "d", "g"], f__law_low⟩
def d__law_number : Dd := ⟨"_law_number", top 30, ["draw", "size"], f__law_number⟩
def d__law_same : Dd := ⟨"_law_same", top 31, ["one", "two", "x"], f__law_same⟩
def d__law_whole_text : Dd := ⟨"_law_whole_text", top 32, ["text", "body", "sign"], f__law_whole_text⟩
def d__law_due : Dd := ⟨"_law_due", top 33, ["text", "parts", "part", "n", "d"], f__law_due⟩
def d__law_reads : Dd := ⟨"_law_reads", top 34, ["text", "refusal"], f__law_reads⟩
def d__law_raises : Dd := ⟨"_law_raises", top 35, ["which", "one", "two", "refusal"], f__law_raises⟩
def d_law : Dd := ⟨"law", top 36, ["script", "draw", "n", "d", "e", "f", "turn", "a", "b", "due", "told", "item", "less", "text", "at", "sign", "other", "expected", "value", "values", "due_whole", "due_ratio"], f_law⟩
def md : Md := ⟨[d_is_whole, d_read_whole, d_common, d_lowest, d_ratio, d_is_ratio, d_plus, d_minus, d_times, d_over, d_below, d_total, d_lesser, d_greater, d_ratio_text, d_read_ratio, d__law_draw, d__law_take, d__law_says, d__law_gcd, d__law_low, d__law_number, d__law_same, d__law_whole_text, d__law_due, d__law_reads, d__law_raises, d_law], [("DIGITS", g_DIGITS), ("MOST_DIGITS", g_MOST_DIGITS), ("ZERO", g_ZERO)], [(0, "Malformed"), (2, "NoText"), (3, "Fault")], [("Malformed", [0]), ("NoText", [2]), ("Fault", [0, 2, 3])]⟩
end Lk00
namespace Lk00
open PySem PySem.Spec PyProof.Rows L2 Mk
theorem ok : md.ok = true := by decide +kernel
theorem b_is_whole : BindOk d_is_whole := fun kV doc pm an cdv ct us hl => match us, hl with | [_], _ => rfl
theorem b_read_whole : BindOk d_read_whole := fun kV doc pm an cdv ct us hl => match us, hl with | [_], _ => rfl
theorem b_common : BindOk d_common := fun kV doc pm an cdv ct us hl => match us, hl with | [_, _], _ => rfl
theorem b_lowest : BindOk d_lowest := fun kV doc pm an cdv ct us hl => match us, hl with | [_, _], _ => rfl
theorem b_ratio : BindOk d_ratio := fun kV doc pm an cdv ct us hl => match us, hl with | [_, _], _ => rfl
theorem b_is_ratio : BindOk d_is_ratio := fun kV doc pm an cdv ct us hl => match us, hl with | [_], _ => rfl
theorem b_plus : BindOk d_plus := fun kV doc pm an cdv ct us hl => match us, hl with | [_, _], _ => rfl
theorem b_minus : BindOk d_minus := fun kV doc pm an cdv ct us hl => match us, hl with | [_, _], _ => rfl
theorem b_times : BindOk d_times := fun kV doc pm an cdv ct us hl => match us, hl with | [_, _], _ => rfl
theorem b_over : BindOk d_over := fun kV doc pm an cdv ct us hl => match us, hl with | [_, _], _ => rfl
theorem b_below : BindOk d_below := fun kV doc pm an cdv ct us hl => match us, hl with | [_, _], _ => rfl
theorem b_total : BindOk d_total := fun kV doc pm an cdv ct us hl => match us, hl with | [_], _ => rfl
theorem b_lesser : BindOk d_lesser := fun kV doc pm an cdv ct us hl => match us, hl with | [_, _], _ => rfl
theorem b_greater : BindOk d_greater := fun kV doc pm an cdv ct us hl => match us, hl with | [_, _], _ => rfl
theorem b_ratio_text : BindOk d_ratio_text := fun kV doc pm an cdv ct us hl => match us, hl with | [_], _ => rfl
theorem b_read_ratio : BindOk d_read_ratio := fun kV doc pm an cdv ct us hl => match us, hl with | [_], _ => rfl
theorem b__law_draw : BindOk d__law_draw := fun kV doc pm an cdv ct us hl => match us, hl with | [_], _ => rfl
theorem b__law_take : BindOk d__law_take := fun kV doc pm an cdv ct us hl => match us, hl with | [_, _], _ => rfl
theorem b__law_says : BindOk d__law_says := fun kV doc pm an cdv ct us hl => match us, hl with | [_, _], _ => rfl
theorem b__law_gcd : BindOk d__law_gcd := fun kV doc pm an cdv ct us hl => match us, hl with | [_, _], _ => rfl
theorem b__law_low : BindOk d__law_low := fun kV doc pm an cdv ct us hl => match us, hl with | [_, _], _ => rfl
theorem b__law_number : BindOk d__law_number := fun kV doc pm an cdv ct us hl => match us, hl with | [_], _ => rfl
theorem b__law_same : BindOk d__law_same := fun kV doc pm an cdv ct us hl => match us, hl with | [_, _], _ => rfl
theorem b__law_whole_text : BindOk d__law_whole_text := fun kV doc pm an cdv ct us hl => match us, hl with | [_], _ => rfl
theorem b__law_due : BindOk d__law_due := fun kV doc pm an cdv ct us hl => match us, hl with | [_], _ => rfl
theorem b__law_reads : BindOk d__law_reads := fun kV doc pm an cdv ct us hl => match us, hl with | [_], _ => rfl
theorem b__law_raises : BindOk d__law_raises := fun kV doc pm an cdv ct us hl => match us, hl with | [_, _, _], _ => rfl
theorem b_law : BindOk d_law := fun kV doc pm an cdv ct us hl => match us, hl with | [_], _ => rfl
theorem binds : BindAll md.ds := ⟨b_is_whole, b_read_whole, b_common, b_lowest, b_ratio, b_is_ratio, b_plus, b_minus, b_times, b_over, b_below, b_total, b_lesser, b_greater, b_ratio_text, b_read_ratio, b__law_draw, b__law_take, b__law_says, b__law_gcd, b__law_low, b__law_number, b__law_same, b__law_whole_text, b__law_due, b__law_reads, b__law_raises, b_law, trivial⟩
@[simp] theorem gl_DIGITS : gat md.G 0 = (.str "0123456789") := rfl
@[simp] theorem gl_MOST_DIGITS : gat md.G 1 = (.int 4000) := rfl
@[simp] theorem gl_ZERO : gat md.G 2 = (.tuple [(.int 0), (.int 1)]) := rfl
abbrev R : PySem.W.OpenRow := PySem.W.OpenLaw.row PySem.Challenge.rw_mailkinds_k00_fractions
abbrev hk : PySem.W.Hook := Mk.hookY 6 md.fa md.fn (md.more (PySem.Challenge.rw_mailkinds_k00_fractions).prog)
def ob (s : PySem.W.SharedT) : He.AlX := Mk.obsY 6 md.fa md.fn (md.more (PySem.Challenge.rw_mailkinds_k00_fractions).prog) (HandSHeadRun.getT s)
theorem ob_eq (s : PySem.W.SharedT) : ob s = hk.obs s.abs := Mk.obsY_eq (HandSHeadRun.getT_eq s)
def loose : List PySem.Str := (["Fault", "Malformed", "NoText", "DIGITS", "MOST_DIGITS", "ZERO", "is_whole", "read_whole", "common", "lowest", "ratio", "is_ratio", "plus", "minus", "times", "over", "below", "total", "lesser", "greater", "ratio_text", "read_ratio", "_law_draw", "_law_take", "_law_says", "_law_gcd", "_law_low", "_law_number", "_law_same", "_law_whole_text"] : List PySem.Str) ++ (["_law_due", "_law_reads", "_law_raises"] : List PySem.Str)
theorem run (w : World) : HandSHeadRun.RunEq R (PySem.W.view R.prog [36]) hk ob 4000 loose w := by
  intro os
  kernel_rfl
end Lk00
open PySem PySem.W PySem.Calls PyProof.Rows
theorem PySem.Challenge.end_mailkinds_k00_fractions (plain : ∀ ns : List Int, ns.length ≤ 63 → ∃ wf, Mk.callN Lk00.md.Φ wf Lk00.md.G 20 27 [Mk.lk (ns.map .int)] [] = .ok (.bool true) []) : PySem.Challenge.rw_mailkinds_k00_fractions.Holds := by
  w_on; o_law
  refine HandSHeadRun.head_any (r := OpenLaw.row PySem.Challenge.rw_mailkinds_k00_fractions) (q := view (OpenLaw.row PySem.Challenge.rw_mailkinds_k00_fractions).prog [36]) (H := Lk00.hk) (ob := Lk00.ob) (M := 4000) (loose := Lk00.loose) (d := HandSHeadRun.topDef (OpenLaw.row PySem.Challenge.rw_mailkinds_k00_fractions).prog 36) (kwd := []) Lk00.ob_eq
    (by kernel_rfl) (fun s => by kernel_rfl) Lk00.run (by kernel_rfl) (by kernel_rfl) (by kernel_rfl) (by rfl) (by first | assumption | decide +kernel) (by decide +kernel) ⟨rfl, rfl, rfl, rfl, rfl, by decide +kernel⟩ ?hw ?hc
  case hw => w_witness2
  case hc =>
    refine Mk.walk_ofG (l := PySem.Challenge.rw_mailkinds_k00_fractions) (n := 63) (k := 22) (x := "script") (CX := L2.CX0) rfl (by decide) (by kernel_rfl) ⟨rfl, by decide, by decide⟩ ?F (fun _ _ _ _ z => z)
    case F =>
      intro w mg fa h Y G hmg0
      obtain ⟨K, KX, c⟩ := Y
      have hmg : mg ("law" : PySem.Str) = some (.ref fa) := by
        have e : (HandSHeadRun.topDef (OpenLaw.row PySem.Challenge.rw_mailkinds_k00_fractions).prog 36).name = ("law" : PySem.Str) := by kernel_rfl
        rw [← e]
        exact hmg0
      obtain ⟨fd, q1, q2, q3, q4⟩ := Mk.law_fn (m := Lk00.md) (P := (PySem.Challenge.rw_mailkinds_k00_fractions).prog) KX G c Lk00.ok Lk00.binds 19 27 (d := Lk00.d_law) rfl
      cases (show some (Value.ref fa) = some (.ref _) from hmg.symm.trans q1)
      exact ⟨K, fd, Mk.spLaw Lk00.md K 20 27, KX, fun s u => q3 s [u] rfl, fun H a ns hl _ hS => Mk.law_sp plain hl hS, fun base _ _ => q4 base⟩

set_option Elab.async false
set_option linter.all false
set_option maxRecDepth 100000
set_option maxHeartbeats 1000000
/-! P00a: texts of whole numbers and fractions, as lists of signs. -/
namespace Pk00
open PySem PySem.W L2 Mk TL
abbrev mk (l : List Nat) : Str := ⟨l.toArray⟩
theorem mk_len (l : List Nat) : (mk l).length = l.length := by simp [Str.length]
theorem mk_inj {l m : List Nat} : mk l = mk m ↔ l = m := ⟨fun h => by have := congrArg tl h; exact this, fun h => by rw [h]⟩
theorem mk_app (l m : List Nat) : mk l ++ mk m = mk (l ++ m) := ext_tl (by rw [tl_append])
theorem mk_of (x : Str) : x = mk (tl x) := (mk_tl x).symm
def body (l : List Nat) : List Nat := if l.take 1 = [45] then l.drop 1 else l
def dg (c : Nat) : Bool := decide (48 ≤ c) && decide (c ≤ 57)
def whole (l : List Nat) : Bool := !decide (body l = []) && (body l).all dg && (decide (l = [48]) || !decide ((body l).headD 0 = 48))
def val (l : List Nat) : Int := (PySem.intText? (mk l)).getD 0
theorem all_digits {l : List Nat} (h : l.all dg = true) : NumText.AllDigits l := fun c hc => by
  have := List.all_eq_true.mp h c hc
  simpa [dg] using this
theorem whole_int {l : List Nat} (h : whole l = true) (hl : l.length ≤ 640) : PySem.intText? (mk l) = some (val l) := by
  have hs : ∃ n, PySem.intText? (mk l) = some n := by
    unfold whole at h
    simp only [Bool.and_eq_true, Bool.not_eq_true', decide_eq_false_iff_not] at h
    obtain ⟨⟨h1, h2⟩, -⟩ := h
    unfold body at h1 h2
    split at h1
    · rename_i h45
      rw [if_pos h45] at h2
      cases l with
      | nil => cases h45
      | cons c r =>
        have : c = 45 := by simpa using h45
        subst this
        exact ⟨_, intText_neg (x := mk (45 :: r)) rfl (all_digits h2) h1 (by rw [mk_len]; omega)⟩
    · rename_i h45
      rw [if_neg h45] at h2
      exact ⟨_, intText_digits (x := mk l) (all_digits h2) h1 (by rw [mk_len]; omega)⟩
  obtain ⟨n, e⟩ := hs
  unfold val
  rw [e]; rfl
/-- the parts between the lines -/
abbrev sp (l : List Nat) : List (List Nat) := spl [47] 0 [] l
def due (l : List Nat) : Option (Int × Int) := match sp l with
  | [x] => if whole x then some (val x, 1) else none
  | [x, y] => if whole x && whole y && decide (1 < val y) && decide (Int.gcd (val x) (val y) = 1) then some (val x, val y) else none
  | _ => none
theorem spl_ne (S : List Nat) : ∀ (l acc : List Nat) (k : Nat), spl S k acc l ≠ []
  | [], acc, k => by rw [spl_nil]; simp
  | c :: r, acc, k => by
    rw [spl_pass]
    cases e : (c :: r).drop k with
    | nil => rw [spl_nil]; simp
    | cons c' r' =>
      have hlt : r'.length < (c :: r).length := by
        have := congrArg List.length e
        simp only [List.length_drop, List.length_cons] at this ⊢
        omega
      cases hp : pre S (c' :: r') with
      | true => rw [spl_hit hp]; simp
      | false => rw [spl_miss hp]; exact spl_ne S r' _ 0
termination_by l => l.length
theorem split_47 : ∀ (l : List Nat), 47 ∈ l → ∃ x y, l = x ++ 47 :: y ∧ 47 ∉ x
  | [], h => by cases h
  | c :: r, h => by
    by_cases hc : c = 47
    · subst hc; exact ⟨[], r, rfl, by simp⟩
    · have : 47 ∈ r := by
        rcases List.mem_cons.mp h with h | h
        · exact absurd h.symm hc
        · exact h
      obtain ⟨x, y, e, hx⟩ := split_47 r this
      exact ⟨c :: x, y, by rw [e]; rfl, by simp [hx]; exact fun z => hc z.symm⟩
theorem sp_none {l : List Nat} (h : 47 ∉ l) : sp l = [l] := by
  have := spl_last1 (S := []) (acc := []) h
  simpa using this
theorem sp_cut {x y : List Nat} (h : 47 ∉ x) : sp (x ++ 47 :: y) = x :: sp y := by
  have := spl_part1 (S := []) (acc := []) (rest := y) h
  simpa using this
theorem sp_two {x y : List Nat} (h : 47 ∉ x) (hy : 47 ∈ y) : ∃ a b c r, sp (x ++ 47 :: y) = a :: b :: c :: r := by
  obtain ⟨y1, y2, rfl, h1⟩ := split_47 y hy
  rw [sp_cut h, sp_cut h1]
  cases e : sp y2 with
  | nil => exact absurd e (spl_ne _ _ _ _)
  | cons c r => exact ⟨_, _, _, _, rfl⟩
theorem sp_sub : ∀ (l : List Nat), ∀ p ∈ sp l, p.length ≤ l.length := by
  intro l
  generalize hn : l.length = n
  induction n using Nat.strongRecOn generalizing l with
  | _ n ih =>
    intro p hp
    by_cases h : 47 ∈ l
    · obtain ⟨x, y, rfl, hx⟩ := split_47 l h
      rw [sp_cut hx] at hp
      simp only [List.length_append, List.length_cons] at hn
      rcases List.mem_cons.mp hp with rfl | hp
      · omega
      · have := ih y.length (by omega) y rfl p hp
        omega
    · rw [sp_none h] at hp
      rw [List.mem_singleton.mp hp]
      omega
theorem whole_free {l : List Nat} (h : whole l = true) : 47 ∉ l := by
  unfold whole at h
  simp only [Bool.and_eq_true, Bool.not_eq_true', decide_eq_false_iff_not] at h
  obtain ⟨⟨h1, h2⟩, -⟩ := h
  intro hm
  unfold body at h2
  split at h2
  · rename_i h45
    cases l with
    | nil => cases h45
    | cons c r =>
      have : c = 45 := by simpa using h45
      subst this
      have : 47 ∈ r := by simpa using hm
      have := List.all_eq_true.mp h2 47 this
      cases this
  · have := List.all_eq_true.mp h2 47 hm
    cases this
/-! ### numbers written -/
def zL (i : Int) : List Nat := if i < 0 then 45 :: numL i.natAbs else numL i.natAbs
theorem tl_int (i : Int) : Str.ofString (toString i) = mk (zL i) := by
  refine ext_tl ?_
  show tl _ = zL i
  unfold zL
  split
  · rename_i h
    rw [PyProof.Rows.toString_neg h]
    have e : (0 : Int) - i = ((i.natAbs : Nat) : Int) := by omega
    rw [e, tl_ofString, String.toList_append, List.map_append]
    have := tl_num i.natAbs
    rw [tl_ofString] at this
    rw [this]; rfl
  · have e : i = ((i.natAbs : Nat) : Int) := by omega
    rw [e, tl_num]; simp
theorem numL_head {n : Nat} (h : n ≠ 0) : (numL n).headD 0 ≠ 48 := by
  induction n using Nat.strongRecOn with
  | _ n ih =>
    by_cases h1 : n < 10
    · rw [numL_lt h1]
      show 48 + n ≠ 48
      omega
    · rw [numL_step (by omega)]
      have := ih (n / 10) (by omega) (by omega)
      cases e : numL (n / 10) with
      | nil => exact absurd e (numL_ne _)
      | cons c r => rw [e] at this; exact this
theorem numL_all (n : Nat) : (numL n).all dg = true := List.all_eq_true.mpr fun c hc => by
  have := numL_digits n c hc
  simpa [dg] using this
theorem numL_45 (n : Nat) : (numL n).take 1 ≠ [45] := by
  intro h
  cases e : numL n with
  | nil => exact numL_ne _ e
  | cons c r =>
    rw [e] at h
    have : c = 45 := by simpa using h
    have h2 := numL_digits n c (by rw [e]; simp)
    omega
theorem zL_body (i : Int) : body (zL i) = numL i.natAbs := by
  unfold body zL
  split
  · split
    · rfl
    · rename_i h; exact absurd rfl h
  · rw [if_neg (numL_45 _)]
theorem zL_whole (i : Int) : whole (zL i) = true := by
  unfold whole
  rw [zL_body, numL_all]
  have h0 : decide (numL i.natAbs = []) = false := decide_eq_false (numL_ne _)
  rw [h0]
  simp only [Bool.not_false, Bool.true_and, Bool.or_eq_true, decide_eq_true_eq, Bool.not_eq_true', decide_eq_false_iff_not]
  by_cases h : i = 0
  · subst h
    left
    show numL 0 = [48]
    rw [numL_lt (by decide)]
  · right
    exact numL_head (by omega)
theorem zL_len {i : Int} (h : i.natAbs < 10 ^ 200) : (zL i).length ≤ 201 := by
  have := numL_len (n := i.natAbs) (k := 200) (by decide) h
  unfold zL
  split
  · simp; omega
  · omega
theorem zL_val {i : Int} (h : i.natAbs < 10 ^ 200) : val (zL i) = i := by
  have hl := numL_len (n := i.natAbs) (k := 200) (by decide) h
  unfold val zL
  split
  · rename_i h0
    rw [intText_neg (x := mk (45 :: numL i.natAbs)) rfl (numL_digits _) (numL_ne _) (by rw [mk_len]; simp; omega), numL_val]
    show -((i.natAbs : Nat) : Int) = i
    omega
  · rw [intText_digits (x := mk (numL i.natAbs)) (numL_digits _) (numL_ne _) (by rw [mk_len]; omega)]
    show ((NumText.digitsVal (numL i.natAbs) : Nat) : Int) = i
    rw [numL_val]
    omega
/-- a fraction, written -/
def rtx (p q : Int) : List Nat := if q = 1 then zL p else zL p ++ 47 :: zL q
theorem due_rtx {p q : Int} (hq : 0 < q) (hg : Int.gcd p q = 1) (hp : p.natAbs < 10 ^ 200) (hq2 : q.natAbs < 10 ^ 200) : due (rtx p q) = some (p, q) := by
  have f1 := whole_free (zL_whole p)
  have f2 := whole_free (zL_whole q)
  by_cases h1 : q = 1
  · subst h1
    unfold due rtx
    rw [if_pos rfl, sp_none f1]
    simp [zL_whole, zL_val hp]
  · unfold due rtx
    rw [if_neg h1, sp_cut f1, sp_none f2]
    simp only [zL_whole, zL_val hp, zL_val hq2, Bool.true_and, hg, decide_true, Bool.and_true]
    rw [if_pos (decide_eq_true (by omega))]
end Pk00

set_option Elab.async false
set_option linter.all false
set_option maxRecDepth 100000
set_option maxHeartbeats 1000000
/-! P00b: fractions, walked. -/
namespace Pk00
open PySem PySem.W L2 Mk Lk00
/-- the fuel of the loops -/
class Wf where
  w : Nat
  hw : ∀ b : Nat, b < 2 ^ 1000 → b < w
variable [Wf]
abbrev cf (n : Nat) : CF := callN md.Φ Wf.w md.G n
abbrev dn (n : Nat) (t : T) := den (cf n) Wf.w md.G t
/-! sizes -/
def sz (k : Nat) (i : Int) : Prop := i.natAbs < 2 ^ k
omit [Wf] in
theorem sz.log {k : Nat} {i : Int} (h : sz k i) : i.natAbs.log2 ≤ k := by
  unfold sz at h
  by_cases h0 : i.natAbs = 0
  · rw [h0]; simp
  · exact Nat.le_of_lt ((Nat.log2_lt h0).mpr h)
omit [Wf] in
theorem sz.mono {j k : Nat} {i : Int} (h : sz j i) (hjk : j ≤ k) : sz k i := Nat.lt_of_lt_of_le h (Nat.pow_le_pow_right (by decide) hjk)
omit [Wf] in
theorem sz.mul {j k : Nat} {a b : Int} (h : sz j a) (h2 : sz k b) : sz (j + k) (a * b) := by
  unfold sz at *
  rw [Int.natAbs_mul, Nat.pow_add]
  exact Nat.mul_lt_mul'' h h2
omit [Wf] in
theorem sz.add {k : Nat} {a b : Int} (h : sz k a) (h2 : sz k b) : sz (k + 1) (a + b) := by
  unfold sz at *
  rw [Nat.pow_succ]
  omega
omit [Wf] in
theorem sz.sub {k : Nat} {a b : Int} (h : sz k a) (h2 : sz k b) : sz (k + 1) (a - b) := by
  unfold sz at *
  rw [Nat.pow_succ]
  omega
omit [Wf] in
theorem sz.lt {k : Nat} {i : Int} (h : sz k i) (hk : k ≤ 1000) : i.natAbs < 2 ^ 1000 := h.mono hk
/-! the greatest common divisor -/
theorem eu_loop (n x y : Nat) (hy : y < Wf.w) : (dn n t_common_w1).s [some (.int (x : Int)), some (.int (y : Int))] [] = .nx [some (.int ((Nat.gcd x y : Nat) : Int)), some (.int 0)] [] := by
  refine while_inv (cf := cf n) (wf := Wf.w) (G := md.G) (c := .cmp .ne (.var 1) (.cst (.int 0))) (b := t_common_b1)
    (fun m ρ S => ∃ x' : Nat, Nat.gcd x' m = Nat.gcd x y ∧ ρ = [some (.int (x' : Int)), some (.int (m : Int))] ∧ S = []) (fun r => r = .nx [some (.int ((Nat.gcd x y : Nat) : Int)), some (.int 0)] []) ?_ y _ [] hy ⟨x, rfl, rfl, rfl⟩
  rintro m ρ S ⟨x', hg, rfl, rfl⟩
  by_cases hm : m = 0
  · left
    subst hm
    refine ⟨[], by simp, ?_⟩
    rw [Nat.gcd_zero_right] at hg
    rw [hg]; rfl
  · right
    have hp : (0 : Int) < (m : Int) := by omega
    refine ⟨[], by simp [hm], .inl ⟨x' % m, [some (.int (m : Int)), some (.int ((x' % m : Nat) : Int))], [], .inl ?_, Nat.mod_lt _ (by omega), ⟨m, ?_, rfl, rfl⟩⟩⟩
    · simp [t_common_b1, op_mod_int hp, setV]
    · rw [← hg, Nat.gcd_comm m, ← Nat.gcd_rec, Nat.gcd_comm]
theorem eu_loop2 (n x y : Nat) (hy : y < Wf.w) : (dn n t__law_gcd_w1).s [some (.int (x : Int)), some (.int (y : Int))] [] = .nx [some (.int ((Nat.gcd x y : Nat) : Int)), some (.int 0)] [] := by
  refine while_inv (cf := cf n) (wf := Wf.w) (G := md.G) (c := .cmp .gt (.var 1) (.cst (.int 0))) (b := t__law_gcd_b1)
    (fun m ρ S => ∃ x' : Nat, Nat.gcd x' m = Nat.gcd x y ∧ ρ = [some (.int (x' : Int)), some (.int (m : Int))] ∧ S = []) (fun r => r = .nx [some (.int ((Nat.gcd x y : Nat) : Int)), some (.int 0)] []) ?_ y _ [] hy ⟨x, rfl, rfl, rfl⟩
  rintro m ρ S ⟨x', hg, rfl, rfl⟩
  by_cases hm : m = 0
  · left
    subst hm
    refine ⟨[], by simp, ?_⟩
    rw [Nat.gcd_zero_right] at hg
    rw [hg]; rfl
  · right
    have hp : (0 : Int) < (m : Int) := by omega
    have hm' : 0 < m := by omega
    refine ⟨[], by simp [hm'], .inl ⟨x' % m, [some (.int (m : Int)), some (.int ((x' % m : Nat) : Int))], [], .inl ?_, Nat.mod_lt _ (by omega), ⟨m, ?_, rfl, rfl⟩⟩⟩
    · simp [t__law_gcd_b1, op_mod_int hp, setV]
    · rw [← hg, Nat.gcd_comm m, ← Nat.gcd_rec, Nat.gcd_comm]
omit [Wf] in
theorem abs_eq (i : Int) : (if i < 0 then -i else i) = ((i.natAbs : Nat) : Int) := by split <;> omega
theorem par_abs (n : Nat) (a b : Int) : (dn n (.par (.cons (.var 0) (.cons (.var 1) .nil)) (.cons (.blt .abs (.cons (.var 0) .nil)) (.cons (.blt .abs (.cons (.var 1) .nil)) .nil)))).s [some (.int a), some (.int b)] [] = .nx [some (.int (a.natAbs : Nat)), some (.int (b.natAbs : Nat))] [] := by simp [setV, abs_eq]
theorem common_ok (n : Nat) (a b : Int) (hb : sz 1000 b) (S : Store) : callD (cf (n + 1)) 2 [.int a, .int b] S = .ok (.int ((Int.gcd a b : Nat) : Int)) S := by
  refine call_rt (f := 2) (fn := f_common) (n := n) rfl rfl rfl (S' := []) ?_ rfl S
  have h0 := eu_loop n a.natAbs b.natAbs (Wf.hw _ (hb.lt (by decide)))
  have h1 : (dn n t_common).s [some (.int a), some (.int b)] [] = SR.seq ((dn n t_common_w1).s [some (.int (a.natAbs : Nat)), some (.int (b.natAbs : Nat))] []) (dn n (.cons (.ret (.var 0)) .nil)).s := by
    rw [show t_common = .cons (.par (.cons (.var 0) (.cons (.var 1) .nil)) (.cons (.blt .abs (.cons (.var 0) .nil)) (.cons (.blt .abs (.cons (.var 1) .nil)) .nil))) (.cons t_common_w1 (.cons (.ret (.var 0)) .nil)) from rfl, den_cons, par_abs n, seq_nx, den_cons]
  show (dn n t_common).s [some (.int a), some (.int b)] [] = _
  rw [h1, h0]
  simp [Int.gcd]
theorem gcd_ok (n : Nat) (a b : Int) (hb : sz 1000 b) (S : Store) : callD (cf (n + 1)) 19 [.int a, .int b] S = .ok (.int ((Int.gcd a b : Nat) : Int)) S := by
  refine call_rt (f := 19) (fn := f__law_gcd) (n := n) rfl rfl rfl (S' := []) ?_ rfl S
  have h0 := eu_loop2 n a.natAbs b.natAbs (Wf.hw _ (hb.lt (by decide)))
  have h1 : (dn n t__law_gcd).s [some (.int a), some (.int b)] [] = SR.seq ((dn n t__law_gcd_w1).s [some (.int (a.natAbs : Nat)), some (.int (b.natAbs : Nat))] []) (dn n (.cons (.ret (.var 0)) .nil)).s := by
    rw [show t__law_gcd = .cons (.par (.cons (.var 0) (.cons (.var 1) .nil)) (.cons (.blt .abs (.cons (.var 0) .nil)) (.cons (.blt .abs (.cons (.var 1) .nil)) .nil))) (.cons t__law_gcd_w1 (.cons (.ret (.var 0)) .nil)) from rfl, den_cons, par_abs n, seq_nx, den_cons]
  show (dn n t__law_gcd).s [some (.int a), some (.int b)] [] = _
  rw [h1, h0]
  simp [Int.gcd]
/-! lowest terms -/
abbrev rD (q : Rat) : PyData := .tuple [.int q.num, .int q.den]
omit [Wf] in
theorem op_fdiv_any {S : Store} {i j : Int} (h : j ≠ 0) (h2 : j.natAbs.log2 < 9000) : opB .fdiv S (.int i) (.int j) = some (.int (i.fdiv j)) := by
  show (Mk.binI .fdiv i j).map _ = _
  unfold Mk.binI
  by_cases h0 : 0 < j
  · simp only; rw [if_pos ⟨h0, h2⟩, Int.fdiv_eq_ediv_of_nonneg i (Int.le_of_lt h0)]; rfl
  · simp only; rw [if_neg (fun z => h0 z.1), if_pos ⟨h, h2⟩]; rfl
omit [Wf] in
theorem low_num (n d : Int) (hd : d ≠ 0) : n.fdiv (if d < 0 then -((Int.gcd n d : Nat) : Int) else ((Int.gcd n d : Nat) : Int)) = (Rat.divInt n d).num := by
  rw [Rat.num_divInt, Int.gcd_comm d n]
  have hg : ((Int.gcd n d : Nat) : Int) ≠ 0 := by
    intro z
    have : Int.gcd n d = 0 := by omega
    exact hd (Int.gcd_eq_zero_iff.mp this).2
  obtain ⟨m, hm⟩ := Int.gcd_dvd_left (a := n) (b := d)
  generalize ((Int.gcd n d : Nat) : Int) = g at *
  subst hm
  split
  · rename_i h
    rw [Int.sign_eq_neg_one_of_neg h]
    rw [show g * m = (-g) * (-m) by rw [Int.neg_mul_neg], Int.mul_fdiv_cancel_left _ (by omega), show (-1 : Int) * (-g * -m) = g * (-m) by rw [Int.neg_mul_neg, Int.neg_one_mul, Int.mul_neg], Int.mul_ediv_cancel_left _ hg]
  · rename_i h
    rw [Int.sign_eq_one_of_pos (by omega), Int.one_mul, Int.mul_fdiv_cancel_left _ hg, Int.mul_ediv_cancel_left _ hg]
omit [Wf] in
theorem low_den (n d : Int) (hd : d ≠ 0) : d.fdiv (if d < 0 then -((Int.gcd n d : Nat) : Int) else ((Int.gcd n d : Nat) : Int)) = ((Rat.divInt n d).den : Int) := by
  rw [Rat.den_divInt, if_neg hd, Int.gcd_comm d n]
  have hg : ((Int.gcd n d : Nat) : Int) ≠ 0 := by
    intro z
    have : Int.gcd n d = 0 := by omega
    exact hd (Int.gcd_eq_zero_iff.mp this).2
  rw [Int.natCast_ediv, ]
  obtain ⟨m, hm⟩ := Int.gcd_dvd_right (a := n) (b := d)
  have hp : (0 : Int) ≤ ((Int.gcd n d : Nat) : Int) := by omega
  generalize ((Int.gcd n d : Nat) : Int) = g at *
  split
  · rename_i h
    have e : ((d.natAbs : Nat) : Int) = g * (-m) := by rw [Int.mul_neg, ← hm]; omega
    rw [e, Int.mul_ediv_cancel_left _ hg]
    conv => lhs; rw [hm]
    rw [show g * m = (-g) * (-m) by rw [Int.neg_mul_neg], Int.mul_fdiv_cancel_left _ (by omega)]
  · rename_i h
    have e : ((d.natAbs : Nat) : Int) = g * m := by rw [← hm]; omega
    rw [e, Int.mul_ediv_cancel_left _ hg]
    conv => lhs; rw [hm]
    rw [Int.mul_fdiv_cancel_left _ hg]
omit [Wf] in
theorem gcd_le {n d : Int} (hd : d ≠ 0) : Int.gcd n d ≤ d.natAbs := by
  have := Nat.le_of_dvd (by omega) (Nat.gcd_dvd_right n.natAbs d.natAbs)
  exact this
omit [Wf] in
theorem gg_ok {n d : Int} (hd : d ≠ 0) (h : sz 1000 d) : (if d < 0 then -((Int.gcd n d : Nat) : Int) else ((Int.gcd n d : Nat) : Int)) ≠ 0 ∧ (if d < 0 then -((Int.gcd n d : Nat) : Int) else ((Int.gcd n d : Nat) : Int)).natAbs.log2 < 9000 := by
  have h1 := gcd_le (n := n) hd
  have h0 : Int.gcd n d ≠ 0 := fun z => hd (Int.gcd_eq_zero_iff.mp z).2
  have e : (if d < 0 then -((Int.gcd n d : Nat) : Int) else ((Int.gcd n d : Nat) : Int)).natAbs = Int.gcd n d := by split <;> omega
  refine ⟨by split <;> omega, ?_⟩
  rw [e]
  have : sz 1000 ((Int.gcd n d : Nat) : Int) := by
    unfold sz at *
    exact Nat.lt_of_le_of_lt h1 h
  have := this.log
  rw [Int.natAbs_natCast] at this
  omega
theorem lowest_ok (k : Nat) {n d : Int} (hd : d ≠ 0) (h : sz 1000 d) (S : Store) : callD (cf (k + 2)) 3 [.int n, .int d] S = .ok (rD (Rat.divInt n d)) S := by
  refine call_rt (f := 3) (fn := f_lowest) (n := k + 1) rfl rfl rfl (S' := []) ?_ rfl S
  obtain ⟨g1, g2⟩ := gg_ok (n := n) hd h
  have e1 := op_fdiv_any (S := []) (i := n) g1 g2
  have e2 := op_fdiv_any (S := []) (i := d) g1 g2
  rw [low_num n d hd] at e1
  rw [low_den n d hd] at e2
  show (dn (k + 1) t_lowest).s [some (.int n), some (.int d), none] [] = _
  by_cases h0 : d < 0
  · rw [if_pos h0] at e1 e2
    simp [t_lowest, common_ok k n d h, h0, setV, e1, e2]
  · rw [if_neg h0] at e1 e2
    simp [t_lowest, common_ok k n d h, h0, setV, e1, e2]
theorem low_ok (k : Nat) {n d : Int} (hd : d ≠ 0) (h : sz 1000 d) (S : Store) : callD (cf (k + 2)) 20 [.int n, .int d] S = .ok (rD (Rat.divInt n d)) S := by
  refine call_rt (f := 20) (fn := f__law_low) (n := k + 1) rfl rfl rfl (S' := []) ?_ rfl S
  obtain ⟨g1, g2⟩ := gg_ok (n := n) hd h
  have e1 := op_fdiv_any (S := []) (i := n) g1 g2
  have e2 := op_fdiv_any (S := []) (i := d) g1 g2
  rw [low_num n d hd] at e1
  rw [low_den n d hd] at e2
  show (dn (k + 1) t__law_low).s [some (.int n), some (.int d), none] [] = _
  by_cases h0 : d < 0
  · rw [if_pos h0] at e1 e2
    simp [t__law_low, gcd_ok k n d h, h0, setV, e1, e2]
  · rw [if_neg h0] at e1 e2
    simp [t__law_low, gcd_ok k n d h, h0, setV, e1, e2]
end Pk00

set_option Elab.async false
set_option linter.all false
set_option maxRecDepth 100000
set_option maxHeartbeats 1000000
/-! P00c: ratio, is_ratio, plus, minus, times, over, below, total, lesser, greater. -/
namespace Pk00
open PySem PySem.W L2 Mk Lk00
variable [Wf]
def isW : PyData → Bool
  | .int _ => true
  | _ => false
/-- is_whole of a value without cells -/
theorem whole_ok (n : Nat) (d : PyData) (hd : clD d = true) (S : Store) : callD (cf (n + 1)) 0 [d] S = .ok (.bool (isW d)) S := by
  refine call_rt (f := 0) (fn := f_is_whole) (n := n) rfl rfl (by simpa [clDs] using hd) (S' := []) ?_ rfl S
  show (dn n t_is_whole).s [some d] [] = _
  cases d with
  | dict => cases hd
  | none => simp [t_is_whole, isW]
  | bool b => simp [t_is_whole, isW]
  | int b => simp [t_is_whole, isW]
  | str b => simp [t_is_whole, isW]
  | tuple b => simp [t_is_whole, isW]
  | list b => simp [t_is_whole, isW]
theorem ratio_ok (k : Nat) {n d : Int} (hd : d ≠ 0) (h : sz 1000 d) (S : Store) : callD (cf (k + 3)) 4 [.int n, .int d] S = .ok (rD (Rat.divInt n d)) S := by
  refine call_rt (f := 4) (fn := f_ratio) (n := k + 2) rfl rfl rfl (S' := []) ?_ rfl S
  show (dn (k + 2) t_ratio).s [some (.int n), some (.int d)] [] = _
  simp [t_ratio, whole_ok (k + 1) (.int n) rfl, whole_ok (k + 1) (.int d) rfl, isW, hd, lowest_ok k hd h]
theorem ratio_no (k : Nat) (a b : PyData) (ha : clD a = true) (hb : clD b = true) (h : isW a = false ∨ isW b = false ∨ b = .int 0) (S : Store) : callD (cf (k + 2)) 4 [a, b] S = .exc ⟨0, .str "no fraction"⟩ S := by
  refine call_exc (f := 4) (fn := f_ratio) (n := k + 1) rfl rfl (by simp [clDs, ha, hb]) (S' := []) (ρ' := [some a, some b]) ?_ rfl S
  show (dn (k + 1) t_ratio).s [some a, some b] [] = _
  have e1 := whole_ok k a ha []
  have e2 := whole_ok k b hb []
  by_cases h1 : isW a = true
  · by_cases h2 : isW b = true
    · have : b = .int 0 := by
        rcases h with h | h | h
        · rw [h1] at h; cases h
        · rw [h2] at h; cases h
        · exact h
      subst this
      simp [t_ratio, e1, e2, h1, h2]
    · rw [Bool.not_eq_true] at h2
      simp [t_ratio, e1, e2, h1, h2]
  · rw [Bool.not_eq_true] at h1
    simp [t_ratio, e1, e2, h1]
/-- a fraction, as the program takes one -/
def isR : PyData → Bool
  | .tuple [.int p, .int q] => decide (0 < q) && decide (Int.gcd p q = 1)
  | _ => false
theorem isr_int (k : Nat) (p q : Int) (hq : sz 1000 q) (S : Store) : callD (cf (k + 2)) 5 [.tuple [.int p, .int q]] S = .ok (.bool (isR (.tuple [.int p, .int q]))) S := by
  refine call_rt (f := 5) (fn := f_is_ratio) (n := k + 1) rfl rfl rfl (S' := []) ?_ rfl S
  show (dn (k + 1) t_is_ratio).s [some (.tuple [.int p, .int q])] [] = _
  have e1 := whole_ok k (.int p) rfl []
  have e2 := whole_ok k (.int q) rfl []
  by_cases h : 0 < q
  · simp [t_is_ratio, e1, e2, isW, isR, h, common_ok k p q hq]
    omega
  · simp [t_is_ratio, e1, e2, isW, isR, h]
theorem isr_no (k : Nat) (d : PyData) (hd : clD d = true) (h : ∀ ds, d ≠ .tuple ds) (S : Store) : callD (cf (k + 2)) 5 [d] S = .ok (.bool false) S := by
  refine call_rt (f := 5) (fn := f_is_ratio) (n := k + 1) rfl rfl (by simpa [clDs] using hd) (S' := []) ?_ rfl S
  show (dn (k + 1) t_is_ratio).s [some d] [] = _
  cases d with
  | tuple ds => exact absurd rfl (h ds)
  | dict => cases hd
  | none => simp [t_is_ratio]
  | bool b => simp [t_is_ratio]
  | int b => simp [t_is_ratio]
  | str b => simp [t_is_ratio]
  | list b => simp [t_is_ratio]
/-! sizes of fractions -/
def Sz (k : Nat) (q : Rat) : Prop := sz k q.num ∧ sz k (q.den : Int)
omit [Wf] in
theorem Sz.mono {j k : Nat} {q : Rat} (h : Sz j q) (hjk : j ≤ k) : Sz k q := ⟨h.1.mono hjk, h.2.mono hjk⟩
omit [Wf] in
theorem Sz.div {k : Nat} {n d : Int} (hd : d ≠ 0) (h1 : sz k n) (h2 : sz k d) : Sz k (Rat.divInt n d) := by
  have hg : Int.gcd d n ≠ 0 := fun z => hd (Int.gcd_eq_zero_iff.mp z).1
  refine ⟨?_, ?_⟩
  · have h0 : (Rat.divInt n d).num.natAbs ≤ n.natAbs := by
      rw [Rat.num_divInt]
      obtain ⟨m, hm⟩ := Int.gcd_dvd_right (a := d) (b := n)
      generalize hgg : Int.gcd d n = g at *
      have hg0 : ((g : Nat) : Int) ≠ 0 := by omega
      subst hm
      rw [show d.sign * ((g : Int) * m) = (g : Int) * (d.sign * m) by rw [← Int.mul_assoc, Int.mul_comm d.sign, Int.mul_assoc], Int.mul_ediv_cancel_left _ hg0, Int.natAbs_mul, Int.natAbs_mul]
      have : d.sign.natAbs = 1 := by
        rcases Int.lt_or_gt_of_ne hd with z | z
        · rw [Int.sign_eq_neg_one_of_neg z]; rfl
        · rw [Int.sign_eq_one_of_pos z]; rfl
      rw [this, Nat.one_mul, Int.natAbs_natCast]
      exact Nat.le_mul_of_pos_left _ (by omega)
    exact Nat.lt_of_le_of_lt h0 h1
  · have h0 : ((Rat.divInt n d).den : Int).natAbs ≤ d.natAbs := by
      rw [Rat.den_divInt, if_neg hd, Int.natAbs_natCast]
      exact Nat.div_le_self _ _
    exact Nat.lt_of_le_of_lt h0 h2
omit [Wf] in
theorem den_ne (q : Rat) : (q.den : Int) ≠ 0 := by have := q.den_nz; omega
omit [Wf] in
theorem den_pos (q : Rat) : (0 : Int) < q.den := by have := q.den_nz; omega
omit [Wf] in
theorem rat_red (q : Rat) : Int.gcd q.num q.den = 1 := q.reduced
omit [Wf] in
theorem mul_s {j k : Nat} {a b : Int} (h : sz j a) (h2 : sz k b) (hjk : j + k ≤ 1000) {S : Store} : opB .mul S (.int a) (.int b) = some (.int (a * b)) := by
  have h3 := h.log
  have h4 := h2.log
  exact op_mul_int (by omega)
theorem plus_ok (k : Nat) {a b : Rat} {i j : Nat} (ha : Sz i a) (hb : Sz j b) (hij : i + j ≤ 999) (S : Store) : callD (cf (k + 3)) 6 [rD a, rD b] S = .ok (rD (a + b)) S := by
  refine call_rt (f := 6) (fn := f_plus) (n := k + 2) rfl rfl rfl (S' := []) ?_ rfl S
  show (dn (k + 2) t_plus).s [some (rD a), some (rD b)] [] = _
  have e1 := mul_s (S := []) ha.1 hb.2 (by omega)
  have e2 := mul_s (S := []) hb.1 ha.2 (by omega)
  have e3 := mul_s (S := []) ha.2 hb.2 (by omega)
  have hd : (a.den : Int) * b.den ≠ 0 := Int.mul_ne_zero (den_ne a) (den_ne b)
  have e4 := lowest_ok k (n := a.num * b.den + b.num * a.den) hd ((ha.2.mul hb.2).mono (by omega)) []
  have e5 : Rat.divInt (a.num * b.den + b.num * a.den) (a.den * b.den) = a + b := by
    rw [← Rat.divInt_add_divInt _ _ (den_ne a) (den_ne b), Rat.num_divInt_den, Rat.num_divInt_den]
  rw [e5] at e4
  simp [t_plus, e1, e2, e3, e4]
omit [Wf] in
theorem Sz.add {i j : Nat} {a b : Rat} (ha : Sz i a) (hb : Sz j b) : Sz (i + j + 1) (a + b) := by
  have e5 : Rat.divInt (a.num * b.den + b.num * a.den) (a.den * b.den) = a + b := by
    rw [← Rat.divInt_add_divInt _ _ (den_ne a) (den_ne b), Rat.num_divInt_den, Rat.num_divInt_den]
  rw [← e5]
  exact Sz.div (Int.mul_ne_zero (den_ne a) (den_ne b)) ((ha.1.mul hb.2).add ((hb.1.mul ha.2).mono (by omega))) ((ha.2.mul hb.2).mono (by omega))
theorem minus_ok (k : Nat) {a b : Rat} {i j : Nat} (ha : Sz i a) (hb : Sz j b) (hij : i + j ≤ 999) (S : Store) : callD (cf (k + 3)) 7 [rD a, rD b] S = .ok (rD (Rat.divInt (a.num * b.den - b.num * a.den) (a.den * b.den))) S := by
  refine call_rt (f := 7) (fn := f_minus) (n := k + 2) rfl rfl rfl (S' := []) ?_ rfl S
  show (dn (k + 2) t_minus).s [some (rD a), some (rD b)] [] = _
  have e1 := mul_s (S := []) ha.1 hb.2 (by omega)
  have e2 := mul_s (S := []) hb.1 ha.2 (by omega)
  have e3 := mul_s (S := []) ha.2 hb.2 (by omega)
  have hd : (a.den : Int) * b.den ≠ 0 := Int.mul_ne_zero (den_ne a) (den_ne b)
  have e4 := lowest_ok k (n := a.num * b.den - b.num * a.den) hd ((ha.2.mul hb.2).mono (by omega)) []
  simp [t_minus, e1, e2, e3, e4]
theorem times_ok (k : Nat) {a b : Rat} {i j : Nat} (ha : Sz i a) (hb : Sz j b) (hij : i + j ≤ 999) (S : Store) : callD (cf (k + 3)) 8 [rD a, rD b] S = .ok (rD (Rat.divInt (a.num * b.num) (a.den * b.den))) S := by
  refine call_rt (f := 8) (fn := f_times) (n := k + 2) rfl rfl rfl (S' := []) ?_ rfl S
  show (dn (k + 2) t_times).s [some (rD a), some (rD b)] [] = _
  have e1 := mul_s (S := []) ha.1 hb.1 (by omega)
  have e3 := mul_s (S := []) ha.2 hb.2 (by omega)
  have hd : (a.den : Int) * b.den ≠ 0 := Int.mul_ne_zero (den_ne a) (den_ne b)
  have e4 := lowest_ok k (n := a.num * b.num) hd ((ha.2.mul hb.2).mono (by omega)) []
  simp [t_times, e1, e3, e4]
theorem over_ok (k : Nat) {a b : Rat} {i j : Nat} (ha : Sz i a) (hb : Sz j b) (hij : i + j ≤ 999) (h0 : b.num ≠ 0) (S : Store) : callD (cf (k + 3)) 9 [rD a, rD b] S = .ok (rD (Rat.divInt (a.num * b.den) (a.den * b.num))) S := by
  refine call_rt (f := 9) (fn := f_over) (n := k + 2) rfl rfl rfl (S' := []) ?_ rfl S
  show (dn (k + 2) t_over).s [some (rD a), some (rD b)] [] = _
  have e1 := mul_s (S := []) ha.1 hb.2 (by omega)
  have e3 := mul_s (S := []) ha.2 hb.1 (by omega)
  have hd : (a.den : Int) * b.num ≠ 0 := Int.mul_ne_zero (den_ne a) h0
  have e4 := lowest_ok k (n := a.num * b.den) hd ((ha.2.mul hb.1).mono (by omega)) []
  simp [t_over, e1, e3, e4, h0]
theorem over_no (k : Nat) (a : Rat) (S : Store) : callD (cf (k + 1)) 9 [rD a, .tuple [.int 0, .int 1]] S = .exc ⟨0, .str "zero"⟩ S := by
  refine call_exc (f := 9) (fn := f_over) (n := k) rfl rfl rfl (S' := []) (ρ' := [some (rD a), some (.tuple [.int 0, .int 1])]) ?_ rfl S
  show (dn k t_over).s [some (rD a), some (.tuple [.int 0, .int 1])] [] = _
  simp [t_over]
def lessR (a b : Rat) : Bool := decide (a.num * b.den < b.num * a.den)
theorem below_ok (k : Nat) {a b : Rat} {i j : Nat} (ha : Sz i a) (hb : Sz j b) (hij : i + j ≤ 999) (S : Store) : callD (cf (k + 1)) 10 [rD a, rD b] S = .ok (.bool (lessR a b)) S := by
  refine call_rt (f := 10) (fn := f_below) (n := k) rfl rfl rfl (S' := []) ?_ rfl S
  show (dn k t_below).s [some (rD a), some (rD b)] [] = _
  have e1 := mul_s (S := []) ha.1 hb.2 (by omega)
  have e2 := mul_s (S := []) hb.1 ha.2 (by omega)
  simp [t_below, e1, e2, lessR]
theorem lesser_ok (k : Nat) {a b : Rat} {i j : Nat} (ha : Sz i a) (hb : Sz j b) (hij : i + j ≤ 999) (S : Store) : callD (cf (k + 2)) 12 [rD a, rD b] S = .ok (rD (if lessR b a then b else a)) S := by
  refine call_rt (f := 12) (fn := f_lesser) (n := k + 1) rfl rfl rfl (S' := []) ?_ rfl S
  show (dn (k + 1) t_lesser).s [some (rD a), some (rD b)] [] = _
  have e1 := below_ok k hb ha (by omega) []
  cases h : lessR b a <;> simp [t_lesser, e1, h]
theorem greater_ok (k : Nat) {a b : Rat} {i j : Nat} (ha : Sz i a) (hb : Sz j b) (hij : i + j ≤ 999) (S : Store) : callD (cf (k + 2)) 13 [rD a, rD b] S = .ok (rD (if lessR a b then b else a)) S := by
  refine call_rt (f := 13) (fn := f_greater) (n := k + 1) rfl rfl rfl (S' := []) ?_ rfl S
  show (dn (k + 1) t_greater).s [some (rD a), some (rD b)] [] = _
  have e1 := below_ok k ha hb (by omega) []
  cases h : lessR a b <;> simp [t_greater, e1, h]
omit [Wf] in
/-- neither below the other: the same -/
theorem less_tri {a b : Rat} (h1 : lessR a b = false) (h2 : lessR b a = false) : a = b := by
  unfold lessR at h1 h2
  rw [decide_eq_false_iff_not] at h1 h2
  have : a.num * b.den = b.num * a.den := by omega
  rw [← Rat.num_divInt_den a, ← Rat.num_divInt_den b]
  exact (Rat.divInt_eq_divInt_iff (den_ne a) (den_ne b)).mpr this
omit [Wf] in
theorem less_anti {a b : Rat} (h1 : lessR a b = true) : lessR b a = false := by
  unfold lessR at *
  rw [decide_eq_true_eq] at h1
  rw [decide_eq_false_iff_not]
  omega
/-! total -/
def sumR (l : List Rat) : Rat := l.foldl (· + ·) 0
omit [Wf] in
theorem sumR_snoc (l : List Rat) (x : Rat) : sumR (l ++ [x]) = sumR l + x := by simp [sumR]
theorem total_ok (k : Nat) (l : List Rat) (hl : l.length ≤ 100) (hs : ∀ i, i < l.length → Sz 600 (sumR (l.take i))) (hx : ∀ x ∈ l, Sz 300 x) (D : PyData) (hD : D = .list (l.map rD) ∨ D = .tuple (l.map rD)) (S : Store) : callD (cf (k + 4)) 11 [D] S = .ok (rD (sumR l)) S := by
  have hcl : clDs (l.map rD) = true := cls_map fun _ _ => rfl
  refine call_rt (f := 11) (fn := f_total) (n := k + 3) rfl rfl (by rcases hD with rfl | rfl <;> simpa [clDs, clD] using hcl) (S' := []) ?_ rfl S
  show (dn (k + 3) t_total).s [some D, none, none] [] = _
  have hi : itOf [] D = some (.seq (l.map rD)) := by rcases hD with rfl | rfl <;> rfl
  have key : ∃ x', (dn (k + 3) t_total_l1).s [some D, some (rD 0), none] [] = .nx [some D, some (rD (sumR l)), x'] [] := by
    have := for_all (cf := cf (k + 3)) (wf := Wf.w) (G := md.G) (p := .var 2) (it := .var 0) (b := t_total_b1) (ρ := [some D, some (rD 0), none]) (S := []) (i := .seq (l.map rD)) (ds := l.map rD)
      (fun i ρ S => S = [] ∧ ∃ x', ρ = [some D, some (rD (sumR (l.take i))), x']) (by simp [hi]) (by intros; rfl) ⟨rfl, none, rfl⟩ ?_
    · obtain ⟨ρ', S', e, rfl, x', rfl⟩ := this
      rw [List.length_map, List.take_length] at e
      exact ⟨x', e⟩
    · rintro i hil' ρ S ⟨rfl, x', rfl⟩
      have hil : i < l.length := by simpa using hil'
      rw [List.getElem_map]
      have ht : l.take (i + 1) = l.take i ++ [l[i]] := by rw [List.take_succ, List.getElem?_eq_getElem hil]; rfl
      have e1 := plus_ok k (hs i hil) (hx l[i] (List.getElem_mem hil)) (by decide) []
      refine ⟨[some D, some (rD (sumR (l.take i))), some (rD l[i])], [some D, some (rD (sumR (l.take (i + 1)))), some (rD l[i])], [], rfl, .inl ?_, rfl, _, rfl⟩
      rw [ht, sumR_snoc]
      by_cases h0 : l[i].num = 0
      · have hz : l[i] = 0 := Rat.num_eq_zero.mp h0
        simp [t_total_b1, h0, setV]
        rw [hz, Rat.add_zero]
        exact ⟨rfl, rfl⟩
      · simp [t_total_b1, h0, setV, e1]
  obtain ⟨x', e⟩ := key
  rw [show t_total = .cons (.asg (.var 1) (.glo 2)) (.cons t_total_l1 (.cons (.ret (.var 1)) .nil)) from rfl, den_cons]
  have e0 : (dn (k + 3) (.asg (.var 1) (.glo 2))).s [some D, none, none] [] = .nx [some D, some (rD 0), none] [] := by
    simp [setV]
  rw [e0, seq_nx, den_cons, e, seq_nx]
  simp
end Pk00

set_option Elab.async false
set_option linter.all false
set_option maxRecDepth 100000
set_option maxHeartbeats 1000000
/-! P00d: texts read. -/
namespace Pk00
open PySem PySem.W L2 Mk Lk00 TL
variable [Wf]
omit [Wf] in
theorem slc_hd (l : List Nat) (h : l.length ≤ 640) (S : Store) : slcD S (.str (mk l)) none (some 1) = some (.str (mk (l.take 1))) := by
  show (if lenOk (mk l).length then some (PyData.str (cutS (mk l) none (some 1))) else none) = _
  rw [if_pos (lenOk_of (by rw [mk_len]; omega))]
  congr 2
  refine ext_tl ?_
  have h1 : HT.sIx l.length 0 none = 0 := rfl
  have h2 : HT.sIx l.length l.length (some 1) = min 1 l.length := by
    simp [HT.sIx]
    try omega
  show (l.drop (HT.sIx (mk l).length 0 none)).take (HT.sIx (mk l).length (mk l).length (some 1) - HT.sIx (mk l).length 0 none) = l.take 1
  rw [mk_len, h1, h2]
  cases l <;> simp
omit [Wf] in
theorem slc_tl (l : List Nat) (h : l.length ≤ 640) (S : Store) : slcD S (.str (mk l)) (some 1) none = some (.str (mk (l.drop 1))) := by
  show (if lenOk (mk l).length then some (PyData.str (cutS (mk l) (some 1) none)) else none) = _
  rw [if_pos (lenOk_of (by rw [mk_len]; omega))]
  congr 2
  refine ext_tl ?_
  have h1 : HT.sIx l.length 0 (some 1) = min 1 l.length := by
    simp [HT.sIx]
    try omega
  have h2 : HT.sIx l.length l.length none = l.length := rfl
  show (l.drop (HT.sIx (mk l).length 0 (some 1))).take (HT.sIx (mk l).length (mk l).length none - HT.sIx (mk l).length 0 (some 1)) = l.drop 1
  rw [mk_len, h1, h2]
  cases l with
  | nil => rfl
  | cons c r => simp
omit [Wf] in
theorem eq_mk (l m : List Nat) (S : Store) : cmpD .eq S (.str (mk l)) (.str (mk m)) = some (decide (l = m)) := by
  show some (decide (mk l = mk m)) = _
  congr 1
  exact decide_eq_decide.mpr mk_inj
omit [Wf] in
theorem ne_mk (l m : List Nat) (S : Store) : cmpD .ne S (.str (mk l)) (.str (mk m)) = some (!decide (l = m)) := by
  show some (!decide (mk l = mk m)) = _
  congr 2
  exact decide_eq_decide.mpr mk_inj
omit [Wf] in
theorem str_lit {s : String} {l : List Nat} (h : s.toList.map Char.toNat = l) : (Str.ofString s) = mk l := ext_tl (by rw [tl_ofString, h])
omit [Wf] in
theorem l_min : (Str.ofString "-") = mk [45] := str_lit rfl
omit [Wf] in
theorem l_0 : (Str.ofString "0") = mk [48] := str_lit rfl
omit [Wf] in
theorem l_e : (Str.ofString "") = mk [] := str_lit rfl
omit [Wf] in
theorem l_sl : (Str.ofString "/") = mk [47] := str_lit rfl
omit [Wf] in
theorem l_dg : (Str.ofString "0123456789") = mk [48, 49, 50, 51, 52, 53, 54, 55, 56, 57] := str_lit rfl
omit [Wf] in
theorem in_dg (c : Nat) (S : Store) : inD S (.str ⟨#[c]⟩) (.str (mk [48, 49, 50, 51, 52, 53, 54, 55, 56, 57])) = some (dg c) := by
  show some (!(Builtin.Str.occurrences _ _ 0 _ 1).isEmpty) = _
  rw [PySem.StrLaws.found_one]
  congr 1
  show decide (c ∈ [48, 49, 50, 51, 52, 53, 54, 55, 56, 57]) = dg c
  unfold dg
  rw [← Bool.decide_and]
  refine decide_eq_decide.mpr ?_
  simp only [List.mem_cons, List.not_mem_nil, or_false]
  omega
omit [Wf] in
theorem len_mk (l : List Nat) (h : l.length ≤ 640) (S : Store) : lenD S (.str (mk l)) = some (.int l.length) := by
  show (if lenOk (mk l).length then some (PyData.int (mk l).length) else none) = _
  rw [if_pos (lenOk_of (by rw [mk_len]; omega)), mk_len]
omit [Wf] in
theorem sub_hd (c : Nat) (r : List Nat) (h : (c :: r).length ≤ 640) (S : Store) : subD S (.str (mk (c :: r))) (.int 0) = some (.str (mk [c])) := by
  show (if lenOk (mk (c :: r)).length then _ else none) = _
  rw [if_pos (lenOk_of (by rw [mk_len]; omega))]
  show (atI (c :: r) 0).map _ = _
  rw [atI_zero]; rfl
omit [Wf] in
theorem it_mk (l : List Nat) (S : Store) : itOf S (.str (mk l)) = some (.seq (l.map fun c => .str ⟨#[c]⟩)) := rfl
/-- [sign in DIGITS for sign in body] -/
theorem rw_c1 (n : Nat) (l : List Nat) (h : l.length ≤ 640) (t : Option PyData) : ∃ DD, (dn n t_read_whole_c1).e [t, some (.str (mk l)), none] [] = .ok (.list DD) [] ∧ (boolsOf DD).map (fun bs => PyData.bool (bs.all id)) = some (.bool (l.all dg)) := by
  have := comp_ok (cf := cf n) (wf := Wf.w) (G := md.G) (own := [2]) (p := .var 2) (it := .var 1) (c := .nil) (elt := .cmp .in_ (.var 2) (.glo 0)) (ρ := [t, some (.str (mk l)), none]) (S := []) (i := .seq (l.map fun c => .str ⟨#[c]⟩)) l (fun c => .str ⟨#[c]⟩) (fun _ => true) (fun c => .bool (dg c))
    (by simp [it_mk]) (by simp) (fun c hc => ⟨[t, some (.str (mk l)), some (.str ⟨#[c]⟩)], rfl, by simp, fun _ => by simp [l_dg, in_dg]⟩) (by omega)
  rw [List.filter_eq_self.mpr (fun _ _ => rfl)] at this
  exact ⟨_, this, by rw [bools_map, Option.map_some, List.all_map]; rfl⟩
end Pk00

set_option Elab.async false
set_option linter.all false
set_option maxRecDepth 100000
set_option maxHeartbeats 1000000
/-! P00e: read_whole, the law's whole_text. -/
namespace Pk00
open PySem PySem.W L2 Mk Lk00 TL
variable [Wf]
omit [Wf] in
theorem body_len (l : List Nat) : (body l).length ≤ l.length := by
  unfold body
  split
  · rw [List.length_drop]; omega
  · omega
omit [Wf] in
theorem one_hd (c : Nat) (r : List Nat) : decide (([c] : List Nat) = [48]) = decide ((c :: r).headD 0 = 48) := decide_eq_decide.mpr (by simp)
def bodyT : T := .asg (.var 1) (.ife (.cmp .eq (.slc (.var 0) .nil (.cst (.int 1))) (.cst (.str "-"))) (.slc (.var 0) (.cst (.int 1)) .nil) (.var 0))
theorem body_st (n : Nat) (l : List Nat) (h : l.length ≤ 640) : (dn n bodyT).s [some (.str (mk l)), none, none] [] = .nx [some (.str (mk l)), some (.str (mk (body l))), none] [] := by
  unfold body
  by_cases h45 : l.take 1 = [45]
  · simp [bodyT, slc_hd l h, slc_tl l h, l_min, eq_mk, h45, setV]
  · simp [bodyT, slc_hd l h, slc_tl l h, l_min, eq_mk, h45, setV]
abbrev noT (v : Int) : Exc := ⟨2, .int v⟩
theorem rd_str (l : List Nat) : True := trivial
theorem whole_read (n : Nat) {l : List Nat} (h : l.length ≤ 640) (hw : whole l = true) (S : Store) : callD (cf (n + 1)) 1 [.str (mk l)] S = .ok (.int (val l)) S := by
  refine call_rt (f := 1) (fn := f_read_whole) (n := n) rfl rfl rfl (S' := []) ?_ rfl S
  have hi := whole_int hw h
  unfold whole at hw
  simp only [Bool.and_eq_true, Bool.not_eq_true', decide_eq_false_iff_not, Bool.or_eq_true, decide_eq_true_eq] at hw
  obtain ⟨⟨h1, h2⟩, h3⟩ := hw
  have hb := body_len l
  have hint : bltD .int [] [.str (mk l)] = some (.int (val l)) := by
    show (if (mk l).length ≤ 640 then (PySem.intText? (mk l)).map PyData.int else none) = _
    rw [if_pos (by rw [mk_len]; exact h), hi]; rfl
  have hlen := len_mk (body l) (by omega) []
  obtain ⟨DD, hc, hA⟩ := rw_c1 n (body l) (by omega) (some (.str (mk l)))
  show (dn n t_read_whole).s [some (.str (mk l)), none, none] [] = _
  rw [show t_read_whole = .cons (.if_ (.not (.blt (.isi .str) (.cons (.var 0) .nil))) (.cons (.raise_ 2 (.cons (.cst (.int 0)) .nil)) .nil) .nil) (.cons bodyT (.cons (.if_ (.or (.cmp .lt (.blt .len (.cons (.var 1) .nil)) (.cst (.int 1))) (.or (.cmp .gt (.blt .len (.cons (.var 1) .nil)) (.glo 1)) (.not (.blt .all (.cons t_read_whole_c1 .nil))))) (.cons (.raise_ 2 (.cons (.cst (.int 0)) .nil)) .nil) .nil) (.cons (.if_ (.and (.cmp .eq (.sub (.var 1) (.cst (.int 0))) (.cst (.str "0"))) (.cmp .ne (.var 0) (.cst (.str "0")))) (.cons (.raise_ 2 (.cons (.cst (.int 0)) .nil)) .nil) .nil) (.cons (.ret (.blt .int (.cons (.var 0) .nil))) .nil)))) from rfl, den_cons]
  have es1 : (dn n (.if_ (.not (.blt (.isi .str) (.cons (.var 0) .nil))) (.cons (.raise_ 2 (.cons (.cst (.int 0)) .nil)) .nil) .nil)).s [some (.str (mk l)), none, none] [] = .nx [some (.str (mk l)), none, none] [] := by simp
  rw [es1, seq_nx, den_cons, body_st n l h, seq_nx]
  cases e : body l with
  | nil => exact absurd e h1
  | cons c r =>
    rw [e] at hlen hc hA h2 h3 hb
    rw [h2] at hA
    have hs := sub_hd c r (by omega) []
    have hlt : ¬ ((((c :: r).length : Nat) : Int) < 1) := by simp; omega
    have hgt : ¬ (4000 < (((c :: r).length : Nat) : Int)) := by omega
    have e3 : (dn n (.if_ (.or (.cmp .lt (.blt .len (.cons (.var 1) .nil)) (.cst (.int 1))) (.or (.cmp .gt (.blt .len (.cons (.var 1) .nil)) (.glo 1)) (.not (.blt .all (.cons t_read_whole_c1 .nil))))) (.cons (.raise_ 2 (.cons (.cst (.int 0)) .nil)) .nil) .nil)).s [some (.str (mk l)), some (.str (mk (c :: r))), none] [] = .nx [some (.str (mk l)), some (.str (mk (c :: r))), none] [] := by
      generalize hL : (((c :: r).length : Nat) : Int) = L at *
      simp [hlen, hc, hA, hlt, hgt, -List.length_cons]
    rw [den_cons, e3, seq_nx, den_cons]
    have e4 : (dn n (.if_ (.and (.cmp .eq (.sub (.var 1) (.cst (.int 0))) (.cst (.str "0"))) (.cmp .ne (.var 0) (.cst (.str "0")))) (.cons (.raise_ 2 (.cons (.cst (.int 0)) .nil)) .nil) .nil)).s [some (.str (mk l)), some (.str (mk (c :: r))), none] [] = .nx [some (.str (mk l)), some (.str (mk (c :: r))), none] [] := by
      rcases h3 with h3 | h3
      · simp [hs, l_0, eq_mk, ne_mk, h3]
      · have : ¬ c = 48 := h3
        simp [hs, l_0, eq_mk, ne_mk, this]
    rw [e4, seq_nx]
    simp [hint]
theorem whole_readN (n : Nat) {l : List Nat} (h : l.length ≤ 640) (hw : whole l = false) (S : Store) : callD (cf (n + 1)) 1 [.str (mk l)] S = .exc (noT 0) S := by
  have hb := body_len l
  have hlen := len_mk (body l) (by omega) []
  obtain ⟨DD, hc, hA⟩ := rw_c1 n (body l) (by omega) (some (.str (mk l)))
  refine call_exc (f := 1) (fn := f_read_whole) (n := n) rfl rfl rfl (S' := []) (ρ' := [some (.str (mk l)), some (.str (mk (body l))), none]) ?_ rfl S
  show (dn n t_read_whole).s [some (.str (mk l)), none, none] [] = _
  rw [show t_read_whole = .cons (.if_ (.not (.blt (.isi .str) (.cons (.var 0) .nil))) (.cons (.raise_ 2 (.cons (.cst (.int 0)) .nil)) .nil) .nil) (.cons bodyT (.cons (.if_ (.or (.cmp .lt (.blt .len (.cons (.var 1) .nil)) (.cst (.int 1))) (.or (.cmp .gt (.blt .len (.cons (.var 1) .nil)) (.glo 1)) (.not (.blt .all (.cons t_read_whole_c1 .nil))))) (.cons (.raise_ 2 (.cons (.cst (.int 0)) .nil)) .nil) .nil) (.cons (.if_ (.and (.cmp .eq (.sub (.var 1) (.cst (.int 0))) (.cst (.str "0"))) (.cmp .ne (.var 0) (.cst (.str "0")))) (.cons (.raise_ 2 (.cons (.cst (.int 0)) .nil)) .nil) .nil) (.cons (.ret (.blt .int (.cons (.var 0) .nil))) .nil)))) from rfl, den_cons]
  have es1 : (dn n (.if_ (.not (.blt (.isi .str) (.cons (.var 0) .nil))) (.cons (.raise_ 2 (.cons (.cst (.int 0)) .nil)) .nil) .nil)).s [some (.str (mk l)), none, none] [] = .nx [some (.str (mk l)), none, none] [] := by simp
  rw [es1, seq_nx, den_cons, body_st n l h, seq_nx]
  unfold whole at hw
  cases e : body l with
  | nil =>
    rw [e] at hlen hc hA
    simp [hlen, hc, hA]
  | cons c r =>
    rw [e] at hlen hc hA hw hb
    have hs := sub_hd c r (by omega) []
    have hlt : ¬ ((((c :: r).length : Nat) : Int) < 1) := by simp; omega
    have hgt : ¬ (4000 < (((c :: r).length : Nat) : Int)) := by omega
    by_cases h2 : (c :: r).all dg = true
    · rw [h2] at hA
      have e3 : (dn n (.if_ (.or (.cmp .lt (.blt .len (.cons (.var 1) .nil)) (.cst (.int 1))) (.or (.cmp .gt (.blt .len (.cons (.var 1) .nil)) (.glo 1)) (.not (.blt .all (.cons t_read_whole_c1 .nil))))) (.cons (.raise_ 2 (.cons (.cst (.int 0)) .nil)) .nil) .nil)).s [some (.str (mk l)), some (.str (mk (c :: r))), none] [] = .nx [some (.str (mk l)), some (.str (mk (c :: r))), none] [] := by
        generalize hL : (((c :: r).length : Nat) : Int) = L at *
        simp [hlen, hc, hA, hlt, hgt, -List.length_cons]
      rw [den_cons, e3, seq_nx, den_cons]
      rw [h2] at hw
      simp only [reduceCtorEq, decide_false, Bool.not_false, Bool.true_and, Bool.or_eq_false_iff, decide_eq_false_iff_not, Bool.not_eq_false', decide_eq_true_eq] at hw
      obtain ⟨h3, h4⟩ := hw
      have h5 : c = 48 := h4
      subst h5
      have e4 : (dn n (.if_ (.and (.cmp .eq (.sub (.var 1) (.cst (.int 0))) (.cst (.str "0"))) (.cmp .ne (.var 0) (.cst (.str "0")))) (.cons (.raise_ 2 (.cons (.cst (.int 0)) .nil)) .nil) .nil)).s [some (.str (mk l)), some (.str (mk (48 :: r))), none] [] = .exc (noT 0) [some (.str (mk l)), some (.str (mk (48 :: r))), none] [] := by
        simp [hs, l_0, eq_mk, ne_mk, h3]
      rw [e4]; rfl
    · rw [Bool.not_eq_true] at h2
      rw [h2] at hA
      have e3 : (dn n (.if_ (.or (.cmp .lt (.blt .len (.cons (.var 1) .nil)) (.cst (.int 1))) (.or (.cmp .gt (.blt .len (.cons (.var 1) .nil)) (.glo 1)) (.not (.blt .all (.cons t_read_whole_c1 .nil))))) (.cons (.raise_ 2 (.cons (.cst (.int 0)) .nil)) .nil) .nil)).s [some (.str (mk l)), some (.str (mk (c :: r))), none] [] = .exc (noT 0) [some (.str (mk l)), some (.str (mk (c :: r))), none] [] := by
        generalize hL : (((c :: r).length : Nat) : Int) = L at *
        simp [hlen, hc, hA, hlt, hgt, -List.length_cons]
      rw [den_cons, e3]; rfl
/-- [sign not in '0123456789' for sign in body] -/
theorem wt_c1 (n : Nat) (l : List Nat) (h : l.length ≤ 640) (t : Option PyData) : ∃ DD, (dn n t__law_whole_text_c1).e [t, some (.str (mk l)), none] [] = .ok (.list DD) [] ∧ (boolsOf DD).map (fun bs => PyData.bool (bs.any id)) = some (.bool (!l.all dg)) := by
  have := comp_ok (cf := cf n) (wf := Wf.w) (G := md.G) (own := [2]) (p := .var 2) (it := .var 1) (c := .nil) (elt := .cmp .nin (.var 2) (.cst (.str "0123456789"))) (ρ := [t, some (.str (mk l)), none]) (S := []) (i := .seq (l.map fun c => .str ⟨#[c]⟩)) l (fun c => .str ⟨#[c]⟩) (fun _ => true) (fun c => .bool (!dg c))
    (by simp [it_mk]) (by simp) (fun c hc => ⟨[t, some (.str (mk l)), some (.str ⟨#[c]⟩)], rfl, by simp, fun _ => by simp [l_dg, in_dg]⟩) (by omega)
  rw [List.filter_eq_self.mpr (fun _ _ => rfl)] at this
  refine ⟨_, this, ?_⟩
  rw [bools_map, Option.map_some, List.any_map, List.not_all_eq_any_not]; rfl
theorem wtext_ok (n : Nat) {l : List Nat} (h : l.length ≤ 640) (S : Store) : callD (cf (n + 1)) 23 [.str (mk l)] S = .ok (.bool (whole l)) S := by
  have hb := body_len l
  obtain ⟨DD, hc, hA⟩ := wt_c1 n (body l) (by omega) (some (.str (mk l)))
  refine call_rt (f := 23) (fn := f__law_whole_text) (n := n) rfl rfl rfl (S' := []) ?_ rfl S
  show (dn n t__law_whole_text).s [some (.str (mk l)), none, none] [] = _
  rw [show t__law_whole_text = .cons bodyT (.cons (.if_ (.or (.cmp .eq (.var 1) (.cst (.str ""))) (.blt .any (.cons t__law_whole_text_c1 .nil))) (.cons (.ret (.cst (.bool false))) .nil) .nil) (.cons (.ret (.or (.cmp .eq (.var 0) (.cst (.str "0"))) (.cmp .ne (.sub (.var 1) (.cst (.int 0))) (.cst (.str "0"))))) .nil)) from rfl, den_cons, body_st n l h, seq_nx]
  unfold whole
  cases e : body l with
  | nil =>
    rw [e] at hc hA
    simp [hc, hA, l_e, eq_mk]
  | cons c r =>
    rw [e] at hc hA hb
    have hs := sub_hd c r (by omega) []
    by_cases h2 : (c :: r).all dg = true
    · rw [h2] at hA
      by_cases h3 : l = [48]
      · subst h3
        simp [hc, l_e, l_0, eq_mk, hA, hs, ne_mk, h2, -List.all_cons]
      · simp [hc, l_e, l_0, eq_mk, hA, hs, ne_mk, h2, h3, -List.all_cons]
    · rw [Bool.not_eq_true] at h2
      rw [h2] at hA
      simp [hc, l_e, eq_mk, hA, h2, -List.all_cons]
end Pk00

set_option Elab.async false
set_option linter.all false
set_option maxRecDepth 100000
set_option maxHeartbeats 1000000
/-! P00f: the law's due, read_ratio, the law's reads. -/
namespace Pk00
open PySem PySem.W L2 Mk Lk00 TL
variable [Wf]
omit [Wf] in
theorem fold_lt : ∀ (l : List Nat) (a : Nat), l.all dg = true → l.foldl (fun acc c => acc * 10 + (c - 48)) a < (a + 1) * 10 ^ l.length
  | [], a, _ => by simp
  | c :: r, a, h => by
    rw [List.all_cons, Bool.and_eq_true] at h
    have h1 : c ≤ 57 := by
      have := h.1
      simp [dg] at this
      omega
    have := fold_lt r (a * 10 + (c - 48)) h.2
    rw [List.foldl_cons, List.length_cons, Nat.pow_succ]
    refine Nat.lt_of_lt_of_le this ?_
    rw [show (a + 1) * (10 ^ r.length * 10) = ((a + 1) * 10) * 10 ^ r.length by rw [Nat.mul_comm (10 ^ r.length) 10, Nat.mul_assoc]]
    exact Nat.mul_le_mul_right _ (by omega)
omit [Wf] in
theorem pow10_2 : ∀ k : Nat, (10 : Nat) ^ k ≤ 2 ^ (4 * k)
  | 0 => by simp
  | k + 1 => by
    rw [Nat.pow_succ, show 4 * (k + 1) = 4 * k + 4 by omega, Nat.pow_add]
    exact Nat.mul_le_mul (pow10_2 k) (by decide)
omit [Wf] in
theorem val_sz {l : List Nat} (h : whole l = true) (hl : l.length ≤ 200) : sz 800 (val l) := by
  have key : ∀ m : List Nat, m.all dg = true → m.length ≤ 200 → NumText.digitsVal m < 2 ^ 800 := by
    intro m hm hml
    have h1 := fold_lt m 0 hm
    have h2 := pow10_2 m.length
    have h3 : (2 : Nat) ^ (4 * m.length) ≤ 2 ^ 800 := Nat.pow_le_pow_right (by decide) (by omega)
    show m.foldl (fun acc c => acc * 10 + (c - 48)) 0 < _
    rw [Nat.zero_add, Nat.one_mul] at h1
    exact Nat.lt_of_lt_of_le h1 (Nat.le_trans h2 h3)
  unfold whole at h
  simp only [Bool.and_eq_true, Bool.not_eq_true', decide_eq_false_iff_not] at h
  obtain ⟨⟨h1, h2⟩, -⟩ := h
  unfold sz val
  unfold body at h1 h2
  split at h1
  · rename_i h45
    rw [if_pos h45] at h2
    cases l with
    | nil => cases h45
    | cons c r =>
      have : c = 45 := by simpa using h45
      subst this
      have h2 : r.all dg = true := h2
      rw [intText_neg (x := mk (45 :: r)) rfl (all_digits h2) h1 (by rw [mk_len]; omega)]
      have := key r h2 (by simp only [List.length_cons] at hl; omega)
      show (-((NumText.digitsVal r : Nat) : Int)).natAbs < _
      rw [Int.natAbs_neg, Int.natAbs_natCast]
      exact this
  · rename_i h45
    rw [if_neg h45] at h2
    rw [intText_digits (x := mk l) (all_digits h2) h1 (by rw [mk_len]; omega)]
    have := key l h2 hl
    show ((NumText.digitsVal l : Nat) : Int).natAbs < _
    rw [Int.natAbs_natCast]
    exact this
omit [Wf] in
theorem split_mk (l : List Nat) (h : l.length ≤ 640) (S : Store) : bltD .split S [.str (mk l), .str (mk [47])] = some (.list ((sp l).map fun p => .str (mk p))) := by
  have h1 := split_spl (mk l) (mk [47]) (by decide) (kind_ok (by simp))
  have h2 : Txt.split (mk l) (mk [47]) = (sp l).map mk := by
    refine map_tl_inj ?_
    rw [h1, List.map_map]
    show sp l = _
    have : (tl ∘ mk) = id := by funext x; rfl
    rw [this, List.map_id]
  show (if !((mk [47]).length == 0) && lenOk ((mk l).length + 2) then some (PyData.list ((Txt.split (mk l) (mk [47])).map .str)) else none) = _
  rw [mk_len, mk_len, lenOk_of (by omega), h2, List.map_map]; rfl
omit [Wf] in
theorem int_mk {l : List Nat} (h : l.length ≤ 640) (hw : whole l = true) (S : Store) : bltD .int S [.str (mk l)] = some (.int (val l)) := by
  show (if (mk l).length ≤ 640 then (PySem.intText? (mk l)).map PyData.int else none) = _
  rw [if_pos (by rw [mk_len]; exact h), whole_int hw h]; rfl
abbrev oD : Option (Int × Int) → PyData
  | some (n, d) => .tuple [.int n, .int d]
  | none => .none
/-- [_law_whole_text(part) for part in parts] -/
theorem du_c1 (n : Nat) (ps : List (List Nat)) (h : ∀ p ∈ ps, p.length ≤ 640) (hl : ps.length ≤ 1000) (t x y : Option PyData) : (dn (n + 1) t__law_due_c1).e [t, some (.list (ps.map fun p => .str (mk p))), none, x, y] [] = .ok (.list (ps.map fun p => .bool (whole p))) [] := by
  have := comp_ok (cf := cf (n + 1)) (wf := Wf.w) (G := md.G) (own := [2]) (p := .var 2) (it := .var 1) (c := .nil) (elt := .call 23 (.cons (.var 2) .nil)) (ρ := [t, some (.list (ps.map fun p => .str (mk p))), none, x, y]) (S := []) (i := .seq (ps.map fun p => .str (mk p))) ps (fun p => .str (mk p)) (fun _ => true) (fun p => .bool (whole p))
    (by simp) (by simp) (fun p hp => ⟨[t, some (.list (ps.map fun p => .str (mk p))), some (.str (mk p)), x, y], rfl, by simp, fun _ => by simp [wtext_ok n (h p hp)]⟩) (by omega)
  rw [List.filter_eq_self.mpr (fun _ _ => rfl)] at this
  exact this
omit [Wf] in
theorem at_m1 (a b : PyData) : atI [a, b] (-1) = some b := rfl
theorem due_ok (n : Nat) (l : List Nat) (h : l.length ≤ 200) (S : Store) : callD (cf (n + 2)) 24 [.str (mk l)] S = .ok (oD (due l)) S := by
  refine call_rt (f := 24) (fn := f__law_due) (n := n + 1) rfl rfl rfl (S' := []) ?_ (by cases due l <;> rfl) S
  show (dn (n + 1) t__law_due).s [some (.str (mk l)), none, none, none, none] [] = _
  have hsp := split_mk l (by omega) []
  have hsub := sp_sub l
  unfold due
  cases e : sp l with
  | nil => exact absurd e (spl_ne _ _ _ _)
  | cons x r =>
    rw [e] at hsp hsub
    have hx := hsub x (by simp)
    cases r with
    | nil =>
      have hc := du_c1 n [x] (by intro p hp; rw [List.mem_singleton.mp hp]; omega) (by simp) (some (.str (mk l))) none none
      have hsp' : bltD .split [] [.str (mk l), .str (mk [47])] = some (.list [.str (mk x)]) := hsp
      have hc' : (dn (n + 1) t__law_due_c1).e [some (.str (mk l)), some (.list [.str (mk x)]), none, none, none] [] = .ok (.list [.bool (whole x)]) [] := hc
      cases hw : whole x with
      | true =>
        rw [hw] at hc'
        have hi := int_mk (show x.length ≤ 640 by omega) hw []
        have hg := gcd_ok n (val x) 1 (show (1 : Int).natAbs < 2 ^ 1000 from Nat.one_lt_two_pow (by decide)) []
        simp [t__law_due, l_sl, hsp', hc', hi, hg, recv, isStrD, setV, oD, at_m1, hw]
      | false =>
        rw [hw] at hc'
        simp [t__law_due, l_sl, hsp', hc', recv, isStrD, setV, oD, at_m1, hw]
    | cons y r =>
      have hy := hsub y (by simp)
      cases r with
      | nil =>
        have hc := du_c1 n [x, y] (by intro p hp; have := hsub p hp; omega) (by simp) (some (.str (mk l))) none none
        have hsp' : bltD .split [] [.str (mk l), .str (mk [47])] = some (.list [.str (mk x), .str (mk y)]) := hsp
        have hc' : (dn (n + 1) t__law_due_c1).e [some (.str (mk l)), some (.list [.str (mk x), .str (mk y)]), none, none, none] [] = .ok (.list [.bool (whole x), .bool (whole y)]) [] := hc
        cases hw : whole x with
        | true =>
          cases hw2 : whole y with
          | true =>
            rw [hw, hw2] at hc'
            have hi := int_mk (show x.length ≤ 640 by omega) hw []
            have hi2 := int_mk (show y.length ≤ 640 by omega) hw2 []
            have hg := gcd_ok n (val x) (val y) ((val_sz hw2 (by omega)).mono (by decide)) []
            clear hc hsub hsp
            dsimp only
            generalize val x = vx at *
            generalize val y = vy at *
            by_cases q1 : vy < 1
            · have q2 : ¬ 1 < vy := by omega
              simp [t__law_due, l_sl, hsp', hc', hi, hi2, hg, recv, isStrD, setV, oD, at_m1, hw, hw2, q1, q2]
            · by_cases q3 : Int.gcd (vx) (vy) = 1
              · by_cases q4 : vy = 1
                · subst q4
                  simp [t__law_due, l_sl, hsp', hc', hi, hi2, hg, recv, isStrD, setV, oD, at_m1, hw, hw2, q3]
                · have q2 : 1 < vy := by omega
                  simp [t__law_due, l_sl, hsp', hc', hi, hi2, hg, recv, isStrD, setV, oD, at_m1, hw, hw2, q1, q2, q3, q4]
              · have q5 : ¬ ((Int.gcd (vx) (vy) : Nat) : Int) = 1 := by omega
                simp [t__law_due, l_sl, hsp', hc', hi, hi2, hg, recv, isStrD, setV, oD, at_m1, hw, hw2, q1, q3, q5]
          | false =>
            rw [hw, hw2] at hc'
            simp [t__law_due, l_sl, hsp', hc', recv, isStrD, setV, oD, at_m1, hw, hw2]
        | false =>
          rw [hw] at hc'
          simp [t__law_due, l_sl, hsp', hc', recv, isStrD, setV, oD, at_m1, hw]
      | cons z r =>
        have hl2 : (2 : Int) < (r.length : Int) + 1 + 1 + 1 := by omega
        simp [t__law_due, l_sl, hsp, recv, isStrD, setV, oD, hl2]
end Pk00

set_option Elab.async false
set_option linter.all false
set_option maxRecDepth 100000
set_option maxHeartbeats 1000000
/-! P00g: read_ratio, the law's reads. -/
namespace Pk00
open PySem PySem.W L2 Mk Lk00 TL
variable [Wf]
omit [Wf] in
theorem due_none {l : List Nat} (h : 47 ∉ l) : due l = if whole l then some (val l, 1) else none := by
  unfold due
  rw [sp_none h]
omit [Wf] in
theorem due_cut {x y : List Nat} (h : 47 ∉ x) : due (x ++ 47 :: y) = if whole x && whole y && decide (1 < val y) && decide (Int.gcd (val x) (val y) = 1) then some (val x, val y) else none := by
  by_cases hy : 47 ∈ y
  · obtain ⟨a, b, c, r, e⟩ := sp_two h hy
    have hw : whole y = false := by
      cases hw : whole y with
      | true => exact absurd hy (whole_free hw)
      | false => rfl
    unfold due
    rw [e, hw]
    simp
  · unfold due
    rw [sp_cut h, sp_none hy]
omit [Wf] in
theorem part_none {l : List Nat} (h : 47 ∉ l) (hl : l.length ≤ 640) (S : Store) : bltD .part S [.str (mk l), .str (mk [47])] = some (.tuple [.str (mk l), .str (mk []), .str (mk [])]) := by
  have e := partition_none (y := mk [47]) (S := []) rfl (a := mk l) h
  show (if !((mk [47]).length == 0) && lenOk (mk l).length then some (PyData.tuple [.str (Txt.partition (mk l) (mk [47])).1, .str (Txt.partition (mk l) (mk [47])).2.1, .str (Txt.partition (mk l) (mk [47])).2.2]) else none) = _
  rw [mk_len, mk_len, lenOk_of (by omega), e]; rfl
omit [Wf] in
theorem part_cut {x y : List Nat} (h : 47 ∉ x) (hl : (x ++ 47 :: y).length ≤ 640) (S : Store) : bltD .part S [.str (mk (x ++ 47 :: y)), .str (mk [47])] = some (.tuple [.str (mk x), .str (mk [47]), .str (mk y)]) := by
  have e := partition_app (y := mk [47]) (S := []) rfl (a := mk x) (b := mk y) h
  have e2 : mk x ++ mk [47] ++ mk y = mk (x ++ 47 :: y) := by rw [mk_app, mk_app]; simp
  rw [e2] at e
  show (if !((mk [47]).length == 0) && lenOk (mk (x ++ 47 :: y)).length then some (PyData.tuple [.str (Txt.partition (mk (x ++ 47 :: y)) (mk [47])).1, .str (Txt.partition (mk (x ++ 47 :: y)) (mk [47])).2.1, .str (Txt.partition (mk (x ++ 47 :: y)) (mk [47])).2.2]) else none) = _
  rw [mk_len, mk_len, lenOk_of (by omega), e]; rfl
def s1T : T := .if_ (.not (.blt (.isi .str) (.cons (.var 0) .nil))) (.cons (.raise_ 2 (.cons (.cst (.int 0)) .nil)) .nil) .nil
def s2T : T := .asg (.tup (.cons (.var 1) (.cons (.var 2) (.cons (.var 3) .nil)))) (.mth .part (.var 0) (.cons (.cst (.str "/")) .nil))
def s3T : T := .asg (.var 4) (.tup (.cons (.call 1 (.cons (.var 1) .nil)) (.cons (.ife (.cmp .ne (.var 2) (.cst (.str ""))) (.call 1 (.cons (.var 3) .nil)) (.cst (.int 1))) .nil)))
def s4T : T := .if_ (.or (.not (.call 5 (.cons (.var 4) .nil))) (.and (.cmp .ne (.var 2) (.cst (.str ""))) (.cmp .eq (.sub (.var 4) (.cst (.int 1))) (.cst (.int 1))))) (.cons (.raise_ 2 (.cons (.cst (.int 0)) .nil)) .nil) .nil
theorem rr_eq : t_read_ratio = .cons s1T (.cons s2T (.cons s3T (.cons s4T (.cons (.ret (.var 4)) .nil)))) := rfl
theorem s1_str (n : Nat) (s : Str) : (dn n s1T).s [some (.str s), none, none, none, none] [] = .nx [some (.str s), none, none, none, none] [] := by simp [s1T]
theorem s2_none (n : Nat) {l : List Nat} (h : 47 ∉ l) (hl : l.length ≤ 640) : (dn n s2T).s [some (.str (mk l)), none, none, none, none] [] = .nx [some (.str (mk l)), some (.str (mk l)), some (.str (mk [])), some (.str (mk [])), none] [] := by
  simp [s2T, l_sl, part_none h hl, recv, isStrD, setV]
theorem s2_cut (n : Nat) {x y : List Nat} (h : 47 ∉ x) (hl : (x ++ 47 :: y).length ≤ 640) : (dn n s2T).s [some (.str (mk (x ++ 47 :: y))), none, none, none, none] [] = .nx [some (.str (mk (x ++ 47 :: y))), some (.str (mk x)), some (.str (mk [47])), some (.str (mk y)), none] [] := by
  simp [s2T, l_sl, part_cut h hl, recv, isStrD, setV]
/-- read_ratio, of a text -/
theorem ratio_read (n : Nat) (l : List Nat) (hl : l.length ≤ 200) (S : Store) : callD (cf (n + 3)) 15 [.str (mk l)] S = match due l with
    | some (p, q) => .ok (.tuple [.int p, .int q]) S
    | none => .exc (noT 0) S := by
  by_cases h : 47 ∈ l
  · obtain ⟨x, y, rfl, hx⟩ := split_47 l h
    rw [due_cut hx]
    have hxl : x.length ≤ 200 := by simp at hl; omega
    have hyl : y.length ≤ 200 := by simp at hl; omega
    have e2 := s2_cut (n + 2) hx (show (x ++ 47 :: y).length ≤ 640 by omega)
    generalize hT : mk (x ++ 47 :: y) = tx at *
    have ne1 : ∀ S, cmpD .ne S (.str (mk [47])) (.str (mk [])) = some true := fun S => by rw [ne_mk]; rfl
    cases hw : whole x with
    | false =>
      have er := whole_readN (n + 1) (show x.length ≤ 640 by omega) hw []
      simp only [Bool.false_and, Bool.false_eq_true, if_false]
      refine call_exc (f := 15) (fn := f_read_ratio) (n := n + 2) rfl rfl rfl (S' := []) (ρ' := [some (.str tx), some (.str (mk x)), some (.str (mk [47])), some (.str (mk y)), none]) ?_ rfl S
      show (dn (n + 2) t_read_ratio).s [some (.str tx), none, none, none, none] [] = _
      rw [rr_eq, den_cons, s1_str, seq_nx, den_cons, e2, seq_nx, den_cons]
      simp [s3T, er]
    | true =>
      have er := whole_read (n + 1) (show x.length ≤ 640 by omega) hw []
      cases hw2 : whole y with
      | false =>
        have er2 := whole_readN (n + 1) (show y.length ≤ 640 by omega) hw2 []
        simp only [Bool.and_false, Bool.false_and, Bool.false_eq_true, if_false]
        refine call_exc (f := 15) (fn := f_read_ratio) (n := n + 2) rfl rfl rfl (S' := []) (ρ' := [some (.str tx), some (.str (mk x)), some (.str (mk [47])), some (.str (mk y)), none]) ?_ rfl S
        show (dn (n + 2) t_read_ratio).s [some (.str tx), none, none, none, none] [] = _
        rw [rr_eq, den_cons, s1_str, seq_nx, den_cons, e2, seq_nx, den_cons]
        simp [s3T, er, er2, l_e, ne1]
      | true =>
        have er2 := whole_read (n + 1) (show y.length ≤ 640 by omega) hw2 []
        have ei := isr_int n (val x) (val y) ((val_sz hw2 hyl).mono (by decide)) []
        generalize val x = vx at *
        generalize val y = vy at *
        have e3 : (dn (n + 2) s3T).s [some (.str tx), some (.str (mk x)), some (.str (mk [47])), some (.str (mk y)), none] [] = .nx [some (.str tx), some (.str (mk x)), some (.str (mk [47])), some (.str (mk y)), some (.tuple [.int vx, .int vy])] [] := by
          simp [s3T, er, er2, l_e, ne1, setV]
        simp only [Bool.true_and]
        by_cases hc : (decide (1 < vy) && decide (Int.gcd vx vy = 1)) = true
        · rw [if_pos hc]
          rw [Bool.and_eq_true, decide_eq_true_eq, decide_eq_true_eq] at hc
          have hi : isR (.tuple [.int vx, .int vy]) = true := by
            simp only [isR, Bool.and_eq_true, decide_eq_true_eq]
            exact ⟨by omega, hc.2⟩
          rw [hi] at ei
          have hv1 : ¬ vy = 1 := by omega
          refine call_rt (f := 15) (fn := f_read_ratio) (n := n + 2) rfl rfl rfl (S' := []) ?_ rfl S
          show (dn (n + 2) t_read_ratio).s [some (.str tx), none, none, none, none] [] = _
          rw [rr_eq, den_cons, s1_str, seq_nx, den_cons, e2, seq_nx, den_cons, e3, seq_nx]
          simp [s4T, ei, ne1, l_e, hv1]
        · rw [if_neg hc]
          refine call_exc (f := 15) (fn := f_read_ratio) (n := n + 2) rfl rfl rfl (S' := []) (ρ' := [some (.str tx), some (.str (mk x)), some (.str (mk [47])), some (.str (mk y)), some (.tuple [.int vx, .int vy])]) ?_ rfl S
          show (dn (n + 2) t_read_ratio).s [some (.str tx), none, none, none, none] [] = _
          rw [rr_eq, den_cons, s1_str, seq_nx, den_cons, e2, seq_nx, den_cons, e3, seq_nx]
          cases hi : isR (.tuple [.int vx, .int vy]) with
          | false =>
            rw [hi] at ei
            simp [s4T, ei, ne1, l_e]
          | true =>
            rw [hi] at ei
            simp only [isR, Bool.and_eq_true, decide_eq_true_eq] at hi
            have hv : vy = 1 := by
              rw [Bool.and_eq_true, decide_eq_true_eq, decide_eq_true_eq] at hc
              have : ¬ 1 < vy := fun z => hc ⟨z, hi.2⟩
              omega
            subst hv
            simp [s4T, ei, ne1, l_e]
  · rw [due_none h]
    have e2 := s2_none (n + 2) h (show l.length ≤ 640 by omega)
    have ne1 : ∀ S, cmpD .ne S (.str (mk [])) (.str (mk [])) = some false := fun S => by rw [ne_mk]; rfl
    cases hw : whole l with
    | false =>
      have er := whole_readN (n + 1) (show l.length ≤ 640 by omega) hw []
      simp only [Bool.false_eq_true, if_false]
      refine call_exc (f := 15) (fn := f_read_ratio) (n := n + 2) rfl rfl rfl (S' := []) (ρ' := [some (.str (mk l)), some (.str (mk l)), some (.str (mk [])), some (.str (mk [])), none]) ?_ rfl S
      show (dn (n + 2) t_read_ratio).s [some (.str (mk l)), none, none, none, none] [] = _
      rw [rr_eq, den_cons, s1_str, seq_nx, den_cons, e2, seq_nx, den_cons]
      simp [s3T, er]
    | true =>
      have er := whole_read (n + 1) (show l.length ≤ 640 by omega) hw []
      have ei := isr_int n (val l) 1 (show (1 : Int).natAbs < 2 ^ 1000 from Nat.one_lt_two_pow (by decide)) []
      have hi : isR (.tuple [.int (val l), .int 1]) = true := by
        simp [isR]
      rw [hi] at ei
      simp only [if_true]
      refine call_rt (f := 15) (fn := f_read_ratio) (n := n + 2) rfl rfl rfl (S' := []) ?_ rfl S
      show (dn (n + 2) t_read_ratio).s [some (.str (mk l)), none, none, none, none] [] = _
      rw [rr_eq, den_cons, s1_str, seq_nx, den_cons, e2, seq_nx, den_cons]
      have e3 : (dn (n + 2) s3T).s [some (.str (mk l)), some (.str (mk l)), some (.str (mk [])), some (.str (mk [])), none] [] = .nx [some (.str (mk l)), some (.str (mk l)), some (.str (mk [])), some (.str (mk [])), some (.tuple [.int (val l), .int 1])] [] := by
        simp [s3T, er, l_e, ne1, setV]
      rw [e3, seq_nx]
      simp [s4T, ei, ne1, l_e]
/-- .. of no text -/
theorem ratio_readN (n : Nat) (d : PyData) (hd : clD d = true) (h : ∀ s, d ≠ .str s) (S : Store) : callD (cf (n + 1)) 15 [d] S = .exc (noT 0) S := by
  refine call_exc (f := 15) (fn := f_read_ratio) (n := n) rfl rfl (by simpa [clDs] using hd) (S' := []) (ρ' := [some d, none, none, none, none]) ?_ rfl S
  show (dn n t_read_ratio).s [some d, none, none, none, none] [] = _
  rw [rr_eq]
  cases d with
  | str s => exact absurd rfl (h s)
  | dict => cases hd
  | none => simp [s1T]
  | bool b => simp [s1T]
  | int b => simp [s1T]
  | tuple b => simp [s1T]
  | list b => simp [s1T]
abbrev atD : PyData := .tuple [.str "at", .int 0]
abbrev rdO : Option (Int × Int) → PyData
  | some (n, d) => .tuple [.int n, .int d]
  | none => atD
def hds : List Hd := [⟨[2], some 1, (.ite (.and (.isE [0, 2, 3]) (.and .isV (.not (.isE [0])))) (.tup (.str "at") .fld) (.str "other"))⟩]
theorem hd_at (a : Option PyData) : hdR hds (noT 0) [a, none] [] = .rt atD [] := by rfl
theorem reads_eq : t__law_reads = .cons (.tryx (.cons (.ret (.call 15 (.cons (.var 0) .nil))) .nil) hds) .nil := rfl
theorem reads_ok (n : Nat) (l : List Nat) (hl : l.length ≤ 200) (S : Store) : callD (cf (n + 4)) 25 [.str (mk l)] S = .ok (rdO (due l)) S := by
  refine call_rt (f := 25) (fn := f__law_reads) (n := n + 3) rfl rfl rfl (S' := []) ?_ (by cases due l <;> rfl) S
  show (dn (n + 3) t__law_reads).s [some (.str (mk l)), none] [] = _
  rw [reads_eq]
  have e := ratio_read n l hl []
  cases hd : due l with
  | none =>
    rw [hd] at e
    have e : callD (cf (n + 3)) 15 [.str (mk l)] [] = .exc (noT 0) [] := e
    simp [e, hd_at]
  | some pq =>
    obtain ⟨p, q⟩ := pq
    rw [hd] at e
    have e : callD (cf (n + 3)) 15 [.str (mk l)] [] = .ok (.tuple [.int p, .int q]) [] := e
    simp [e]
theorem reads_no (n : Nat) (d : PyData) (hd : clD d = true) (h : ∀ s, d ≠ .str s) (S : Store) : callD (cf (n + 2)) 25 [d] S = .ok atD S := by
  refine call_rt (f := 25) (fn := f__law_reads) (n := n + 1) rfl rfl (by simpa [clDs] using hd) (S' := []) ?_ rfl S
  show (dn (n + 1) t__law_reads).s [some d, none] [] = _
  rw [reads_eq]
  have e := ratio_readN n d hd h []
  simp [e, hd_at]
end Pk00

set_option Elab.async false
set_option linter.all false
set_option maxRecDepth 100000
set_option maxHeartbeats 1000000
/-! P00h: raises, says, same, number, ratio_text. -/
namespace Pk00
open PySem PySem.W L2 Mk Lk00 TL
variable [Wf]
omit [Wf] in
theorem eqv_ii (a b : Int) : PyData.eqv (.tuple [.int a, .int b]) (.tuple [.int a, .int b]) = true := by
  simp [PyData.eqv, PyData.eqvAll]
omit [Wf] in
theorem eq_ii (a b : Int) (S : Store) : cmpD .eq S (.tuple [.int a, .int b]) (.tuple [.int a, .int b]) = some true := by
  show (if shp (.tuple [.int a, .int b]) && shp (.tuple [.int a, .int b]) then some (PyData.eqv (.tuple [.int a, .int b]) (.tuple [.int a, .int b])) else none) = _
  rw [show shp (.tuple [.int a, .int b]) = true from rfl, eqv_ii]; rfl
omit [Wf] in
theorem ne_ii (a b : Int) (S : Store) : cmpD .ne S (.tuple [.int a, .int b]) (.tuple [.int a, .int b]) = some false := by
  show (if shp (.tuple [.int a, .int b]) && shp (.tuple [.int a, .int b]) then some (!PyData.eqv (.tuple [.int a, .int b]) (.tuple [.int a, .int b])) else none) = _
  rw [show shp (.tuple [.int a, .int b]) = true from rfl, eqv_ii]; rfl
omit [Wf] in
theorem ne_at (S : Store) : cmpD .ne S atD atD = some false := by
  have h : PyData.eqv atD atD = true := by simp [PyData.eqv, PyData.eqvAll]
  show (if shp atD && shp atD then some (!PyData.eqv atD atD) else none) = _
  rw [show shp atD = true by first | decide | kernel_rfl | simp, h]; rfl
theorem says_ok (n : Nat) (b : Bool) (S : Store) : callD (cf (n + 1)) 18 [.bool b, .bool b] S = .ok (.bool true) S := by
  refine call_rt (f := 18) (fn := f__law_says) (n := n) rfl rfl rfl (S' := []) ?_ rfl S
  have : ∀ S, cmpD .eq S (.bool b) (.bool b) = some true := fun S => by cases b <;> rfl
  simp [f__law_says, t__law_says, startE, this]
/-- the told fraction is the due one -/
theorem same_ok (n : Nat) (q : Rat) (S : Store) : callD (cf (n + 1)) 22 [rD q, rD q] S = .ok (.bool true) S := by
  refine call_rt (f := 22) (fn := f__law_same) (n := n) rfl rfl rfl (S' := []) ?_ rfl S
  show (dn n t__law_same).s [some (rD q), some (rD q), none] [] = _
  have c := comp_ok (cf := cf n) (wf := Wf.w) (G := md.G) (own := [2]) (p := .var 2) (it := .var 0) (c := .nil) (elt := .and (.blt (.isi .int) (.cons (.var 2) .nil)) (.not (.blt (.isi .bool) (.cons (.var 2) .nil)))) (ρ := [some (rD q), some (rD q), none]) (S := []) (i := .seq [.int q.num, .int q.den]) [q.num, (q.den : Int)] .int (fun _ => true) (fun _ => .bool true)
    (by simp) (by simp) (fun p hp => ⟨[some (rD q), some (rD q), some (.int p)], rfl, by simp, fun _ => by simp⟩) (by simp)
  have c' : (dn n t__law_same_c1).e [some (rD q), some (rD q), none] [] = .ok (.list [.bool true, .bool true]) [] := c
  simp [t__law_same, c', eq_ii]
theorem raises0 (n : Nat) (a b : PyData) (ha : clD a = true) (hb : clD b = true) (h : isW a = false ∨ isW b = false ∨ b = .int 0) (S : Store) : callD (cf (n + 3)) 26 [.int 0, a, b] S = .ok (.bool true) S := by
  refine call_rt (f := 26) (fn := f__law_raises) (n := n + 2) rfl rfl (by simp [clDs, ha, hb, clD]) (S' := []) ?_ rfl S
  have e := ratio_no n a b ha hb h []
  show (dn (n + 2) t__law_raises).s [some (.int 0), some a, some b, none] [] = _
  have hd : hdR [⟨[0], some 3, (.and (.isE [0, 2, 3]) (.not (.isE [2])))⟩] ⟨0, .str "no fraction"⟩ [some (.int 0), some a, some b, none] [] = .rt (.bool true) [] := rfl
  simp [t__law_raises, e, hd]
theorem raises1 (n : Nat) (a : Rat) (S : Store) : callD (cf (n + 2)) 26 [.int 1, rD a, .tuple [.int 0, .int 1]] S = .ok (.bool true) S := by
  refine call_rt (f := 26) (fn := f__law_raises) (n := n + 1) rfl rfl rfl (S' := []) ?_ rfl S
  have e := over_no n a []
  show (dn (n + 1) t__law_raises).s [some (.int 1), some (rD a), some (.tuple [.int 0, .int 1]), none] [] = _
  have hd : hdR [⟨[0], some 3, (.and (.isE [0, 2, 3]) (.not (.isE [2])))⟩] ⟨0, .str "zero"⟩ [some (.int 1), some (rD a), some (.tuple [.int 0, .int 1]), none] [] = .rt (.bool true) [] := rfl
  simp [t__law_raises, e, hd]
/-! texts -/
omit [Wf] in
theorem str_int {i : Int} (h : sz 500 i) (S : Store) : bltD .str S [.int i] = some (.str (mk (zL i))) := by
  have := h.log
  show (if i.natAbs.log2 < 1920 then some (PyData.str (Str.ofString (toString i))) else none) = _
  rw [if_pos (by omega), tl_int]
omit [Wf] in
theorem add_mk {x y : List Nat} (h : x.length + y.length ≤ 1000000) (S : Store) : opB .add S (.str (mk x)) (.str (mk y)) = some (.str (mk (x ++ y))) := by
  rw [Mk.op_add_str, mk_len, mk_len, if_pos (lenOk_of h), mk_app]
omit [Wf] in
theorem zl_le {i : Int} (h : sz 500 i) : (zL i).length ≤ 501 := by
  have h1 : i.natAbs < 10 ^ 500 := Nat.lt_of_lt_of_le h (Nat.pow_le_pow_left (by decide) 500)
  have := numL_len (n := i.natAbs) (k := 500) (by decide) h1
  unfold zL
  split
  · simp; omega
  · omega
/-- the text of a fraction -/
abbrev qT (q : Rat) : List Nat := rtx q.num q.den
def qtT (v : Nat) : T := .ife (.cmp .eq (.sub (.var v) (.cst (.int 1))) (.cst (.int 1))) (.blt .str (.cons (.sub (.var v) (.cst (.int 0))) .nil)) (.bin .add (.bin .add (.blt .str (.cons (.sub (.var v) (.cst (.int 0))) .nil)) (.cst (.str "/"))) (.blt .str (.cons (.sub (.var v) (.cst (.int 1))) .nil)))
theorem qt_ev (n v : Nat) (q : Rat) (hq : Sz 500 q) (ρ : Mk.Env) (S : Store) (hv : eVar v ρ S = .ok (rD q) S) : (dn n (qtT v)).e ρ S = .ok (.str (mk (qT q))) S := by
  have e1 := str_int hq.1 S
  have e2 := str_int hq.2 S
  have l1 := zl_le hq.1
  have l2 := zl_le hq.2
  have a1 : opB .add S (.str (mk (zL q.num))) (.str (mk [47])) = some (.str (mk (zL q.num ++ [47]))) := add_mk (by simp; omega) S
  have a2 : opB .add S (.str (mk (zL q.num ++ [47]))) (.str (mk (zL (q.den : Int)))) = some (.str (mk (zL q.num ++ [47] ++ zL (q.den : Int)))) := add_mk (by simp; omega) S
  unfold qT rtx
  by_cases h : (q.den : Int) = 1
  · rw [if_pos h]
    simp [qtT, hv, e1, h]
  · rw [if_neg h]
    simp [qtT, hv, e1, e2, h, l_sl, a1, a2, -Mk.op_add_str]
theorem rtext_ok (n : Nat) (q : Rat) (hq : Sz 500 q) (S : Store) : callD (cf (n + 1)) 14 [rD q] S = .ok (.str (mk (qT q))) S := by
  refine call_rt (f := 14) (fn := f_ratio_text) (n := n) rfl rfl rfl (S' := []) ?_ rfl S
  show (dn n (.cons (.ret (qtT 0)) .nil)).s [some (rD q)] [] = _
  have e := qt_ev n 0 q hq [some (rD q)] [] rfl
  rw [den_cons, show (dn n (.ret (qtT 0))).s [some (rD q)] [] = _ from s_ret' ..]
  rw [e]; rfl
end Pk00

set_option Elab.async false
set_option linter.all false
set_option maxRecDepth 100000
set_option maxHeartbeats 1000000
/-! P00i: the law, its first half. -/
namespace Pk00
open PySem PySem.W L2 Mk Lk00 TL
variable [Wf]
/-! the drawn numbers -/
def sizeOf' (k : Int) : Int := if k = 0 then 3 else if k = 1 then 20 else if k = 2 then 1000 else 10 ^ 30
def num (d : Dw) : Int × Dw := (((d.rest 4).take (2 * sizeOf' (d.take 4) + 1)) - sizeOf' (d.take 4), (d.rest 4).rest (2 * sizeOf' (d.take 4) + 1))
omit [Wf] in
theorem size_ok (k : Int) : 0 < sizeOf' k ∧ sizeOf' k ≤ 10 ^ 30 := by
  unfold sizeOf'
  split
  · exact ⟨by decide, by decide⟩
  split
  · exact ⟨by decide, by decide⟩
  split
  · exact ⟨by decide, by decide⟩
  · exact ⟨by decide, Int.le_refl _⟩
omit [Wf] in
theorem num_sz (d : Dw) : sz 100 (num d).1 := by
  obtain ⟨h0, h1⟩ := size_ok (d.take 4)
  have h2 := (d.rest 4).take_pos (m := 2 * sizeOf' (d.take 4) + 1) (by omega)
  have h3 := (d.rest 4).take_lt (m := 2 * sizeOf' (d.take 4) + 1) (by omega)
  unfold sz num
  have h4 : (10 : Int) ^ 30 < 2 ^ 100 := by decide
  have h5 : (2 : Int) ^ 100 = ((2 ^ 100 : Nat) : Int) := by decide
  generalize (2 ^ 100 : Nat) = M at *
  generalize (10 : Int) ^ 30 = B at *
  dsimp only
  omega
theorem number_ok (n : Nat) (d : Dw) (rest : Store) (hb : rest.all (blwC (rest.length + 1)) = true) : callD (cf (n + 2)) 21 [cell 0] (d.cell :: rest) = .ok (.int (num d).1) ((num d).2.cell :: rest) := by
  have e1 := take_call (n := n) (wf := Wf.w) (G := md.G) (Φ := md.Φ) (f := 17) rfl d (m := 4) (by decide) (by decide) hb
  obtain ⟨h0, h1⟩ := size_ok (d.take 4)
  have hlog : (2 * sizeOf' (d.take 4) + 1).natAbs.log2 < 9000 := by
    have : sz 102 (2 * sizeOf' (d.take 4) + 1) := by
      unfold sz
      have h4 : (10 : Int) ^ 30 * 2 + 1 < 2 ^ 102 := by decide
      have h5 : (2 : Int) ^ 102 = ((2 ^ 102 : Nat) : Int) := by decide
      generalize (2 ^ 102 : Nat) = M at *
      generalize (10 : Int) ^ 30 = B at *
      omega
    have := this.log
    omega
  have e2 := take_callB (n := n) (wf := Wf.w) (G := md.G) (Φ := md.Φ) (f := 17) rfl (d.rest 4) (m := 2 * sizeOf' (d.take 4) + 1) (by omega) hlog hb
  have hp : ∀ S, opB .pow S (.int 10) (.int 30) = some (.int (10 ^ 30)) := fun S => rfl
  have hm : opB .mul ((d.rest 4).cell :: rest) (.int 2) (.int (sizeOf' (d.take 4))) = some (.int (2 * sizeOf' (d.take 4))) := by
    refine op_mul_int ?_
    have : sz 101 (sizeOf' (d.take 4)) := by
      unfold sz
      have h4 : (10 : Int) ^ 30 < 2 ^ 101 := by decide
      have h5 : (2 : Int) ^ 101 = ((2 ^ 101 : Nat) : Int) := by decide
      generalize (2 ^ 101 : Nat) = M at *
      generalize (10 : Int) ^ 30 = B at *
      omega
    have := this.log
    have : (2 : Int).natAbs.log2 = 1 := by decide
    omega
  have ha : atI [PyData.int 3, .int 20, .int 1000, .int (10 ^ 30)] (d.take 4) = some (.int (sizeOf' (d.take 4))) := by
    have g0 := d.take_pos (m := 4) (by decide)
    have g1 := d.take_lt (m := 4) (by decide)
    have : d.take 4 = 0 ∨ d.take 4 = 1 ∨ d.take 4 = 2 ∨ d.take 4 = 3 := by omega
    unfold sizeOf'
    rcases this with h | h | h | h <;> rw [h] <;> rfl
  have hb2 : ((num d).2.cell :: rest).take (d.cell :: rest).length = (num d).2.cell :: rest := by simp
  have := call_open (n := n + 1) (wf := Wf.w) (G := md.G) (Φ := md.Φ) (f := 21) (fn := f__law_number) (xs := [cell 0]) (S := d.cell :: rest) (S' := (num d).2.cell :: rest) (d := .int (num d).1) rfl rfl rfl rfl ?_ rfl (by simp) (by
    rw [hb2]
    simp only [List.length_cons, List.all_cons, Bool.and_eq_true]
    exact ⟨blw_dw _, hb⟩)
  · rw [hb2] at this
    exact this
  · show (dn (n + 1) t__law_number).s [some (cell 0), none] (d.cell :: rest) = _
    have e1' : callD (cf (n + 1)) 17 [cell 0, .int 4] (d.cell :: rest) = _ := e1
    have e2' : callD (cf (n + 1)) 17 [cell 0, .int (2 * sizeOf' (d.take 4) + 1)] ((d.rest 4).cell :: rest) = _ := e2
    unfold num
    generalize sizeOf' (d.take 4) = z at *
    generalize (10 : Int) ^ 30 = B at *
    simp [t__law_number, e1', e2', hp, hm, ha, setV]
/-! the law's environment -/
abbrev E (L : PyData) (n d e f : Int) (tu a b du to it le te at_ sg ot ex va vs dw dr : Option PyData) : Mk.Env := [some L, some (cell 0), some (.int n), some (.int d), some (.int e), some (.int f), tu, a, b, du, to, it, le, te, at_, sg, ot, ex, va, vs, dw, dr]
abbrev E0 (L : PyData) : Mk.Env := [some L, some (cell 0), none, none, none, none, none, none, none, none, none, none, none, none, none, none, none, none, none, none, none, none]
theorem c1_ok (L : PyData) (d0 : Dw) : ∃ v1 v2 v3 v4 d4, sz 100 v1 ∧ sz 100 v2 ∧ sz 100 v3 ∧ sz 100 v4 ∧ (dn 19 t_law_c1).e (E0 L) [d0.cell] = .ok (.list [.int v1, .int v2, .int v3, .int v4]) [Dw.cell d4] := by
  have hr : rngD (.int 0) (.int 4) = some (.rng 0 4) := rfl
  have c := comp_st (cf := cf 19) (wf := Wf.w) (G := md.G) (own := [6]) (p := .var 6) (it := .rng (.cst (.int 0)) (.cst (.int 4))) (c := .nil) (elt := .call 21 (.cons (.var 1) .nil)) (ρ := E0 L) (i := .rng 0 4) (fun d : Dw => [d.cell]) d0 (List.range 4) (fun k : Nat => .int (k : Int)) (fun _ d => num d) .int
    (by simp [hr]) (by simp) (fun k hk d => ⟨[some L, some (cell 0), none, none, none, none, some (.int (k : Int)), none, none, none, none, none, none, none, none, none, none, none, none, none, none, none], rfl, by simp, by
      have := number_ok 17 d [] rfl
      simp [this]⟩) (by simp)
  refine ⟨_, _, _, _, (num (num (num (num d0).2).2).2).2, num_sz d0, num_sz (num d0).2, num_sz (num (num d0).2).2, num_sz (num (num (num d0).2).2).2, c.trans ?_⟩
  rfl
theorem s2_ok (L : PyData) (d0 : Dw) : ∃ v1 v2 v3 v4 d4, sz 100 v1 ∧ sz 100 v2 ∧ sz 100 v3 ∧ sz 100 v4 ∧ (dn 19 t_law_s2).s (E0 L) [d0.cell] = .nx (E L v1 v2 v3 v4 none none none none none none none none none none none none none none none none) [Dw.cell d4] := by
  obtain ⟨v1, v2, v3, v4, d4, h1, h2, h3, h4, e⟩ := c1_ok L d0
  refine ⟨v1, v2, v3, v4, d4, h1, h2, h3, h4, ?_⟩
  show R.toS ((dn 19 t_law_c1).e (E0 L) [d0.cell]) _ _ = _
  rw [e]; rfl
def nz (x y : Int) : Int := if x = 0 then y else x
omit [Wf] in
theorem nz_ne {x y : Int} (h : y ≠ 0) : nz x y ≠ 0 := by unfold nz; split <;> assumption
theorem s3_ok (L : PyData) (n d e f : Int) (S : Store) : (dn 19 t_law_s3).s (E L n d e f none none none none none none none none none none none none none none none none) S = .nx (E L n (nz d 7) e (nz f (-2)) none none none none none none none none none none none none none none none none) S := by
  unfold nz
  by_cases h1 : d = 0
  · by_cases h2 : f = 0
    · simp [t_law_s3, h1, h2, setV]
    · simp [t_law_s3, h1, h2, setV]
  · by_cases h2 : f = 0
    · simp [t_law_s3, h1, h2, setV]
    · simp [t_law_s3, h1, h2, setV]
section
variable {n d e f : Int} (hd : d ≠ 0) (hf : f ≠ 0) (sd : sz 100 d) (sf : sz 100 f) (L : PyData) (S : Store)
include hd hf sd sf
theorem s4_ok : (dn 19 t_law_s4).s (E L n d e f none none none none none none none none none none none none none none none none) S = .nx (E L n d e f none (some (rD (Rat.divInt n d))) (some (rD (Rat.divInt e f))) none none none none none none none none none none none none none) S := by
  have e1 : ∀ S, callD (cf 19) 4 [.int n, .int d] S = _ := ratio_ok 16 (n := n) hd (sd.mono (by decide))
  have e2 : ∀ S, callD (cf 19) 4 [.int e, .int f] S = _ := ratio_ok 16 (n := e) hf (sf.mono (by decide))
  simp [t_law_s4, e1, e2, setV]
theorem s6_ok : (dn 19 t_law_s6).s (E L n d e f none (some (rD (Rat.divInt n d))) (some (rD (Rat.divInt e f))) none none none none none none none none none none none none none) S = .nx (E L n d e f none (some (rD (Rat.divInt n d))) (some (rD (Rat.divInt e f))) none none none none none none none none none none none none none) S := by
  have e1 : ∀ S, callD (cf 19) 20 [.int n, .int d] S = _ := low_ok 17 (n := n) hd (sd.mono (by decide))
  have e2 : ∀ S, callD (cf 19) 20 [.int e, .int f] S = _ := low_ok 17 (n := e) hf (sf.mono (by decide))
  have e3 : ∀ S, callD (cf 19) 22 [rD (Rat.divInt n d), rD (Rat.divInt n d)] S = _ := same_ok 18 _
  have e4 : ∀ S, callD (cf 19) 22 [rD (Rat.divInt e f), rD (Rat.divInt e f)] S = _ := same_ok 18 _
  simp [t_law_s6, e1, e2, e3, e4]
end
section
variable {a b : Rat} (ha : Sz 100 a) (hb : Sz 100 b) (L : PyData) (n d e f : Int) (S : Store)
omit [Wf] in
theorem dd_ne (a b : Rat) : (a.den : Int) * b.den ≠ 0 := Int.mul_ne_zero (den_ne a) (den_ne b)
abbrev dueL (a b : Rat) : PyData := .list [rD (a + b), rD (Rat.divInt (a.num * b.den - b.num * a.den) (a.den * b.den)), rD (Rat.divInt (a.num * b.num) (a.den * b.den))]
omit [Wf] in
theorem add_div (a b : Rat) : Rat.divInt (a.num * b.den + b.num * a.den) (a.den * b.den) = a + b := by
  rw [← Rat.divInt_add_divInt _ _ (den_ne a) (den_ne b), Rat.num_divInt_den, Rat.num_divInt_den]
include ha hb
theorem s7_ok : (dn 19 t_law_s7).s (E L n d e f none (some (rD a)) (some (rD b)) none none none none none none none none none none none none none) S = .nx (E L n d e f none (some (rD a)) (some (rD b)) (some (dueL a b)) none none none none none none none none none none none none) S := by
  have m1 : ∀ S, opB .mul S (.int a.num) (.int b.den) = _ := fun S => mul_s ha.1 hb.2 (by decide)
  have m2 : ∀ S, opB .mul S (.int b.num) (.int a.den) = _ := fun S => mul_s hb.1 ha.2 (by decide)
  have m3 : ∀ S, opB .mul S (.int a.den) (.int b.den) = _ := fun S => mul_s ha.2 hb.2 (by decide)
  have m4 : ∀ S, opB .mul S (.int a.num) (.int b.num) = _ := fun S => mul_s ha.1 hb.1 (by decide)
  have sD : sz 1000 ((a.den : Int) * b.den) := (ha.2.mul hb.2).mono (by decide)
  have e1 : ∀ S, callD (cf 19) 20 [.int (a.num * b.den + b.num * a.den), .int (a.den * b.den)] S = _ := low_ok 17 (dd_ne a b) sD
  have e2 : ∀ S, callD (cf 19) 20 [.int (a.num * b.den - b.num * a.den), .int (a.den * b.den)] S = _ := low_ok 17 (dd_ne a b) sD
  have e3 : ∀ S, callD (cf 19) 20 [.int (a.num * b.num), .int (a.den * b.den)] S = _ := low_ok 17 (dd_ne a b) sD
  rw [add_div] at e1
  simp [t_law_s7, m1, m2, m3, m4, e1, e2, e3, setV]
theorem l1_ok : ∃ x y, (dn 19 t_law_l1).s (E L n d e f none (some (rD a)) (some (rD b)) (some (dueL a b)) none none none none none none none none none none none none) S = .nx (E L n d e f none (some (rD a)) (some (rD b)) (some (dueL a b)) x y none none none none none none none none none none) S := by
  have e1 : ∀ S, callD (cf 19) 6 [rD a, rD b] S = _ := plus_ok 16 ha hb (by decide)
  have e2 : ∀ S, callD (cf 19) 7 [rD a, rD b] S = _ := minus_ok 16 ha hb (by decide)
  have e3 : ∀ S, callD (cf 19) 8 [rD a, rD b] S = _ := times_ok 16 ha hb (by decide)
  have e4 : ∀ q S, callD (cf 19) 22 [rD q, rD q] S = _ := same_ok 18
  have := for_all (cf := cf 19) (wf := Wf.w) (G := md.G) (p := .tup (.cons (.var 10) (.cons (.var 11) .nil))) (it := .zip (.lst (.cons (.call 6 (.cons (.var 7) (.cons (.var 8) .nil))) (.cons (.call 7 (.cons (.var 7) (.cons (.var 8) .nil))) (.cons (.call 8 (.cons (.var 7) (.cons (.var 8) .nil))) .nil)))) (.var 9)) (b := t_law_b1)
    (ρ := E L n d e f none (some (rD a)) (some (rD b)) (some (dueL a b)) none none none none none none none none none none none none) (S := S)
    (i := .zip (.seq [rD (a + b), rD (Rat.divInt (a.num * b.den - b.num * a.den) (a.den * b.den)), rD (Rat.divInt (a.num * b.num) (a.den * b.den))]) (.seq [rD (a + b), rD (Rat.divInt (a.num * b.den - b.num * a.den) (a.den * b.den)), rD (Rat.divInt (a.num * b.num) (a.den * b.den))]))
    (ds := [a + b, Rat.divInt (a.num * b.den - b.num * a.den) (a.den * b.den), Rat.divInt (a.num * b.num) (a.den * b.den)].map fun q => .tuple [rD q, rD q])
    (fun i ρ S' => S' = S ∧ ∃ x y, ρ = E L n d e f none (some (rD a)) (some (rD b)) (some (dueL a b)) x y none none none none none none none none none none)
    (by simp [e1, e2, e3]) (by intros; rfl) ⟨rfl, none, none, rfl⟩ ?_
  · obtain ⟨ρ', S', h, rfl, x, y, rfl⟩ := this
    exact ⟨x, y, h⟩
  · rintro i hi ρ S' ⟨rfl, x, y, rfl⟩
    rw [List.getElem_map]
    generalize [a + b, Rat.divInt (a.num * b.den - b.num * a.den) (a.den * b.den), Rat.divInt (a.num * b.num) (a.den * b.den)][i] = q
    refine ⟨E L n d e f none (some (rD a)) (some (rD b)) (some (dueL a b)) (some (rD q)) (some (rD q)) none none none none none none none none none none, E L n d e f none (some (rD a)) (some (rD b)) (some (dueL a b)) (some (rD q)) (some (rD q)) none none none none none none none none none none, S', rfl, .inl ?_, rfl, some (rD q), some (rD q), rfl⟩
    simp [t_law_b1, t_law_s9, e4]
end
end Pk00

set_option Elab.async false
set_option linter.all false
set_option maxRecDepth 100000
set_option maxHeartbeats 1000000
/-! P00j: the law, its second half. -/
namespace Pk00
open PySem PySem.W L2 Mk Lk00 TL
variable [Wf]
section
variable {a b : Rat} (ha : Sz 100 a) (hb : Sz 100 b) (L : PyData) (n d e f : Int) (to it : Option PyData) (S : Store)
include ha hb
theorem s11_ok : (dn 19 t_law_s11).s (E L n d e f none (some (rD a)) (some (rD b)) (some (dueL a b)) to it none none none none none none none none none none) S = .nx (E L n d e f none (some (rD a)) (some (rD b)) (some (dueL a b)) to it none none none none none none none none none none) S := by
  by_cases h0 : b.num = 0
  · simp [t_law_s11, h0]
  · have m1 : ∀ S, opB .mul S (.int a.num) (.int b.den) = _ := fun S => mul_s ha.1 hb.2 (by decide)
    have m2 : ∀ S, opB .mul S (.int a.den) (.int b.num) = _ := fun S => mul_s ha.2 hb.1 (by decide)
    have e1 : ∀ S, callD (cf 19) 9 [rD a, rD b] S = _ := over_ok 16 ha hb (by decide) h0
    have e2 : ∀ S, callD (cf 19) 20 [.int (a.num * b.den), .int (a.den * b.num)] S = _ := low_ok 17 (Int.mul_ne_zero (den_ne a) h0) ((ha.2.mul hb.1).mono (by decide))
    have e4 : ∀ q S, callD (cf 19) 22 [rD q, rD q] S = _ := same_ok 18
    simp [t_law_s11, h0, m1, m2, e1, e2, e4]
theorem s12_ok : (dn 19 t_law_s12).s (E L n d e f none (some (rD a)) (some (rD b)) (some (dueL a b)) to it none none none none none none none none none none) S = .nx (E L n d e f none (some (rD a)) (some (rD b)) (some (dueL a b)) to it (some (.bool (lessR a b))) none none none none none none none none none) S := by
  have m1 : ∀ S, opB .mul S (.int a.num) (.int b.den) = _ := fun S => mul_s ha.1 hb.2 (by decide)
  have m2 : ∀ S, opB .mul S (.int b.num) (.int a.den) = _ := fun S => mul_s hb.1 ha.2 (by decide)
  simp [t_law_s12, m1, m2, setV, lessR]
omit [Wf] ha hb in
theorem less_alt (a b : Rat) : (if lessR b a then b else a) = (if lessR a b then a else b) := by
  cases h1 : lessR a b with
  | true => rw [less_anti h1]; simp
  | false =>
    cases h2 : lessR b a with
    | true => simp
    | false => rw [less_tri h1 h2]
theorem s14_ok : (dn 19 t_law_s14).s (E L n d e f none (some (rD a)) (some (rD b)) (some (dueL a b)) to it (some (.bool (lessR a b))) none none none none none none none none none) S = .nx (E L n d e f none (some (rD a)) (some (rD b)) (some (dueL a b)) to it (some (.bool (lessR a b))) none none none none none none none none none) S := by
  have e1 : ∀ S, callD (cf 19) 10 [rD a, rD b] S = _ := below_ok 18 ha hb (by decide)
  have e2 : ∀ S, callD (cf 19) 12 [rD a, rD b] S = _ := lesser_ok 17 ha hb (by decide)
  have e3 : ∀ S, callD (cf 19) 13 [rD a, rD b] S = _ := greater_ok 17 ha hb (by decide)
  have e4 : ∀ b S, callD (cf 19) 18 [.bool b, .bool b] S = _ := says_ok 18
  rw [less_alt] at e2
  cases h : lessR a b with
  | true =>
    rw [h] at e1 e2 e3
    simp only [if_true] at e2 e3
    simp [t_law_s14, e1, e2, e3, e4, ne_ii]
  | false =>
    rw [h] at e1 e2 e3
    simp only [Bool.false_eq_true, if_false] at e2 e3
    simp [t_law_s14, e1, e2, e3, e4, ne_ii]
omit [Wf] ha hb in
theorem sz0 : Sz 1 (0 : Rat) := ⟨by unfold sz; decide, by unfold sz; decide⟩
theorem s16_ok (le : Option PyData) : (dn 19 t_law_s16).s (E L n d e f none (some (rD a)) (some (rD b)) (some (dueL a b)) to it le none none none none none none none none none) S = .nx (E L n d e f none (some (rD a)) (some (rD b)) (some (dueL a b)) to it le none none none none none none none none none) S := by
  have sab := ha.add hb
  have e1 : ∀ S, callD (cf 19) 6 [rD a, rD b] S = _ := plus_ok 16 ha hb (by decide)
  have e2 : ∀ S, callD (cf 19) 6 [rD (a + b), rD (a + b)] S = _ := plus_ok 16 sab sab (by decide)
  have e3 : ∀ S, callD (cf 19) 6 [rD (a + b + (a + b)), rD b] S = _ := plus_ok 16 (sab.add sab) hb (by decide)
  have hsum : sumR [a, b, a, b, b] = a + b + (a + b) + b := by
    show 0 + a + b + a + b + b = _
    rw [Rat.zero_add, Rat.add_assoc (a + b) a b]
  have e4 : ∀ S, callD (cf 19) 11 [.list ([a, b, a, b, b].map rD)] S = _ := total_ok 15 [a, b, a, b, b] (by simp) (fun i hi => by
    have hi : i < 5 := hi
    have t0 := sz0
    have t1 := t0.add ha
    have t2 := t1.add hb
    have t3 := t2.add ha
    have t4 := t3.add hb
    have : i = 0 ∨ i = 1 ∨ i = 2 ∨ i = 3 ∨ i = 4 := by omega
    rcases this with rfl | rfl | rfl | rfl | rfl
    · exact t0.mono (by decide)
    · exact t1.mono (by decide)
    · exact t2.mono (by decide)
    · exact t3.mono (by decide)
    · exact t4.mono (by decide)) (fun x hx => by
    simp only [List.mem_cons, List.not_mem_nil, or_false] at hx
    rcases hx with rfl | rfl | rfl | rfl | rfl
    · exact ha.mono (by decide)
    · exact hb.mono (by decide)
    · exact ha.mono (by decide)
    · exact hb.mono (by decide)
    · exact hb.mono (by decide)) _ (.inl rfl)
  rw [hsum] at e4
  have e4' : ∀ S, callD (cf 19) 11 [.list [rD a, rD b, rD a, rD b, rD b]] S = .ok (rD (a + b + (a + b) + b)) S := e4
  have e5 : ∀ S, callD (cf 19) 11 [.tuple []] S = .ok (.tuple [.int 0, .int 1]) S := total_ok 15 [] (by simp) (fun i hi => by simp at hi) (fun x hx => by cases hx) _ (.inr rfl)
  have e6 : ∀ q S, callD (cf 19) 22 [rD q, rD q] S = _ := same_ok 18
  simp [t_law_s16, e1, e2, e3, e4', e5, e6, ne_ii]
end
section
variable {a : Rat} (ha : Sz 100 a) (L : PyData) (n d e f : Int) (B du to it le : Option PyData)
include ha
theorem s17_ok (S : Store) : (dn 19 t_law_s17).s (E L n d e f none (some (rD a)) B du to it le none none none none none none none none none) S = .nx (E L n d e f none (some (rD a)) B du to it le (some (.str (mk (qT a)))) none none none none none none none none) S := by
  have e1 := qt_ev 19 7 a (ha.mono (by decide)) (E L n d e f none (some (rD a)) B du to it le none none none none none none none none none) S rfl
  show R.toS ((dn 19 (qtT 7)).e (E L n d e f none (some (rD a)) B du to it le none none none none none none none none none) S) _ _ = _
  rw [e1]; rfl
omit [Wf] ha in
theorem p40 : (2 : Nat) ^ 100 < 10 ^ 40 := by decide
omit [Wf] in
theorem lt40 : a.num.natAbs < 10 ^ 40 ∧ (a.den : Int).natAbs < 10 ^ 40 := ⟨Nat.lt_trans ha.1 p40, Nat.lt_trans ha.2 p40⟩
omit [Wf] ha in
theorem z_le {i : Int} (h : i.natAbs < 10 ^ 40) : (zL i).length ≤ 41 := by
  have := numL_len (n := i.natAbs) (k := 40) (by decide) h
  unfold zL
  split
  · simp; omega
  · omega
omit [Wf] in
theorem q_le : (qT a).length ≤ 83 := by
  obtain ⟨h1, h2⟩ := lt40 ha
  have l1 := z_le h1
  have l2 := z_le h2
  unfold qT rtx
  split
  · omega
  · simp; omega
omit [Wf] in
theorem due_q : due (qT a) = some (a.num, (a.den : Int)) := by
  obtain ⟨h1, h2⟩ := lt40 ha
  have h3 : (10 : Nat) ^ 40 ≤ 10 ^ 200 := Nat.pow_le_pow_right (by decide) (by decide)
  exact due_rtx (den_pos a) (rat_red a) (Nat.lt_of_lt_of_le h1 h3) (Nat.lt_of_lt_of_le h2 h3)
theorem s19_ok (S : Store) : (dn 19 t_law_s19).s (E L n d e f none (some (rD a)) B du to it le (some (.str (mk (qT a)))) none none none none none none none none) S = .nx (E L n d e f none (some (rD a)) B du to it le (some (.str (mk (qT a)))) none none none none none none none none) S := by
  have e1 : ∀ S, callD (cf 19) 14 [rD a] S = _ := rtext_ok 18 a (ha.mono (by decide))
  have e2 : ∀ S, callD (cf 19) 25 [.str (mk (qT a))] S = _ := reads_ok 15 (qT a) (Nat.le_trans (q_le ha) (by decide))
  rw [due_q ha] at e2
  have e2' : ∀ S, callD (cf 19) 25 [.str (mk (qT a))] S = .ok (rD a) S := e2
  have e3 : ∀ S, cmpD .ne S (.str (mk (qT a))) (.str (mk (qT a))) = some false := fun S => by rw [ne_mk]; simp
  generalize qT a = T at *
  simp [t_law_s19, e1, e2', e3, ne_ii]
end
/-! the bent texts -/
section
variable (T : List Nat) (hT : T.length ≤ 83) (L : PyData) (n d e f : Int) (A B du to it le : Option PyData)
include hT
theorem s20_ok (w : Dw) : ∃ t w', (dn 19 t_law_s20).s (E L n d e f none A B du to it le (some (.str (mk T))) none none none none none none none none) [w.cell] = .nx (E L n d e f none A B du to it le (some (.str (mk T))) (some (.int t)) none none none none none none none) [Dw.cell w'] := by
  have e1 := take_call (n := 18) (wf := Wf.w) (G := md.G) (Φ := md.Φ) (f := 17) rfl w (m := (T.length : Int) + 1) (by omega) (by omega) (rest := []) rfl
  have e1' : callD (cf 19) 17 [cell 0, .int ((T.length : Int) + 1)] [w.cell] = _ := e1
  refine ⟨w.take ((T.length : Int) + 1), w.rest ((T.length : Int) + 1), ?_⟩
  have hl := len_mk T (by omega) [w.cell]
  simp [t_law_s20, hl, e1', setV]
omit hT in
theorem s21_ok (w : Dw) (t : Option PyData) : ∃ c w', (dn 19 t_law_s21).s (E L n d e f none A B du to it le (some (.str (mk T))) t none none none none none none none) [w.cell] = .nx (E L n d e f none A B du to it le (some (.str (mk T))) t (some (.str (mk [c]))) none none none none none none) [Dw.cell w'] := by
  have e1 := take_call (n := 18) (wf := Wf.w) (G := md.G) (Φ := md.Φ) (f := 17) rfl w (m := 15) (by omega) (by omega) (rest := []) rfl
  have e1' : callD (cf 19) 17 [cell 0, .int 15] [w.cell] = _ := e1
  have hsg : (Str.ofString "0123456789/- +.") = mk [48, 49, 50, 51, 52, 53, 54, 55, 56, 57, 47, 45, 32, 43, 46] := str_lit rfl
  have h0 := w.take_pos (m := 15) (by decide)
  have h1 := w.take_lt (m := 15) (by decide)
  obtain ⟨k, hk⟩ : ∃ k : Nat, w.take 15 = (k : Int) := ⟨(w.take 15).toNat, by omega⟩
  have hk2 : k < 15 := by omega
  have hs : ∀ S, subD S (.str (mk [48, 49, 50, 51, 52, 53, 54, 55, 56, 57, 47, 45, 32, 43, 46])) (.int (w.take 15)) = some (.str (mk [[48, 49, 50, 51, 52, 53, 54, 55, 56, 57, 47, 45, 32, 43, 46].getD k 0])) := fun S => by
    show (if lenOk (mk [48, 49, 50, 51, 52, 53, 54, 55, 56, 57, 47, 45, 32, 43, 46]).length then _ else none) = _
    rw [if_pos (lenOk_of (by rw [mk_len]; decide)), hk]
    show (atI [48, 49, 50, 51, 52, 53, 54, 55, 56, 57, 47, 45, 32, 43, 46] (k : Int)).map _ = _
    rw [Mk.atI_nat (by simpa using hk2), List.getD_eq_getElem?_getD, List.getElem?_eq_getElem (by simpa using hk2)]
    rfl
  refine ⟨[48, 49, 50, 51, 52, 53, 54, 55, 56, 57, 47, 45, 32, 43, 46].getD k 0, w.rest 15, ?_⟩
  simp only [t_law_s21, hsg]
  simp [e1', hs, setV]
omit [Wf] hT in
theorem slc_any (l : List Nat) (h : l.length ≤ 640) (lo hi : Option Int) : ∃ m : List Nat, m.length ≤ l.length ∧ ∀ S, slcD S (.str (mk l)) lo hi = some (.str (mk m)) := by
  refine ⟨tl (cutS (mk l) lo hi), ?_, fun S => ?_⟩
  · have := cutS_length (mk l) lo hi
    rw [mk_len] at this
    rw [← len_tl]; exact this
  · show (if lenOk (mk l).length then some (PyData.str (cutS (mk l) lo hi)) else none) = _
    rw [if_pos (lenOk_of (by rw [mk_len]; omega)), ← mk_of]
theorem b2_ok (l : List Nat) (hl : l.length ≤ 200) (t sg ex : Option PyData) (S : Store) : (dn 19 t_law_b2).s (E L n d e f none A B du to it le (some (.str (mk T))) t sg (some (.str (mk l))) ex none none none none) S = .nx (E L n d e f none A B du to it le (some (.str (mk T))) t sg (some (.str (mk l))) (some (oD (due l))) none none none none) S := by
  have e1 : ∀ S, callD (cf 19) 24 [.str (mk l)] S = _ := due_ok 17 l hl
  have e2 : ∀ S, callD (cf 19) 25 [.str (mk l)] S = _ := reads_ok 15 l hl
  cases hd : due l with
  | none =>
    rw [hd] at e1 e2
    have e1 : ∀ S, callD (cf 19) 24 [.str (mk l)] S = .ok .none S := e1
    have e2 : ∀ S, callD (cf 19) 25 [.str (mk l)] S = .ok atD S := e2
    simp [t_law_b2, t_law_s22, t_law_s24, e1, e2, ne_at, setV, oD]
  | some pq =>
    obtain ⟨p, q⟩ := pq
    rw [hd] at e1 e2
    have e1 : ∀ S, callD (cf 19) 24 [.str (mk l)] S = .ok (.tuple [.int p, .int q]) S := e1
    have e2 : ∀ S, callD (cf 19) 25 [.str (mk l)] S = .ok (.tuple [.int p, .int q]) S := e2
    simp [t_law_b2, t_law_s22, t_law_s24, e1, e2, ne_ii, setV, oD]
omit [Wf] hT in
theorem l_sp : (Str.ofString " ") = mk [32] := str_lit rfl
omit [Wf] hT in
theorem l_s1 : (Str.ofString "/1") = mk [47, 49] := str_lit rfl
omit [Wf] hT in
theorem l_s0 : (Str.ofString "/0") = mk [47, 48] := str_lit rfl
theorem l2_ok (t : Int) (c : Nat) (S : Store) : ∃ x y, (dn 19 t_law_l2).s (E L n d e f none A B du to it le (some (.str (mk T))) (some (.int t)) (some (.str (mk [c]))) none none none none none none) S = .nx (E L n d e f none A B du to it le (some (.str (mk T))) (some (.int t)) (some (.str (mk [c]))) x y none none none none) S := by
  obtain ⟨p, hp, sp⟩ := slc_any T (by omega) none (some t)
  obtain ⟨q, hq, sq⟩ := slc_any T (by omega) (some t) none
  obtain ⟨r, hr, sr⟩ := slc_any T (by omega) (some (t + 1)) none
  have a1 : ∀ S, opB .add S (.str (mk p)) (.str (mk [c])) = _ := add_mk (by simp; omega)
  have a2 : ∀ S, opB .add S (.str (mk (p ++ [c]))) (.str (mk q)) = _ := add_mk (by simp; omega)
  have a3 : ∀ S, opB .add S (.str (mk p)) (.str (mk r)) = _ := add_mk (by omega)
  have a4 : ∀ S, opB .add S (.str (mk T)) (.str (mk [47, 49])) = _ := add_mk (by simp; omega)
  have a5 : ∀ S, opB .add S (.str (mk [47])) (.str (mk T)) = _ := add_mk (by simp; omega)
  have a6 : ∀ S, opB .add S (.str (mk [45])) (.str (mk T)) = _ := add_mk (by simp; omega)
  have a7 : ∀ S, opB .add S (.str (mk [32])) (.str (mk T)) = _ := add_mk (by simp; omega)
  have a8 : ∀ S, opB .add S (.str (mk [48])) (.str (mk T)) = _ := add_mk (by simp; omega)
  have a9 : ∀ S, opB .add S (.str (mk T)) (.str (mk [47, 48])) = _ := add_mk (by simp; omega)
  have hall : ∀ m ∈ [p ++ [c] ++ q, p ++ r, T ++ [47, 49], [47] ++ T, [45] ++ T, [], [32] ++ T, [48] ++ T, T ++ [47, 48]], m.length ≤ 200 := by
    intro m hm
    simp only [List.mem_cons, List.not_mem_nil, or_false] at hm
    rcases hm with rfl | rfl | rfl | rfl | rfl | rfl | rfl | rfl | rfl <;> simp only [List.length_append, List.length_cons, List.length_nil] <;> omega
  have hit : (dn 19 (.lst (.cons (.bin .add (.bin .add (.slc (.var 13) .nil (.var 14)) (.var 15)) (.slc (.var 13) (.var 14) .nil)) (.cons (.bin .add (.slc (.var 13) .nil (.var 14)) (.slc (.var 13) (.bin .add (.var 14) (.cst (.int 1))) .nil)) (.cons (.bin .add (.var 13) (.cst (.str "/1"))) (.cons (.bin .add (.cst (.str "/")) (.var 13)) (.cons (.bin .add (.cst (.str "-")) (.var 13)) (.cons (.cst (.str "")) (.cons (.bin .add (.cst (.str " ")) (.var 13)) (.cons (.bin .add (.cst (.str "0")) (.var 13)) (.cons (.bin .add (.var 13) (.cst (.str "/0"))) .nil))))))))))).it (E L n d e f none A B du to it le (some (.str (mk T))) (some (.int t)) (some (.str (mk [c]))) none none none none none none) S
      = .ok (.seq ([p ++ [c] ++ q, p ++ r, T ++ [47, 49], [47] ++ T, [45] ++ T, [], [32] ++ T, [48] ++ T, T ++ [47, 48]].map fun m => .str (mk m))) S := by
    simp only [l_s1, l_s0, l_sl, l_min, l_e, l_sp, l_0]
    simp [sp, sq, sr, a1, a2, a3, a4, a5, a6, a7, a8, a9, -Mk.op_add_str]
  have := for_all (cf := cf 19) (wf := Wf.w) (G := md.G) (p := .var 16) (b := t_law_b2) (ds := [p ++ [c] ++ q, p ++ r, T ++ [47, 49], [47] ++ T, [45] ++ T, [], [32] ++ T, [48] ++ T, T ++ [47, 48]].map fun m => .str (mk m))
    (fun i ρ S' => S' = S ∧ ∃ x y, ρ = E L n d e f none A B du to it le (some (.str (mk T))) (some (.int t)) (some (.str (mk [c]))) x y none none none none) hit (by intros; rfl) ⟨rfl, none, none, rfl⟩ ?_
  · obtain ⟨ρ', S', h, rfl, x, y, rfl⟩ := this
    exact ⟨x, y, h⟩
  · rintro i hi ρ S' ⟨rfl, x, y, rfl⟩
    rw [List.getElem_map]
    have hm := hall _ (List.getElem_mem (by simpa using hi : i < [p ++ [c] ++ q, p ++ r, T ++ [47, 49], [47] ++ T, [45] ++ T, [], [32] ++ T, [48] ++ T, T ++ [47, 48]].length))
    generalize [p ++ [c] ++ q, p ++ r, T ++ [47, 49], [47] ++ T, [45] ++ T, [], [32] ++ T, [48] ++ T, T ++ [47, 48]][i] = m at *
    have eb := b2_ok T hT L n d e f A B du to it le m hm (some (.int t)) (some (.str (mk [c]))) y S'
    exact ⟨E L n d e f none A B du to it le (some (.str (mk T))) (some (.int t)) (some (.str (mk [c]))) (some (.str (mk m))) y none none none none, _, S', rfl, .inl eb, rfl, _, _, rfl⟩
end
end Pk00

set_option Elab.async false
set_option linter.all false
set_option maxRecDepth 100000
set_option maxHeartbeats 1000000
/-! P00k: the law, its end. -/
namespace Pk00
open PySem PySem.W L2 Mk Lk00 TL
variable [Wf]
section
variable (L : PyData) (n d e f : Int) (A B du to it le te at_ sg ot ex : Option PyData) (S : Store)
theorem l3_ok : ∃ x, (dn 19 t_law_l3).s (E L n d e f none A B du to it le te at_ sg ot ex none none none none) S = .nx (E L n d e f none A B du to it le te at_ sg ot ex x none none none) S := by
  have hN : ∀ v ∈ [PyData.none, .int 5, .tuple [.int 1, .int 2], .list [.str "1"], .bool true], clD v = true ∧ ∀ s, v ≠ .str s := by
    intro v hv
    simp only [List.mem_cons, List.not_mem_nil, or_false] at hv
    rcases hv with rfl | rfl | rfl | rfl | rfl <;> exact ⟨rfl, fun s z => by cases z⟩
  have := for_all (cf := cf 19) (wf := Wf.w) (G := md.G) (p := .var 18) (it := .lst (.cons (.cst .none) (.cons (.cst (.int 5)) (.cons (.tup (.cons (.cst (.int 1)) (.cons (.cst (.int 2)) .nil))) (.cons (.lst (.cons (.cst (.str "1")) .nil)) (.cons (.cst (.bool true)) .nil)))))) (b := t_law_b3) (ρ := E L n d e f none A B du to it le te at_ sg ot ex none none none none) (S := S)
    (i := .seq [PyData.none, .int 5, .tuple [.int 1, .int 2], .list [.str "1"], .bool true]) (ds := [PyData.none, .int 5, .tuple [.int 1, .int 2], .list [.str "1"], .bool true])
    (fun i ρ S' => S' = S ∧ ∃ x, ρ = E L n d e f none A B du to it le te at_ sg ot ex x none none none) (by simp) (by intros; rfl) ⟨rfl, none, rfl⟩ ?_
  · obtain ⟨ρ', S', h, rfl, x, rfl⟩ := this
    exact ⟨x, h⟩
  · rintro i hi ρ S' ⟨rfl, x, rfl⟩
    obtain ⟨h1, h2⟩ := hN _ (List.getElem_mem hi)
    generalize [PyData.none, .int 5, .tuple [.int 1, .int 2], .list [.str "1"], .bool true][i] = v at *
    have e1 : ∀ S, callD (cf 19) 25 [v] S = _ := reads_no 17 v h1 h2
    refine ⟨E L n d e f none A B du to it le te at_ sg ot ex (some v) none none none, E L n d e f none A B du to it le te at_ sg ot ex (some v) none none none, S', rfl, .inl ?_, rfl, some v, rfl⟩
    simp [t_law_b3, t_law_s26, e1, ne_at]
end
/-! the values -/
theorem isr_bool (k : Nat) (S : Store) : callD (cf (k + 2)) 5 [.tuple [.bool true, .int 1]] S = .ok (.bool false) S := by
  refine call_rt (f := 5) (fn := f_is_ratio) (n := k + 1) rfl rfl rfl (S' := []) ?_ rfl S
  show (dn (k + 1) t_is_ratio).s [some (.tuple [.bool true, .int 1])] [] = _
  have e1 := whole_ok k (.bool true) rfl []
  simp [t_is_ratio, e1, isW]
theorem isr_three (k : Nat) (S : Store) : callD (cf (k + 2)) 5 [.tuple [.int 1, .int 2, .int 3]] S = .ok (.bool false) S := by
  refine call_rt (f := 5) (fn := f_is_ratio) (n := k + 1) rfl rfl rfl (S' := []) ?_ rfl S
  show (dn (k + 1) t_is_ratio).s [some (.tuple [.int 1, .int 2, .int 3])] [] = _
  simp [t_is_ratio]
abbrev tri (v : PyData) (p q : Bool) : PyData := .tuple [v, .bool p, .bool q]
abbrev vsA (n : Int) (a : Rat) : List PyData := [tri (.int n) true false, tri (.bool true) false false, tri (.str "1") false false, tri (rD a) false true, tri (.tuple [.int 2, .int 4]) false false, tri (.tuple [.int 1, .int (-2)]) false false]
abbrev vsB : List PyData := [tri (.tuple [.int 0, .int 1]) false true, tri (.tuple [.int 0, .int 2]) false false, tri (.list [.int 1, .int 2]) false false, tri (.tuple [.bool true, .int 1]) false false, tri (.tuple [.int 1, .int 2, .int 3]) false false]
abbrev vsC (n : Int) (a : Rat) : List (PyData × Bool × Bool) := [(.int n, true, false), (.bool true, false, false), (.str "1", false, false), (rD a, false, true), (.tuple [.int 2, .int 4], false, false), (.tuple [.int 1, .int (-2)], false, false), (.tuple [.int 0, .int 1], false, true), (.tuple [.int 0, .int 2], false, false), (.list [.int 1, .int 2], false, false), (.tuple [.bool true, .int 1], false, false), (.tuple [.int 1, .int 2, .int 3], false, false), (.none, false, false)]
omit [Wf] in
theorem s1000' {i : Int} (h : i.natAbs < 2 ^ 10) : sz 1000 i := sz.mono (j := 10) h (by decide)
theorem vs_ok {n : Int} {a : Rat} (ha : Sz 100 a) : ∀ t ∈ vsC n a, (∀ S, callD (cf 19) 0 [t.1] S = .ok (.bool t.2.1) S) ∧ (∀ S, callD (cf 19) 5 [t.1] S = .ok (.bool t.2.2) S) := by
  intro t ht
  simp only [vsC, List.mem_cons, List.not_mem_nil, or_false] at ht
  rcases ht with rfl | rfl | rfl | rfl | rfl | rfl | rfl | rfl | rfl | rfl | rfl | rfl
  · exact ⟨whole_ok 18 _ rfl, isr_no 17 _ rfl (fun ds z => by cases z)⟩
  · exact ⟨whole_ok 18 _ rfl, isr_no 17 _ rfl (fun ds z => by cases z)⟩
  · exact ⟨whole_ok 18 _ rfl, isr_no 17 _ rfl (fun ds z => by cases z)⟩
  · refine ⟨whole_ok 18 _ rfl, fun S => ?_⟩
    have := isr_int 17 a.num a.den (ha.2.mono (by decide)) S
    have h : isR (rD a) = true := by
      simp only [isR, Bool.and_eq_true, decide_eq_true_eq]
      exact ⟨den_pos a, rat_red a⟩
    rw [h] at this
    exact this
  · exact ⟨whole_ok 18 _ rfl, fun S => (isr_int 17 2 4 (s1000' (by decide)) S).trans (by rw [show isR (.tuple [.int 2, .int 4]) = false from by decide])⟩
  · exact ⟨whole_ok 18 _ rfl, fun S => (isr_int 17 1 (-2) (s1000' (by decide)) S).trans (by rw [show isR (.tuple [.int 1, .int (-2)]) = false from by decide])⟩
  · exact ⟨whole_ok 18 _ rfl, fun S => (isr_int 17 0 1 (s1000' (by decide)) S).trans (by rw [show isR (.tuple [.int 0, .int 1]) = true from by decide])⟩
  · exact ⟨whole_ok 18 _ rfl, fun S => (isr_int 17 0 2 (s1000' (by decide)) S).trans (by rw [show isR (.tuple [.int 0, .int 2]) = false from by decide])⟩
  · exact ⟨whole_ok 18 _ rfl, isr_no 17 _ rfl (fun ds z => by cases z)⟩
  · exact ⟨whole_ok 18 _ rfl, isr_bool 17⟩
  · exact ⟨whole_ok 18 _ rfl, isr_three 17⟩
  · exact ⟨whole_ok 18 _ rfl, isr_no 17 _ rfl (fun ds z => by cases z)⟩
section
variable {a : Rat} (ha : Sz 100 a) (L : PyData) (n d e f : Int) (B du to it le te at_ sg ot ex va : Option PyData) (S : Store)
theorem s27_ok : (dn 19 t_law_s27).s (E L n d e f none (some (rD a)) B du to it le te at_ sg ot ex va none none none) S = .nx (E L n d e f none (some (rD a)) B du to it le te at_ sg ot ex va (some (.list (vsA n a))) none none) S := by
  simp [t_law_s27, setV]
theorem s28_ok : (dn 19 t_law_s28).s (E L n d e f none (some (rD a)) B du to it le te at_ sg ot ex va (some (.list (vsA n a))) none none) S = .nx (E L n d e f none (some (rD a)) B du to it le te at_ sg ot ex va (some (.list (vsA n a ++ vsB))) none none) S := by
  simp [t_law_s28, setV]
include ha in
theorem l4_ok : ∃ x p q, (dn 19 t_law_l4).s (E L n d e f none (some (rD a)) B du to it le te at_ sg ot ex va (some (.list (vsA n a ++ vsB))) none none) S = .nx (E L n d e f none (some (rD a)) B du to it le te at_ sg ot ex x (some (.list (vsA n a ++ vsB))) p q) S := by
  have hv := vs_ok (n := n) ha
  have := for_all (cf := cf 19) (wf := Wf.w) (G := md.G) (p := .tup (.cons (.var 18) (.cons (.var 20) (.cons (.var 21) .nil)))) (it := .bin .add (.var 19) (.lst (.cons (.tup (.cons (.cst .none) (.cons (.cst (.bool false)) (.cons (.cst (.bool false)) .nil)))) .nil))) (b := t_law_b4) (ρ := E L n d e f none (some (rD a)) B du to it le te at_ sg ot ex va (some (.list (vsA n a ++ vsB))) none none) (S := S)
    (i := .seq ((vsC n a).map fun t => tri t.1 t.2.1 t.2.2)) (ds := (vsC n a).map fun t => tri t.1 t.2.1 t.2.2)
    (fun i ρ S' => S' = S ∧ ∃ x p q, ρ = E L n d e f none (some (rD a)) B du to it le te at_ sg ot ex x (some (.list (vsA n a ++ vsB))) p q) (by simp) (by intros; rfl) ⟨rfl, va, none, none, rfl⟩ ?_
  · obtain ⟨ρ', S', h, rfl, x, p, q, rfl⟩ := this
    exact ⟨x, p, q, h⟩
  · rintro i hi ρ S' ⟨rfl, x, p, q, rfl⟩
    rw [List.getElem_map]
    have hm : (vsC n a)[i]'(by simpa using hi) ∈ vsC n a := List.getElem_mem _
    obtain ⟨h1, h2⟩ := hv _ hm
    generalize (vsC n a)[i]'(by simpa using hi) = t at *
    obtain ⟨v, w, r⟩ := t
    dsimp only at h1 h2 ⊢
    have e1 : ∀ b S, callD (cf 19) 18 [.bool b, .bool b] S = _ := says_ok 18
    refine ⟨E L n d e f none (some (rD a)) B du to it le te at_ sg ot ex (some v) (some (.list (vsA n a ++ vsB))) (some (.bool w)) (some (.bool r)), E L n d e f none (some (rD a)) B du to it le te at_ sg ot ex (some v) (some (.list (vsA n a ++ vsB))) (some (.bool w)) (some (.bool r)), S', rfl, .inl ?_, rfl, some v, some (.bool w), some (.bool r), rfl⟩
    generalize vsA n a ++ vsB = V
    simp [t_law_b4, t_law_s30, h1, h2, e1]
theorem s32_ok (hn : sz 100 n) (vs p q : Option PyData) : (dn 19 t_law_s32).s (E L n d e f none (some (rD a)) B du to it le te at_ sg ot ex va vs p q) S = .nx (E L n d e f none (some (rD a)) B du to it le te at_ sg ot ex va vs p q) S := by
  have h1 : ∀ S, bltD .str S [.int n] = _ := str_int (hn.mono (by decide))
  have hl : (zL n).length ≤ 41 := z_le (Nat.lt_trans hn p40)
  have e1 : ∀ S, callD (cf 19) 1 [.str (mk (zL n))] S = _ := whole_read 18 (by omega) (zL_whole n)
  have h3 : (10 : Nat) ^ 40 ≤ 10 ^ 200 := Nat.pow_le_pow_right (by decide) (by decide)
  rw [zL_val (Nat.lt_of_lt_of_le (Nat.lt_trans hn p40) h3)] at e1
  simp [t_law_s32, h1, e1]
theorem s33_ok (vs p q : Option PyData) : (dn 19 t_law_s33).s (E L n d e f none (some (rD a)) B du to it le te at_ sg ot ex va vs p q) S = .rt (.bool true) S := by
  have e1 : ∀ S, callD (cf 19) 26 [.int 0, .int n, .int 0] S = _ := raises0 16 (.int n) (.int 0) rfl rfl (.inr (.inr rfl))
  have e2 : ∀ S, callD (cf 19) 26 [.int 0, .bool true, .int 2] S = _ := raises0 16 _ _ rfl rfl (.inl rfl)
  have e3 : ∀ S, callD (cf 19) 26 [.int 0, .str "1", .int 2] S = _ := raises0 16 _ _ rfl rfl (.inl rfl)
  have e4 : ∀ S, callD (cf 19) 26 [.int 0, .int 1, .none] S = _ := raises0 16 _ _ rfl rfl (.inr (.inl rfl))
  have e5 : ∀ S, callD (cf 19) 26 [.int 1, rD a, .tuple [.int 0, .int 1]] S = _ := raises1 17 a
  simp [t_law_s33, e1, e2, e3, e4, e5]
end
theorem law_true (ns : List Int) (hl : ns.length ≤ 63) : callN md.Φ Wf.w md.G 20 27 [lk (ns.map .int)] [] = .ok (.bool true) [] := by
  generalize hL : lk (ns.map .int) = L
  obtain ⟨d0, e1⟩ := draw_start (Φ := md.Φ) (wf := Wf.w) (G := md.G) (n := 18) (f := 16) rfl hl
  rw [hL] at e1
  have e1' : callD (cf 19) 16 [L] [] = .ok (cell 0) [d0.cell] := e1
  have es1 : (dn 19 t_law_s1).s (startE 1 22 [L]) [] = .nx (E0 L) [d0.cell] := by
    show R.toS (callD (cf 19) 16 [L] []) _ _ = _
    rw [e1']; rfl
  obtain ⟨n, d', e, f', d1, sn, sd', se, sf', es2⟩ := s2_ok L d0
  have es3 := s3_ok L n d' e f' [d1.cell]
  have hd : nz d' 7 ≠ 0 := nz_ne (by decide)
  have hf : nz f' (-2) ≠ 0 := nz_ne (by decide)
  have sd : sz 100 (nz d' 7) := by
    unfold nz; split
    · exact sz.mono (j := 3) (by unfold sz; decide) (by decide)
    · exact sd'
  have sf : sz 100 (nz f' (-2)) := by
    unfold nz; split
    · exact sz.mono (j := 3) (by unfold sz; decide) (by decide)
    · exact sf'
  generalize nz d' 7 = d at *
  generalize nz f' (-2) = f at *
  have es4 := s4_ok (n := n) (e := e) hd hf sd sf L [d1.cell]
  have es6 := s6_ok (n := n) (e := e) hd hf sd sf L [d1.cell]
  have ha : Sz 100 (Rat.divInt n d) := Sz.div hd sn sd
  have hb : Sz 100 (Rat.divInt e f) := Sz.div hf se sf
  generalize Rat.divInt n d = a at *
  generalize Rat.divInt e f = b at *
  have es7 := s7_ok ha hb L n d e f [d1.cell]
  obtain ⟨x1, y1, el1⟩ := l1_ok ha hb L n d e f [d1.cell]
  have es11 := s11_ok ha hb L n d e f x1 y1 [d1.cell]
  have es12 := s12_ok ha hb L n d e f x1 y1 [d1.cell]
  have es14 := s14_ok ha hb L n d e f x1 y1 [d1.cell]
  have es16 := s16_ok ha hb L n d e f x1 y1 [d1.cell] (some (.bool (lessR a b)))
  have es17 := s17_ok ha L n d e f (some (rD b)) (some (dueL a b)) x1 y1 (some (.bool (lessR a b))) [d1.cell]
  have es19 := s19_ok ha L n d e f (some (rD b)) (some (dueL a b)) x1 y1 (some (.bool (lessR a b))) [d1.cell]
  have hT := q_le ha
  obtain ⟨t, d2, es20⟩ := s20_ok (qT a) hT L n d e f (some (rD a)) (some (rD b)) (some (dueL a b)) x1 y1 (some (.bool (lessR a b))) d1
  obtain ⟨c, d3, es21⟩ := s21_ok (qT a) L n d e f (some (rD a)) (some (rD b)) (some (dueL a b)) x1 y1 (some (.bool (lessR a b))) d2 (some (.int t))
  obtain ⟨x2, y2, el2⟩ := l2_ok (qT a) hT L n d e f (some (rD a)) (some (rD b)) (some (dueL a b)) x1 y1 (some (.bool (lessR a b))) t c [d3.cell]
  obtain ⟨x3, el3⟩ := l3_ok L n d e f (some (rD a)) (some (rD b)) (some (dueL a b)) x1 y1 (some (.bool (lessR a b))) (some (.str (mk (qT a)))) (some (.int t)) (some (.str (mk [c]))) x2 y2 [d3.cell]
  have es27 := s27_ok (a := a) L n d e f (some (rD b)) (some (dueL a b)) x1 y1 (some (.bool (lessR a b))) (some (.str (mk (qT a)))) (some (.int t)) (some (.str (mk [c]))) x2 y2 x3 [d3.cell]
  have es28 := s28_ok (a := a) L n d e f (some (rD b)) (some (dueL a b)) x1 y1 (some (.bool (lessR a b))) (some (.str (mk (qT a)))) (some (.int t)) (some (.str (mk [c]))) x2 y2 x3 [d3.cell]
  obtain ⟨x4, p4, q4, el4⟩ := l4_ok ha L n d e f (some (rD b)) (some (dueL a b)) x1 y1 (some (.bool (lessR a b))) (some (.str (mk (qT a)))) (some (.int t)) (some (.str (mk [c]))) x2 y2 x3 [d3.cell]
  have es32 := s32_ok (a := a) L n d e f (some (rD b)) (some (dueL a b)) x1 y1 (some (.bool (lessR a b))) (some (.str (mk (qT a)))) (some (.int t)) (some (.str (mk [c]))) x2 y2 x4 [d3.cell] sn (some (.list (vsA n a ++ vsB))) p4 q4
  have es33 := s33_ok (a := a) L n d e f (some (rD b)) (some (dueL a b)) x1 y1 (some (.bool (lessR a b))) (some (.str (mk (qT a)))) (some (.int t)) (some (.str (mk [c]))) x2 y2 x4 [d3.cell] (some (.list (vsA n a ++ vsB))) p4 q4
  refine law_end (fn := f_law) rfl rfl rfl (S := [d3.cell]) ?_
  rw [show f_law.body = t_law from rfl, show f_law.np = 1 from rfl, show f_law.ns = 22 from rfl]
  rw [show t_law = .cons t_law_s1 (.cons t_law_s2 (.cons t_law_s3 (.cons t_law_s4 (.cons t_law_s6 (.cons t_law_s7 (.cons t_law_l1 (.cons t_law_s11 (.cons t_law_s12 (.cons t_law_s14 (.cons t_law_s16 (.cons t_law_s17 (.cons t_law_s19 (.cons t_law_s20 (.cons t_law_s21 (.cons t_law_l2 (.cons t_law_l3 (.cons t_law_s27 (.cons t_law_s28 (.cons t_law_l4 (.cons t_law_s32 (.cons t_law_s33 .nil))))))))))))))))))))) from rfl]
  rw [den_cons, es1, seq_nx, den_cons, es2, seq_nx, den_cons, es3, seq_nx, den_cons, es4, seq_nx, den_cons, es6, seq_nx, den_cons, es7, seq_nx, den_cons, el1, seq_nx, den_cons, es11, seq_nx, den_cons, es12, seq_nx, den_cons, es14, seq_nx, den_cons, es16, seq_nx, den_cons, es17, seq_nx, den_cons, es19, seq_nx, den_cons, es20, seq_nx, den_cons, es21, seq_nx, den_cons, el2, seq_nx, den_cons, el3, seq_nx, den_cons, es27, seq_nx, den_cons, es28, seq_nx, den_cons, el4, seq_nx, den_cons, es32, seq_nx, den_cons, es33]
  rfl
end Pk00
namespace Pk00
open PySem Mk L2 Lk00
theorem plain (ns : List Int) (hl : ns.length ≤ 63) : ∃ wf, callN md.Φ wf md.G 20 27 [lk (ns.map .int)] [] = .ok (.bool true) [] :=
  ⟨2 ^ 1000, @law_true ⟨2 ^ 1000, fun _ h => h⟩ ns hl⟩
end Pk00

set_option maxRecDepth 100000 in
set_option maxHeartbeats 0 in
theorem PySem.Challenge.cw_mailkinds_k00_fractions_holds : PySem.Challenge.rw_mailkinds_k00_fractions.Holds :=
  PySem.Challenge.end_mailkinds_k00_fractions fun ns hl => Pk00.plain ns hl
