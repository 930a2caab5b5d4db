import PyProof.Rows.All
import Wide.All
import OpenK.AllK
import Wide.FinOn
import PySem.Challenge.RW_wishmet_k76_lacking
import KE.SortData
import KE.DataMinMax
import KE.DataCmp
import KE.DataEq
import KE.DataAny
import KE.DataIsa
import HandS.List
import HandS.ForMost
import HandS.ForExc
import HandS.Wide
import HandS.TupAny
import HandS.TupLen
import HandS.TupLe
import HandS.ExcIs
import HandS.ExcField
import HandS.ExcInit
import HandS.IsInst
import HandS.Flow
import HandS.Defaults
import HandS.HeadHook2
import HandS.TupMul
import HandS.Deep
import HandS.Records
import HandS.Comp
import HandS.Conv
import HandS.Zip
import HandS.Iter
import PyProof.Draws
import PyProof.EnumMake
import HandS.Dict
import HandS.Small
import HandS.ExcBuiltin
import HandS.TryOnly
import HandS.Style
import HandS.Star
import HandS.DictComp
import KE.KStateDown
import HandS.Ends
import HandS.More
import HandS.Words
import HandS.WordsExc
import HandS.Head0
import HandS.Head1
import HandS.Head2
import HandS.HeadEnd
import HandS.HeadHook1
section
set_option Elab.async false
set_option linter.all false
set_option maxRecDepth 100000
/-! PD, part 1: data, the small language, its meaning. Plain Lean: no heap. -/
namespace PD
open PySem PySem.SeqAt PySem.W

/-! ### data -/
inductive D where
  | non
  | bl (b : Bool)
  | int (i : Int)
  | str (s : Str)
  | tup (xs : List D)
  | lst (xs : List D)
  /-- the law's own script, a list that nobody changes -/
  | scr (xs : List D)
  /-- a dict: t says whether its keys are tuples -/
  | dct (t : Bool) (kvs : List (D × D))
  /-- an instance of the c-th class, its fields in their order -/
  | obj (c : Nat) (fs : List D)
instance : Inhabited D := ⟨.non⟩

mutual
def toP : D → PyData
  | .non => .none
  | .bl b => .bool b
  | .int i => .int i
  | .str s => .str s
  | .tup xs => .tuple (toPs xs)
  | .lst xs => .list (toPs xs)
  | .scr _ => .dict []
  | .dct _ _ => .dict []
  | .obj _ _ => .dict []
def toPs : List D → List PyData
  | [] => []
  | x :: xs => toP x :: toPs xs
end
mutual
def plain : D → Bool
  | .tup xs => plains xs
  | .lst xs => plains xs
  | .scr _ => false
  | .dct _ _ => false
  | .obj _ _ => false
  | .non => true
  | .bl _ => true
  | .int _ => true
  | .str _ => true
def plains : List D → Bool
  | [] => true
  | x :: xs => plain x && plains xs
end
/-- how deep it is -/
def deep (d : D) : Nat := (toP d).depth
def line : Nat := 16777216

/-- an exception: its class, its fields -/
inductive Xc where
  | mk (c : Nat) (args : List D)
/-- what comes -/
inductive R (α : Type) where
  | ok (a : α)
  | exc (x : Xc)
  | stk
def R.bind {α β : Type} (r : R α) (f : α → R β) : R β := match r with
  | .ok a => f a
  | .exc x => .exc x
  | .stk => .stk
def R.ofO {α : Type} : Option α → R α
  | some a => .ok a
  | none => .stk
def guardR {α : Type} (c : Bool) (r : R α) : R α := match c with
  | true => r
  | false => .stk

/-! ### operations -/
def eqD (x y : D) : Bool := PyData.eqv (toP x) (toP y)
def ltD (x y : D) : Bool := dataLt (toP x) (toP y)
def alikeD (x y : D) : Bool := alike (toP x) (toP y)
/-- == can be asked -/
def eqOk (x y : D) : Bool := plain x && plain y && decide (min (deep x) (deep y) ≤ 60)
def tru : D → Option Bool
  | .non => some false
  | .bl b => some b
  | .int i => some (i != 0)
  | .str s => (match decide (s.length ≤ line) with
    | true => some (s.length != 0)
    | false => none)
  | .tup xs => some (!xs.isEmpty)
  | .lst xs => some (!xs.isEmpty)
  | .scr _ => none
  | .dct t kvs => (match t with
    | true => none
    | false => some (!kvs.isEmpty))
  | .obj _ _ => none
inductive BinO where
  | add | sub | mul | fdiv | mod | pow
def small (i : Int) : Bool := decide (-(2 ^ 64) < i) && decide (i < 2 ^ 64)
def smallJ (i : Int) : Bool := decide (-(2 ^ 62) ≤ i) && decide (i < 2 ^ 62)
def mulOk (i j : Int) : Bool := small i || small j || decide (i.natAbs.log2 + j.natAbs.log2 < 1000000)
def binD : BinO → D → D → R D
  | .add, .int i, .int j => .ok (.int (i + j))
  | .add, .str s, .str t => guardR (decide (s.length + t.length ≤ line)) (.ok (.str (s ++ t)))
  | .add, .tup xs, .tup ys => guardR (decide (xs.length + ys.length ≤ line)) (.ok (.tup (xs ++ ys)))
  | .add, .lst xs, .lst ys => guardR (decide (xs.length + ys.length ≤ line)) (.ok (.lst (xs ++ ys)))
  | .sub, .int i, .int j => .ok (.int (i - j))
  | .mul, .tup xs, .int j => guardR (smallJ j && decide (xs.length * j.toNat ≤ line)) (.ok (.tup (List.replicate j.toNat xs).flatten))
  | .mul, .lst xs, .int j => guardR (smallJ j && decide (xs.length * j.toNat ≤ line)) (.ok (.lst (List.replicate j.toNat xs).flatten))
  | .mul, .int i, .int j => guardR (mulOk i j) (.ok (.int (i * j)))
  | .fdiv, .int i, .int j => guardR (decide (0 < j) && decide (j.natAbs.log2 < 9000)) (.ok (.int (i / j)))
  | .mod, .int i, .int j => guardR (decide (0 < j)) (.ok (.int (i % j)))
  | .pow, .int i, .int j => guardR (decide (0 ≤ j) && decide (j ≤ 1000000) && small i) (.ok (.int (i ^ j.toNat)))
  | _, _, _ => .stk
inductive CmpO where
  | eq | ne | lt | le | gt | ge | isin | notin | iss | isnt
def ordOk (x y : D) : Bool := plain x && plain y && alikeD x y && (match x with
  | .non => false
  | _ => true) && decide (min (deep x) (deep y) ≤ 60)
def findK (kvs : List (D × D)) (k : D) : Option D := (kvs.find? fun p => eqD p.1 k).map (·.2)
def isAtom : D → Bool
  | .int _ => true
  | .str _ => true
  | _ => false
def keyOk (t : Bool) : D → Bool
  | .int _ => !t
  | .str _ => !t
  | .tup xs => t && xs.all isAtom
  | _ => false
def cmpD : CmpO → D → D → R D
  | .eq, x, y => guardR (eqOk x y) (.ok (.bl (eqD x y)))
  | .ne, x, y => guardR (eqOk x y) (.ok (.bl (!eqD x y)))
  | .lt, x, y => guardR (ordOk x y) (.ok (.bl (ltD x y)))
  | .le, x, y => guardR (ordOk x y) (.ok (.bl (!ltD y x)))
  | .gt, x, y => guardR (ordOk x y) (.ok (.bl (ltD y x)))
  | .ge, x, y => guardR (ordOk x y) (.ok (.bl (!ltD x y)))
  | .isin, x, .lst ys => guardR (plain x && plains ys && decide (deep x ≤ 60)) (.ok (.bl (ys.any fun y => eqD y x)))
  | .isin, x, .tup ys => guardR (plain x && plains ys && decide (deep x ≤ 60)) (.ok (.bl (ys.any fun y => eqD y x)))
  | .notin, x, .lst ys => guardR (plain x && plains ys && decide (deep x ≤ 60)) (.ok (.bl (!ys.any fun y => eqD y x)))
  | .notin, x, .tup ys => guardR (plain x && plains ys && decide (deep x ≤ 60)) (.ok (.bl (!ys.any fun y => eqD y x)))
  | .isin, x, .dct t kvs => guardR (keyOk t x) (.ok (.bl (findK kvs x).isSome))
  | .notin, x, .dct t kvs => guardR (keyOk t x) (.ok (.bl (!(findK kvs x).isSome)))
  | .iss, .bl a, .bl b => guardR true (.ok (.bl (decide (a = b))))
  | .isnt, .bl a, .bl b => guardR true (.ok (.bl (!decide (a = b))))
  | _, _, _ => .stk

inductive Blt where
  | len | tupleOf | listOf | abs | intOf | strOf | all | any | sum | min1 | max1 | min2 | max2 | sorted
def isBls : List D → Option (List Bool)
  | [] => some []
  | .bl b :: r => (isBls r).map (b :: ·)
  | _ :: _ => none
def isInts : List D → Option (List Int)
  | [] => some []
  | .int i :: r => (isInts r).map (i :: ·)
  | _ :: _ => none
/-- all alike, none None, not too deep -/
def sortOk (xs : List D) : Bool := plains xs && (xs.all fun x => xs.all fun y => alikeD x y) && (xs.all fun x => (match x with
  | .non => false
  | _ => true) && decide (deep x ≤ 60))
def tups1 (xs : List D) : Bool := (xs.all fun x => match x with
  | .tup (_ :: _) => true
  | _ => false) || (xs.all fun x => match x with
  | .tup _ => false
  | _ => true)
def minDD (x : D) (xs : List D) : D := xs.foldl (fun a y => if ltD y a then y else a) x
def maxDD (x : D) (xs : List D) : D := xs.foldl (fun a y => if ltD a y then y else a) x
def strOfInt (i : Int) : Str := toString i
def biD : Blt → List D → R D
  | .len, [.str s] => guardR (decide (s.length ≤ line)) (.ok (.int s.length))
  | .len, [.tup xs] => .ok (.int xs.length)
  | .len, [.lst xs] => .ok (.int xs.length)
  | .len, [.scr xs] => .ok (.int xs.length)
  | .len, [.dct _ kvs] => .ok (.int kvs.length)
  | .tupleOf, [.tup xs] => .ok (.tup xs)
  | .tupleOf, [.lst xs] => .ok (.tup xs)
  | .listOf, [.tup xs] => .ok (.lst xs)
  | .listOf, [.lst xs] => .ok (.lst xs)
  | .abs, [.int i] => .ok (.int (if i < 0 then -i else i))
  | .intOf, [.int i] => .ok (.int i)
  | .intOf, [.bl b] => .ok (.int (if b then 1 else 0))
  | .strOf, [.int i] => guardR (decide (i.natAbs.log2 < 1920)) (.ok (.str (strOfInt i)))
  | .all, [.lst xs] => (R.ofO (isBls xs)).bind fun bs => .ok (.bl (bs.all id))
  | .any, [.lst xs] => (R.ofO (isBls xs)).bind fun bs => .ok (.bl (bs.any id))
  | .sum, [.lst xs] => (R.ofO (isInts xs)).bind fun is => .ok (.int is.sum)
  | .min1, [.lst (x :: xs)] => guardR (sortOk (x :: xs)) (.ok (minDD x xs))
  | .min1, [.tup (x :: xs)] => guardR (sortOk (x :: xs)) (.ok (minDD x xs))
  | .max1, [.lst (x :: xs)] => guardR (sortOk (x :: xs)) (.ok (maxDD x xs))
  | .max1, [.tup (x :: xs)] => guardR (sortOk (x :: xs)) (.ok (maxDD x xs))
  | .min2, [.int i, .int j] => .ok (.int (if j < i then j else i))
  | .max2, [.int i, .int j] => .ok (.int (if j > i then j else i))
  | .sorted, [.lst xs] => guardR (sortOk xs && tups1 xs) (.ok (.lst (xs.mergeSort (dataLe false toP))))
  | _, _ => .stk
inductive IsT where
  | int | bool | str | tuple | list | dict
def isD : D → IsT → R D
  | .int _, .int => .ok (.bl true)
  | .bl _, .int => .ok (.bl true)
  | .bl _, .bool => .ok (.bl true)
  | .str _, .str => .ok (.bl true)
  | .tup _, .tuple => .ok (.bl true)
  | .lst _, .list => .ok (.bl true)
  | .dct _ _, _ => .stk
  | .obj _ _, _ => .stk
  | .scr _, _ => .stk
  | _, _ => .ok (.bl false)
def idxD : D → D → R D
  | .tup xs, .int i => R.ofO (L2.atI xs i)
  | .lst xs, .int i => R.ofO (L2.atI xs i)
  | .scr xs, .int i => R.ofO (L2.atI xs i)
  | .dct t kvs, k => guardR (keyOk t k) (R.ofO (findK kvs k))
  | _, _ => .stk
def cutL (xs : List D) (lo hi : Option Int) : List D := (xs.drop (HT.sIx xs.length 0 lo)).take (HT.sIx xs.length xs.length hi - HT.sIx xs.length 0 lo)
def smallI (i : Int) : Bool := decide (-(2 ^ 62) ≤ i) && decide (i < 2 ^ 62)
def smallO : Option Int → Bool
  | some i => smallI i
  | none => true
def slcD (x : D) (lo hi : Option Int) : R D := guardR (smallO lo && smallO hi) (match x with
  | .tup xs => .ok (.tup (cutL xs lo hi))
  | .lst xs => .ok (.lst (cutL xs lo hi))
  | _ => .stk)
def fldD (fi : Nat → Str → Option Nat) : D → Str → R D
  | .obj c fs, x => (R.ofO (fi c x)).bind fun j => R.ofO fs[j]?
  | _, _ => .stk
def asInt : D → R Int
  | .int i => .ok i
  | _ => .stk
/-- what a loop walks, of a value -/
def itemsD : D → R (List D)
  | .tup xs => .ok xs
  | .lst xs => .ok xs
  | .scr xs => .ok xs
  | _ => .stk
/-- lo, lo + 1, .. -/
def intsD : Int → Nat → List D
  | _, 0 => []
  | lo, n + 1 => .int lo :: intsD (lo + 1) n
def enumFrom : Int → List D → List D
  | _, [] => []
  | i, x :: xs => .tup [.int i, x] :: enumFrom (i + 1) xs
def zipD : List D → List D → List D
  | x :: xs, y :: ys => .tup [x, y] :: zipD xs ys
  | _, _ => []
def zipOf : D → D → R (List D)
  | .tup xs, .tup ys => .ok (zipD xs ys)
  | .lst xs, .lst ys => .ok (zipD xs ys)
  | _, _ => .stk

/-! ### the language -/
mutual
inductive Tg where
  | n (i : Nat)
  | t (gs : Tgs)
inductive Tgs where
  | nil
  | cons (g : Tg) (r : Tgs)
end
mutual
inductive Ex where
  | var (i : Nat)
  | cI (i : Int) | cB (b : Bool) | cN | cS (s : Str)
  | gI (x : Str) (i : Int) | gS (x : Str) (s : Str)
  | bin (o : BinO) (a b : Ex)
  | neg (a : Ex)
  | cmp (o : CmpO) (a b : Ex)
  | cmp2 (o o' : CmpO) (a b c : Ex)
  | isN (a : Ex) | notN (a : Ex)
  | and (a b : Ex) | or (a b : Ex) | not (a : Ex)
  | ite (c a b : Ex)
  | tup (es : Exs) | lst (es : Exs)
  | newD (t : Bool)
  | idx (a b : Ex)
  | slL (a lo : Ex) | slU (a hi : Ex) | slB (a lo hi : Ex)
  | fld (a : Ex) (x : Str)
  | call (f : Nat) (es : Exs)
  | mk (c : Nat) (f : Nat) (es : Exs)
  | bi (b : Blt) (es : Exs)
  | isi (a : Ex) (t : IsT)
  | isC (a : Ex) (c : Nat)
  | isE (i : Nat) (c : Nat)
  | fldE (i : Nat) (j : Nat)
  | lR (it : It) | tR (it : It)
  | lc (own : List Nat) (g : Tg) (it : It) (ifs : Exs) (elt : Ex)
  | lc2 (own own2 : List Nat) (g : Tg) (it : It) (ifs : Exs) (g2 : Tg) (it2 : It) (ifs2 : Exs) (elt : Ex)
  | dc (own : List Nat) (g : Tg) (it : It) (ifs : Exs) (k v : Ex)
inductive Exs where
  | nil
  | cons (e : Ex) (r : Exs)
  | star (e : Ex) (r : Exs)
inductive It where
  | e (a : Ex)
  | r1 (a : Ex)
  | r2 (a b : Ex)
  | en (a : Ex)
  | zp (a b : Ex)
end
mutual
inductive St where
  | asg (g : Tg) (e : Ex)
  | par (i j : Nat) (a b : Ex)
  | app (i : Nat) (e : Ex)
  | ext (i : Nat) (e : Ex)
  | sub (i : Nat) (k e : Ex)
  | fset (y : Str) (e : Ex)
  | fsub (y : Str) (k e : Ex)
  | aug (i : Nat) (o : BinO) (e : Ex)
  | ife (c : Ex) (a b : Sts)
  | whl (c : Ex) (b : Sts)
  | fr (g : Tg) (it : It) (b : Sts)
  | frD (g : Tg) (j : Nat) (b : Sts)
  | ret (e : Ex) | retN
  | rse (c : Nat) (es : Exs)
  | exp (e : Ex)
  | pas | brk | cnt | nev
  | tryA (b : Sts) (c : Nat) (i : Nat) (s : Sts)
  | tryO (b : Sts) (c : Nat) (s : Sts)
inductive Sts where
  | nil
  | cons (e : St) (r : Sts)
end

/-! ### states -/
/-- a field, or a name's value: shared data; an owned list, dict -/
inductive OF where
  | sh (d : D)
  | ol (ds : List D)
  | od (t : Bool) (kvs : List (D × D))
/-- .. an owned instance; the error that a suite holds -/
inductive OD where
  | f (x : OF)
  | oo (c : Nat) (fs : List OF)
  | xc (x : Xc)
abbrev Env := List (Option OD)
def slotE (ρ : Env) (i : Nat) : Option OD := (ρ[i]?).getD none
def OF.d : OF → D
  | .sh d => d
  | .ol ds => .lst ds
  | .od t kvs => .dct t kvs
def OD.d : OD → Option D
  | .f x => some x.d
  | .oo c fs => some (.obj c (fs.map OF.d))
  | .xc _ => none
/-- a name's value is no longer its own -/
def unown1 (o : Option OD) : Option OD := match o with
  | some (.f x) => some (.f (.sh x.d))
  | some (.oo c fs) => some (.f (.sh (.obj c (fs.map OF.d))))
  | o => o
def unown (ρ : Env) : List Nat → Env
  | [] => ρ
  | i :: is => match ρ[i]? with
    | some o => (unown ρ is).set i (unown1 o)
    | none => unown ρ is
def sh (d : D) : Option OD := some (.f (.sh d))
def wipeE (ρ : Env) : List Nat → Env
  | [] => ρ
  | i :: is => (wipeE ρ is).set i none
/-- its answer is a number, a flag, a text -/
def Blt.scal : Blt → Bool
  | .tupleOf => false
  | .listOf => false
  | .min1 => false
  | .max1 => false
  | .sorted => false
  | _ => true
/-- its answer is a new list -/
def Blt.new : Blt → Bool
  | .listOf => true
  | .sorted => true
  | _ => false
/-! nothing in it can change -/
mutual
def froz : D → Bool
  | .tup xs => frozs xs
  | .lst _ => false
  | .scr _ => false
  | .dct _ _ => false
  | .obj _ _ => false
  | .non => true
  | .bl _ => true
  | .int _ => true
  | .str _ => true
def frozs : List D → Bool
  | [] => true
  | x :: xs => froz x && frozs xs
end
/-! the names whose own object may stand in a value -/
mutual
def roots : Ex → List Nat
  | .var i => [i]
  | .and a b => roots a ++ roots b
  | .or a b => roots a ++ roots b
  | .ite _ a b => roots a ++ roots b
  | .tup es => rootsS es
  | .lst es => rootsS es
  | .idx a _ => roots a
  | .fld a _ => roots a
  | .call _ es => rootsS es
  | .mk _ _ es => rootsS es
  | .bi b es => (match b.scal with
    | true => []
    | false => rootsS es)
  | .lc _ _ it _ e => rootsI it ++ roots e
  | .lc2 _ _ _ it _ _ it2 _ e => rootsI it ++ (rootsI it2 ++ roots e)
  | .bin _ a b => roots a ++ roots b
  | .slL a _ => roots a
  | .slU a _ => roots a
  | .slB a _ _ => roots a
  | _ => []
def rootsS : Exs → List Nat
  | .nil => []
  | .cons e r => roots e ++ rootsS r
  | .star e r => roots e ++ rootsS r
def rootsI : It → List Nat
  | .e a => roots a
  | .en a => roots a
  | .zp a b => roots a ++ roots b
  | _ => []
end
/-- a new list, a new dict where it is one -/
def frs : Ex → Bool
  | .lst _ => true
  | .newD _ => true
  | .lc _ _ _ _ _ => true
  | .lc2 _ _ _ _ _ _ _ _ _ => true
  | .bi b _ => b.new
  | .lR _ => true
  | .bin .add _ _ => true
  | .slL _ _ => true
  | .slU _ _ => true
  | .slB _ _ _ => true
  | _ => false
/-- the names behind a value's store -/
def keepR (ρ : Env) (rs : List Nat) (x : D) : Env := match froz x with
  | true => ρ
  | false => unown ρ rs
def keepRs (ρ : Env) (rs : List Nat) (xs : List D) : Env := match frozs xs with
  | true => ρ
  | false => unown ρ rs
/-- a new list stands on what its items stand on -/
def keepN (f : Bool) (ρ : Env) (rs : List Nat) (x : D) : Env := match f, x with
  | true, .lst ds => keepRs ρ rs ds
  | _, x => keepR ρ rs x
/-- what the functions give -/
structure Tab where
  fi : Nat → Str → Option Nat
  init : Nat → Option Nat
  fn : Nat → List D → R D
  fuel : Nat
  sub : Nat → Nat → Bool
def varR (ρ : Env) (i : Nat) : R D := match slotE ρ i with
  | some o => R.ofO o.d
  | _ => .stk
mutual
def bindT : Tg → D → Env → R Env
  | .n i, d, ρ => guardR (decide (i < ρ.length)) (.ok (ρ.set i (sh d)))
  | .t gs, .tup ds, ρ => bindTs gs ds ρ
  | _, _, _ => .stk
def bindTs : Tgs → List D → Env → R Env
  | .nil, [], ρ => .ok ρ
  | .cons g r, d :: ds, ρ => (bindT g d ρ).bind fun ρ => bindTs r ds ρ
  | _, _, _ => .stk
end
/-- the elements, one behind another -/
def collect (f : D → R (List D)) : List D → R (List D)
  | [] => .ok []
  | x :: xs => (f x).bind fun ys => (collect f xs).bind fun zs => .ok (ys ++ zs)
def truR (x : D) : R Bool := R.ofO (tru x)
/-- errors inside a comprehension are not said here -/
def noExc {α : Type} (r : R α) : R α := match r with
  | .exc _ => .stk
  | r => r
def putK (kvs : List (D × D)) (k v : D) : List (D × D) := if (kvs.any fun p => eqD p.1 k) then kvs.map fun p => if eqD p.1 k then (p.1, v) else p else kvs ++ [(k, v)]
/-- the dict of pairs -/
def putP (kvs : List (D × D)) : D → List (D × D)
  | .tup [k, v] => putK kvs k v
  | _ => kvs
def dctOf (ys : List D) : List (D × D) := ys.foldl putP []
/-- what a star brings -/
def starD : D → R (List D)
  | .tup xs => .ok xs
  | .lst xs => .ok xs
  | _ => .stk
def isNon : D → Bool
  | .non => true
  | _ => false
mutual
def ev (T : Tab) : Ex → Env → R D
  | .var i, ρ => varR ρ i
  | .cI i, _ => .ok (.int i)
  | .cB b, _ => .ok (.bl b)
  | .cN, _ => .ok .non
  | .cS s, _ => .ok (.str s)
  | .gI _ i, _ => .ok (.int i)
  | .gS _ s, _ => .ok (.str s)
  | .bin o a b, ρ => (ev T a ρ).bind fun x => (ev T b ρ).bind fun y => binD o x y
  | .neg a, ρ => (ev T a ρ).bind fun x => (asInt x).bind fun i => .ok (.int (-i))
  | .cmp o a b, ρ => (ev T a ρ).bind fun x => (ev T b ρ).bind fun y => cmpD o x y
  | .cmp2 o o' a b c, ρ => (ev T a ρ).bind fun x => (ev T b ρ).bind fun y => (cmpD o x y).bind fun r => match r with
    | .bl true => (ev T c ρ).bind fun z => cmpD o' y z
    | .bl false => .ok (.bl false)
    | _ => .stk
  | .isN a, ρ => (ev T a ρ).bind fun x => .ok (.bl (isNon x))
  | .notN a, ρ => (ev T a ρ).bind fun x => .ok (.bl (!isNon x))
  | .and a b, ρ => (ev T a ρ).bind fun x => (truR x).bind fun k => match k with
    | true => ev T b ρ
    | false => .ok x
  | .or a b, ρ => (ev T a ρ).bind fun x => (truR x).bind fun k => match k with
    | true => .ok x
    | false => ev T b ρ
  | .not a, ρ => (ev T a ρ).bind fun x => (truR x).bind fun k => .ok (.bl (!k))
  | .ite c a b, ρ => (ev T c ρ).bind fun x => (truR x).bind fun k => match k with
    | true => ev T a ρ
    | false => ev T b ρ
  | .tup es, ρ => (evs T es ρ).bind fun xs => guardR (decide (xs.length ≤ line)) (.ok (.tup xs))
  | .lst es, ρ => (evs T es ρ).bind fun xs => guardR (decide (xs.length ≤ line)) (.ok (.lst xs))
  | .newD t, _ => .ok (.dct t [])
  | .idx a b, ρ => (ev T a ρ).bind fun x => (ev T b ρ).bind fun y => idxD x y
  | .slL a lo, ρ => (ev T a ρ).bind fun x => (ev T lo ρ).bind fun l => (asInt l).bind fun l => slcD x (some l) none
  | .slU a hi, ρ => (ev T a ρ).bind fun x => (ev T hi ρ).bind fun h => (asInt h).bind fun h => slcD x none (some h)
  | .slB a lo hi, ρ => (ev T a ρ).bind fun x => (ev T lo ρ).bind fun l => (asInt l).bind fun l => (ev T hi ρ).bind fun h => (asInt h).bind fun h => slcD x (some l) (some h)
  | .fld a y, ρ => (ev T a ρ).bind fun x => fldD T.fi x y
  | .call f es, ρ => (evs T es ρ).bind fun xs => T.fn f xs
  | .mk _ f es, ρ => (evs T es ρ).bind fun xs => T.fn f xs
  | .bi b es, ρ => (evs T es ρ).bind fun xs => biD b xs
  | .isi a t, ρ => (ev T a ρ).bind fun x => isD x t
  | .isC a c, ρ => (ev T a ρ).bind fun x => match x with
    | .obj c' _ => .ok (.bl (c == c'))
    | .dct _ _ => .stk
    | .scr _ => .stk
    | _ => .ok (.bl false)
  | .isE i c, ρ => match slotE ρ i with
    | some (.xc (.mk c' [])) => .ok (.bl (T.sub c' c))
    | _ => .stk
  | .fldE i j, ρ => match slotE ρ i with
    | some (.xc (.mk _ as)) => R.ofO as[j]?
    | _ => .stk
  | .lR it, ρ => (evIt T it ρ).bind fun xs => guardR (decide (xs.length ≤ line)) (.ok (.lst xs))
  | .tR it, ρ => (evIt T it ρ).bind fun xs => guardR (decide (xs.length ≤ line)) (.ok (.tup xs))
  | .lc own g it ifs e, ρ => (evIt T it ρ).bind fun xs => (noExc (collect (fun x => (bindT g x (wipeE (unown ρ (rootsI it)) own)).bind fun ρ => (evAll T ifs ρ).bind fun k => match k with
    | true => (ev T e ρ).bind fun y => .ok [y]
    | false => .ok []) xs)).bind fun ys => guardR (decide (ys.length ≤ line)) (.ok (.lst ys))
  | .lc2 own own2 g it ifs g2 it2 ifs2 e, ρ => (evIt T it ρ).bind fun xs => (noExc (collect (fun x => (bindT g x (wipeE (unown ρ (rootsI it)) own)).bind fun ρ => (evAll T ifs ρ).bind fun k => match k with
    | true => (evIt T it2 ρ).bind fun xs2 => collect (fun x2 => (bindT g2 x2 (wipeE (unown ρ (rootsI it2)) own2)).bind fun ρ => (evAll T ifs2 ρ).bind fun k2 => match k2 with
      | true => (ev T e ρ).bind fun y => .ok [y]
      | false => .ok []) xs2
    | false => .ok []) xs)).bind fun ys => guardR (decide (ys.length ≤ line)) (.ok (.lst ys))
  | .dc own g it ifs ke ve, ρ => (evIt T it ρ).bind fun xs => (noExc (collect (fun x => (bindT g x (wipeE (unown ρ (rootsI it)) own)).bind fun ρ => (evAll T ifs ρ).bind fun k => match k with
    | true => (ev T ke ρ).bind fun y => (ev T ve ρ).bind fun z => guardR (keyOk false y && froz z) (.ok [.tup [y, z]])
    | false => .ok []) xs)).bind fun ys => guardR (decide (ys.length ≤ line)) (.ok (.dct false (dctOf ys)))
def evs (T : Tab) : Exs → Env → R (List D)
  | .nil, _ => .ok []
  | .cons e r, ρ => (ev T e ρ).bind fun x => (evs T r ρ).bind fun xs => .ok (x :: xs)
  | .star e r, ρ => (ev T e ρ).bind fun x => (starD x).bind fun ys => (evs T r ρ).bind fun xs => .ok (ys ++ xs)
/-- the tests of a comprehension -/
def evAll (T : Tab) : Exs → Env → R Bool
  | .nil, _ => .ok true
  | .cons e r, ρ => (ev T e ρ).bind fun x => (truR x).bind fun k => match k with
    | true => evAll T r ρ
    | false => .ok false
  | .star _ _, _ => .stk
def evIt (T : Tab) : It → Env → R (List D)
  | .e a, ρ => (ev T a ρ).bind itemsD
  | .r1 a, ρ => (ev T a ρ).bind fun x => (asInt x).bind fun j => guardR (smallI j) (.ok (intsD 0 j.toNat))
  | .r2 a b, ρ => (ev T a ρ).bind fun x => (ev T b ρ).bind fun y => (asInt x).bind fun i => (asInt y).bind fun j => guardR (smallI i && smallI j) (.ok (intsD i (j - i).toNat))
  | .en a, ρ => (ev T a ρ).bind fun x => (itemsD x).bind fun xs => .ok (enumFrom 0 xs)
  | .zp a b, ρ => (ev T a ρ).bind fun x => (ev T b ρ).bind fun y => zipOf x y
end

/-! ### statements -/
/-- no name holds an error -/
def noXc : Option OD → Option OD
  | some (.xc _) => none
  | o => o
inductive Fl where
  | nx (ρ : Env)
  | rt (d : D) (ρ : Env)
  | bk (ρ : Env)
  | ct (ρ : Env)
def Fl.wipe (i : Nat) : Fl → Fl
  | .nx ρ => .nx (ρ.set i none)
  | .rt d ρ => .rt d (ρ.set i none)
  | .bk ρ => .bk (ρ.set i none)
  | .ct ρ => .ct (ρ.set i none)
/-- a loop over items -/
def loopF (f : D → Env → R Fl) : List D → Env → R Fl
  | [], ρ => .ok (.nx ρ)
  | x :: xs, ρ => (f x ρ).bind fun r => match r with
    | .nx ρ => loopF f xs ρ
    | .ct ρ => loopF f xs ρ
    | .bk ρ => .ok (.nx ρ)
    | .rt d ρ => .ok (.rt d ρ)
def loopW (c : Env → R Bool) (f : Env → R Fl) : Nat → Env → R Fl
  | 0, _ => .stk
  | n + 1, ρ => (c ρ).bind fun k => match k with
    | false => .ok (.nx ρ)
    | true => (f ρ).bind fun r => match r with
      | .nx ρ => loopW c f n ρ
      | .ct ρ => loopW c f n ρ
      | .bk ρ => .ok (.nx ρ)
      | .rt d ρ => .ok (.rt d ρ)
def ownO (f : Bool) (x : D) : OF := match f with
  | false => .sh x
  | true => (match x with
    | .lst ds => .ol ds
    | .dct t kvs => .od t kvs
    | x => .sh x)
def setF (fs : List OF) (j : Nat) (o : OF) : List OF := match decide (j < fs.length) with
  | true => fs.set j o
  | false => fs ++ [o]
/-- a stored list, dict within an owned name -/
def appO (ρ : Env) (i : Nat) (xs : List D) : R Env := match slotE ρ i with
  | some (.f (.ol ds)) => guardR (decide (ds.length + xs.length ≤ line)) (.ok (ρ.set i (some (.f (.ol (ds ++ xs))))))
  | _ => .stk
def subO (o : OF) (k x : D) : R OF := match o, k with
  | .sh _, _ => .stk
  | .ol ds, .int j => (R.ofO (L2.ixN ds.length j)).bind fun n => .ok (.ol (ds.set n x))
  | .od t kvs, k => guardR (keyOk t k && decide (kvs.length < line)) (.ok (.od t (putK kvs k x)))
  | _, _ => .stk
mutual
def rn (T : Tab) : St → Env → R Fl
  | .asg (.n i) e, ρ => (ev T e ρ).bind fun x => guardR (decide (i < ρ.length)) (.ok (.nx ((keepN (frs e) ρ (roots e) x).set i (some (.f (ownO (frs e) x))))))
  | .asg g e, ρ => (ev T e ρ).bind fun x => (bindT g x (keepR ρ (roots e) x)).bind fun ρ => .ok (.nx ρ)
  | .par i j a b, ρ => (ev T a ρ).bind fun x => (ev T b ρ).bind fun y => guardR (decide (i < ρ.length) && decide (j < ρ.length) && (froz x && froz y)) (.ok (.nx ((ρ.set i (sh x)).set j (sh y))))
  | .app i e, ρ => (match slotE ρ i with
    | some (.f (.ol _)) => (ev T e ρ).bind fun x => (appO (keepR ρ (roots e) x) i [x]).bind fun ρ => .ok (.nx ρ)
    | _ => .stk)
  | .ext i e, ρ => (match slotE ρ i with
    | some (.f (.ol _)) => (ev T e ρ).bind fun x => (match x with
      | .lst xs => (appO (keepR ρ (roots e) x) i xs).bind fun ρ => .ok (.nx ρ)
      | _ => .stk)
    | _ => .stk)
  | .sub i k e, ρ => (ev T e ρ).bind fun x => (match slotE (keepR ρ (roots e) x) i with
    | some (.f o) => (ev T k ρ).bind fun y => guardR (froz y) ((subO o y x).bind fun o' => .ok (.nx ((keepR ρ (roots e) x).set i (some (.f o')))))
    | _ => .stk)
  | .fset y e, ρ => (ev T e ρ).bind fun x => match slotE (keepR ρ (roots e) x) 0 with
    | some (.oo c fs) => (R.ofO (T.fi c y)).bind fun j => guardR (decide (j ≤ fs.length) && decide (fs.length < 100)) (.ok (.nx ((keepR ρ (roots e) x).set 0 (some (.oo c (setF fs j (ownO (frs e) x)))))))
    | _ => .stk
  | .fsub z k e, ρ => (ev T e ρ).bind fun x => (match slotE (keepR ρ (roots e) x) 0 with
    | some (.oo c fs) => (R.ofO (T.fi c z)).bind fun j => (match fs[j]? with
      | some o => (ev T k ρ).bind fun y => guardR (froz y) ((subO o y x).bind fun o' => .ok (.nx ((keepR ρ (roots e) x).set 0 (some (.oo c (fs.set j o'))))))
      | none => .stk)
    | _ => .stk)
  | .aug i o e, ρ => (varR ρ i).bind fun x => (ev T e ρ).bind fun y => (match x, y with
    | .int a, .int b => (binD o (.int a) (.int b)).bind fun z => guardR (decide (i < ρ.length)) (.ok (.nx (ρ.set i (sh z))))
    | _, _ => .stk)
  | .nev, _ => .stk
  | .ife c a b, ρ => (ev T c ρ).bind fun x => (truR x).bind fun k => match k with
    | true => rns T a ρ
    | false => rns T b ρ
  | .whl c b, ρ => loopW (fun ρ => (ev T c ρ).bind truR) (fun ρ => rns T b ρ) T.fuel ρ
  | .fr g it b, ρ => (evIt T it ρ).bind fun xs => loopF (fun x ρ => (bindT g x ρ).bind fun ρ => rns T b ρ) xs (unown ρ (rootsI it))
  | .frD g j b, ρ => (match slotE ρ j with
    | some (.f (.sh (.dct false kvs))) => noExc (loopF (fun x ρ => (bindT g x ρ).bind fun ρ => rns T b ρ) (kvs.map Prod.fst) ρ)
    | _ => .stk)
  | .ret e, ρ => (ev T e ρ).bind fun x => .ok (.rt x (keepR ρ (roots e) x))
  | .retN, ρ => .ok (.rt .non ρ)
  | .rse c es, ρ => (match es with
    | .nil => .exc (.mk c [])
    | _ => .stk)
  | .exp e, ρ => (ev T e ρ).bind fun _ => .ok (.nx ρ)
  | .pas, ρ => .ok (.nx ρ)
  | .brk, ρ => .ok (.bk ρ)
  | .cnt, ρ => .ok (.ct ρ)
  | .tryA b c i s, ρ => (match rns T b ρ with
    | .exc (.mk k as) => (match T.sub k c with
      | true => (noExc (rns T s (ρ.set i (some (.xc (.mk k as)))))).bind fun f => (match f with
        | .rt d ρ' => .ok (.rt d (ρ'.map fun _ => none))
        | .nx ρ' => .ok (.nx ((ρ'.set i none).map noXc))
        | _ => .stk)
      | false => .exc (.mk k as))
    | r => r)
  | .tryO b c s, ρ => (match rns T b ρ with
    | .exc (.mk k as) => (match T.sub k c with
      | true => (noExc (rns T s ρ)).bind fun f => (match f with
        | .rt d ρ' => .ok (.rt d (ρ'.map fun _ => none))
        | .nx ρ' => .ok (.nx (ρ'.map noXc))
        | _ => .stk)
      | false => .exc (.mk k as))
    | r => r)
def rns (T : Tab) : Sts → Env → R Fl
  | .nil, ρ => .ok (.nx ρ)
  | .cons s r, ρ => (rn T s ρ).bind fun f => match f with
    | .nx ρ => rns T r ρ
    | f => .ok f
end

/-! ### functions -/
def idxS : List Str → Str → Option Nat
  | [], _ => none
  | x :: xs, y => match decide (x = y) with
    | true => some 0
    | false => (idxS xs y).map (· + 1)
theorem idxS_ok : ∀ {xs : List Str} {y : Str} {j : Nat}, idxS xs y = some j → xs[j]? = some y
  | x :: xs, y, j, h => by
    rw [idxS] at h
    cases e : decide (x = y) with
    | true =>
      rw [e] at h
      cases h
      rw [of_decide_eq_true e]
      rfl
    | false =>
      rw [e] at h
      obtain ⟨k, h1, h2⟩ := Option.map_eq_some_iff.mp h
      subst h2
      show (x :: xs)[k + 1]? = some y
      rw [List.getElem?_cons_succ]
      exact idxS_ok (xs := xs) h1
/-- np parameters, n names in all; cls: it is the __init__ of that class -/
structure FnI where
  np : Nat
  n : Nat
  cls : Option Nat
  body : Sts
def FnI.start (f : FnI) (ds : List D) : Env := match f.cls with
  | none => ds.map sh ++ List.replicate (f.n - f.np) none
  | some c => some (.oo c []) :: (ds.map sh ++ List.replicate (f.n - f.np) none)
def finO (ρ : Env) : R D := match slotE ρ 0 with
  | some (.oo c fs) => .ok (.obj c (fs.map OF.d))
  | _ => .stk
def FnI.fin (f : FnI) (r : Fl) : R D := match f.cls, r with
  | none, .nx _ => .ok .non
  | none, .rt d _ => .ok d
  | some _, .nx ρ => finO ρ
  | some _, .rt .non ρ => finO ρ
  | _, _ => .stk
def FnI.self (f : FnI) : Nat := match f.cls with
  | none => 0
  | some _ => 1
def FnI.run (f : FnI) (T : Tab) (ds : List D) : R D := guardR (decide (ds.length + f.self = f.np)) ((rns T f.body (f.start ds)).bind f.fin)
/-- the functions of a text, k calls deep -/
def callF (B : Nat → Option FnI) (fi : Nat → Str → Option Nat) (sub : Nat → Nat → Bool) (fuel : Nat) : Nat → Nat → List D → R D
  | 0, _, _ => .stk
  | k + 1, g, ds => match B g with
    | some f => f.run ⟨fi, fun f => (B f).bind FnI.cls, callF B fi sub fuel k, fuel, sub⟩ ds
    | none => .stk
end PD
end

section
set_option Elab.async false
set_option linter.all false
set_option maxRecDepth 100000
/-! PD, part 2: which values of the layer's heap stand for which data. -/
namespace PD
open PySem PySem.Spec PyProof.Rows L2

/-- the written part, the classes -/
structure Sg where
  K : PySem.W.Frag
  ca : Nat → Addr
  cf : Nat → List Str
  ea : Nat → Addr
  ef : Nat → Str
  en : Nat

def keyD : Key → D
  | .inl i => .int i
  | .inr s => .str s
/-- the law's script: frozen, or an object of the written part -/
def Scr (G : Sg) (H : Hp) (a : Addr) (xs : List V) : Prop := (∃ o, H a = some (.frz o (.lst xs))) ∨
  ∃ (o : Obj) (its : Array Value) (n : Nat), G.K.lookup a = some o ∧ o.cls = .type "list" ∧ o.dict = none ∧ o.data = .seq its n ∧ its.size ≤ sizeLine ∧ Vals xs its.toList
section
variable (G : Sg) (A : Addr → Prop) (H : Hp)
mutual
inductive Has : V → D → Prop
  | non : Has .non .non
  | bl (b : Bool) : Has (.bl b) (.bl b)
  | int (i : Int) : Has (.int i) (.int i)
  | str (s : Str) : Has (.str s) (.str s)
  | tup {a : Addr} {xs : List V} {ds : List D} : H a = some (.tup xs) → HasL xs ds → Has (.ref a) (.tup ds)
  | lst {a : Addr} {xs : List V} {ds : List D} : A a → H a = some (.lst xs) → HasL xs ds → Has (.ref a) (.lst ds)
  | scr {a : Addr} {xs : List V} {ds : List D} : Scr G H a xs → HasL xs ds → Has (.ref a) (.scr ds)
  | dK {a : Addr} {kvs : List (Key × V)} {ds : List (D × D)} : A a → Rd H a (.dK kvs) → ds.map Prod.fst = kvs.map (fun p => keyD p.1) → HasL (kvs.map Prod.snd) (ds.map Prod.snd) → Has (.ref a) (.dct false ds)
  | dT {a : Addr} {kvs : List (List Key × V)} {ds : List (D × D)} : A a → Rd H a (.dT kvs) → ds.map Prod.fst = kvs.map (fun p => .tup (p.1.map keyD)) → HasL (kvs.map Prod.snd) (ds.map Prod.snd) → Has (.ref a) (.dct true ds)
  | obj {a C dx : Addr} {fs : List (Str × V)} {c : Nat} {ds : List D} : A a → H a = some (.ins C dx fs) → C = G.ca c → fs.map Prod.fst = (G.cf c).take ds.length → HasL (fs.map Prod.snd) ds → Has (.ref a) (.obj c ds)
inductive HasL : List V → List D → Prop
  | nil : HasL [] []
  | cons {v : V} {vs : List V} {d : D} {ds : List D} : Has v d → HasL vs ds → HasL (v :: vs) (d :: ds)
end
end
section
variable {G : Sg} {A A' : Addr → Prop} {H H' : Hp}
theorem Scr.sq {K : PySem.W.Frag} {a : Addr} {xs : List V} (hG : K = G.K) (h : Scr G H a xs) : SqL K H a xs := by
  subst hG
  exact h.imp (fun ⟨o, z⟩ => .inr ⟨o, z⟩) id
theorem sqT_same {K : PySem.W.Frag} {a : Addr} {xs : List V} (e : Same H H') (h : SqT K H a xs) : SqT K H' a xs := by
  rcases h with (h | ⟨o, h⟩) | h
  · exact .inl (.inl (e _ _ h))
  · exact .inl (.inr ⟨o, e _ _ h⟩)
  · exact .inr h
theorem rd_same {a : Addr} {o : HO} (e : Same H H') (h : Rd H a o) : Rd H' a o := by
  rcases h with h | ⟨ob, h⟩
  · exact .inl (e _ _ h)
  · exact .inr ⟨ob, e _ _ h⟩
mutual
theorem Has.mono (hA : ∀ a, A a → A' a) (hH : Same H H') : ∀ {d : D} {v : V}, Has G A H v d → Has G A' H' v d
  | .non, _, h => by cases h; exact .non
  | .bl b, _, h => by cases h; exact .bl b
  | .int i, _, h => by cases h; exact .int i
  | .str s, _, h => by cases h; exact .str s
  | .tup ds, _, h => by
    cases h with
    | tup h1 h2 => exact .tup (hH _ _ h1) (HasL.mono hA hH h2)
  | .scr ds, _, h => by
    cases h with
    | scr h1 h2 => exact .scr (h1.imp (fun ⟨o, z⟩ => ⟨o, hH _ _ z⟩) id) (HasL.mono hA hH h2)
  | .lst ds, _, h => by
    cases h with
    | lst h0 h1 h2 => exact .lst (hA _ h0) (hH _ _ h1) (HasL.mono hA hH h2)
  | .dct t ds, _, h => by
    cases h with
    | dK h0 h1 h2 h3 => exact .dK (hA _ h0) (rd_same hH h1) h2 (HasL.monoP hA hH h3)
    | dT h0 h1 h2 h3 => exact .dT (hA _ h0) (rd_same hH h1) h2 (HasL.monoP hA hH h3)
  | .obj c ds, _, h => by
    cases h with
    | obj h0 h1 h2 h3 h4 => exact .obj (hA _ h0) (hH _ _ h1) h2 h3 (HasL.mono hA hH h4)
theorem HasL.mono (hA : ∀ a, A a → A' a) (hH : Same H H') : ∀ {ds : List D} {vs : List V}, HasL G A H vs ds → HasL G A' H' vs ds
  | [], _, h => by cases h; exact .nil
  | d :: ds, _, h => by
    cases h with
    | cons h1 h2 => exact .cons (Has.mono hA hH h1) (HasL.mono hA hH h2)
theorem HasL.monoP (hA : ∀ a, A a → A' a) (hH : Same H H') : ∀ {ds : List (D × D)} {vs : List V}, HasL G A H vs (ds.map Prod.snd) → HasL G A' H' vs (ds.map Prod.snd)
  | [], _, h => by cases h; exact .nil
  | (k, d) :: ds, _, h => by
    cases h with
    | cons h1 h2 => exact .cons (Has.mono hA hH h1) (HasL.monoP hA hH h2)
end
theorem HasL.length {vs : List V} {ds : List D} (h : HasL G A H vs ds) : vs.length = ds.length := by
  induction ds generalizing vs with
  | nil => cases h; rfl
  | cons d ds ih =>
    cases h with
    | cons h1 h2 => rw [List.length_cons, List.length_cons, ih h2]
theorem HasL.append {vs ws : List V} {ds es : List D} (h : HasL G A H vs ds) (h' : HasL G A H ws es) : HasL G A H (vs ++ ws) (ds ++ es) := by
  induction ds generalizing vs with
  | nil => cases h; exact h'
  | cons d ds ih =>
    cases h with
    | cons h1 h2 => exact .cons h1 (ih h2)
theorem HasL.one {v : V} {d : D} (h : Has G A H v d) : HasL G A H [v] [d] := .cons h .nil
theorem HasL.get {vs : List V} {ds : List D} {i : Nat} {d : D} (h : HasL G A H vs ds) (e : ds[i]? = some d) : ∃ v, vs[i]? = some v ∧ Has G A H v d := by
  induction ds generalizing vs i with
  | nil => simp at e
  | cons x ds ih =>
    cases h with
    | cons h1 h2 =>
      cases i with
      | zero =>
        simp at e
        subst e
        exact ⟨_, rfl, h1⟩
      | succ i =>
        obtain ⟨v, e1, e2⟩ := ih h2 (by simpa using e)
        exact ⟨v, by simpa using e1, e2⟩
theorem HasL.getV {vs : List V} {ds : List D} {i : Nat} {v : V} (h : HasL G A H vs ds) (e : vs[i]? = some v) : ∃ d, ds[i]? = some d ∧ Has G A H v d := by
  induction ds generalizing vs i with
  | nil => cases h; simp at e
  | cons x ds ih =>
    cases h with
    | cons h1 h2 =>
      cases i with
      | zero =>
        simp at e
        subst e
        exact ⟨_, rfl, h1⟩
      | succ i =>
        obtain ⟨d, e1, e2⟩ := ih h2 (by simpa using e)
        exact ⟨d, by simpa using e1, e2⟩
theorem HasL.set {vs : List V} {ds : List D} {v : V} {d : D} (i : Nat) (h : HasL G A H vs ds) (hv : Has G A H v d) : HasL G A H (vs.set i v) (ds.set i d) := by
  induction ds generalizing vs i with
  | nil => cases h; exact .nil
  | cons x ds ih =>
    cases h with
    | cons h1 h2 =>
      cases i with
      | zero => exact .cons hv h2
      | succ i => exact .cons h1 (ih i h2)
theorem HasL.take {vs : List V} {ds : List D} (n : Nat) (h : HasL G A H vs ds) : HasL G A H (vs.take n) (ds.take n) := by
  induction ds generalizing vs n with
  | nil => cases h; simp; exact .nil
  | cons x ds ih =>
    cases h with
    | cons h1 h2 =>
      cases n with
      | zero => exact .nil
      | succ n => exact .cons h1 (ih n h2)
theorem HasL.drop {vs : List V} {ds : List D} (n : Nat) (h : HasL G A H vs ds) : HasL G A H (vs.drop n) (ds.drop n) := by
  induction ds generalizing vs n with
  | nil => cases h; simp; exact .nil
  | cons x ds ih =>
    cases h with
    | cons h1 h2 =>
      cases n with
      | zero => exact .cons h1 h2
      | succ n => exact ih n h2
/-! ### an object that no datum of ours stands on is written -/
theorem tup_ne {p a : Addr} {xs : List V} (mu : Mut (H p)) (h : H a = some (.tup xs)) : a ≠ p := fun q => by
  subst q
  rw [h] at mu
  exact mu
theorem frz_ne {p a : Addr} {o : Obj} {u : HO} (mu : Mut (H p)) (h : H a = some (.frz o u)) : a ≠ p := fun q => by
  subst q
  rw [h] at mu
  exact mu
theorem rd_upd {p a : Addr} {o u : HO} (ne : a ≠ p) (h : Rd H a u) : Rd (upd H p o) a u := by
  rcases h with h | ⟨ob, h⟩
  · exact .inl (by rw [upd_ne ne]; exact h)
  · exact .inr ⟨ob, by rw [upd_ne ne]; exact h⟩
mutual
theorem Has.upd {p : Addr} {o : HO} (mu : Mut (H p)) (nA : ¬ A p) : ∀ {d : D} {v : V}, Has G A H v d → Has G A (upd H p o) v d
  | .non, _, h => by cases h; exact .non
  | .bl b, _, h => by cases h; exact .bl b
  | .int i, _, h => by cases h; exact .int i
  | .str s, _, h => by cases h; exact .str s
  | .tup ds, _, h => by
    cases h with
    | tup h1 h2 => exact .tup (by rw [upd_ne (tup_ne mu h1)]; exact h1) (HasL.upd mu nA h2)
  | .scr ds, _, h => by
    cases h with
    | scr h1 h2 => exact .scr (h1.imp (fun ⟨o, z⟩ => ⟨o, by rw [upd_ne (frz_ne mu z)]; exact z⟩) id) (HasL.upd mu nA h2)
  | .lst ds, _, h => by
    cases h with
    | @lst a xs _ h0 h1 h2 =>
      have ne : a ≠ p := fun e => nA (by rw [← e]; exact h0)
      exact .lst h0 (by rw [upd_ne ne]; exact h1) (HasL.upd mu nA h2)
  | .dct t ds, _, h => by
    cases h with
    | dK h0 h1 h2 h3 => exact .dK h0 (rd_upd (fun e => nA (e ▸ h0)) h1) h2 (HasL.updP mu nA h3)
    | dT h0 h1 h2 h3 => exact .dT h0 (rd_upd (fun e => nA (e ▸ h0)) h1) h2 (HasL.updP mu nA h3)
  | .obj c ds, _, h => by
    cases h with
    | @obj a C dx fs _ _ h0 h1 h2 h3 h4 =>
      have ne : a ≠ p := fun e => nA (by rw [← e]; exact h0)
      exact .obj h0 (by rw [upd_ne ne]; exact h1) h2 h3 (HasL.upd mu nA h4)
theorem HasL.upd {p : Addr} {o : HO} (mu : Mut (H p)) (nA : ¬ A p) : ∀ {ds : List D} {vs : List V}, HasL G A H vs ds → HasL G A (upd H p o) vs ds
  | [], _, h => by cases h; exact .nil
  | d :: ds, _, h => by
    cases h with
    | cons h1 h2 => exact .cons (Has.upd mu nA h1) (HasL.upd mu nA h2)
theorem HasL.updP {p : Addr} {o : HO} (mu : Mut (H p)) (nA : ¬ A p) : ∀ {ds : List (D × D)} {vs : List V}, HasL G A H vs (ds.map Prod.snd) → HasL G A (upd H p o) vs (ds.map Prod.snd)
  | [], _, h => by cases h; exact .nil
  | (k, d) :: ds, _, h => by
    cases h with
    | cons h1 h2 => exact .cons (Has.upd mu nA h1) (HasL.updP mu nA h2)
end
/-! ### data in which nothing changes stand on nothing -/
mutual
theorem Has.froz : ∀ {d : D} {v : V}, froz d = true → Has G A H v d → Has G A' H v d
  | .non, _, _, h => by cases h; exact .non
  | .bl b, _, _, h => by cases h; exact .bl b
  | .int i, _, _, h => by cases h; exact .int i
  | .str s, _, _, h => by cases h; exact .str s
  | .tup ds, _, f, h => by
    cases h with
    | tup h1 h2 => exact .tup h1 (HasL.froz (by simpa [PD.froz] using f) h2)
  | .lst ds, _, f, h => by simp [PD.froz] at f
  | .scr ds, _, f, h => by simp [PD.froz] at f
  | .dct t ds, _, f, h => by simp [PD.froz] at f
  | .obj c ds, _, f, h => by simp [PD.froz] at f
theorem HasL.froz : ∀ {ds : List D} {vs : List V}, frozs ds = true → HasL G A H vs ds → HasL G A' H vs ds
  | [], _, _, h => by cases h; exact .nil
  | d :: ds, _, f, h => by
    have f' : PD.froz d = true ∧ frozs ds = true := by simpa [PD.frozs] using f
    cases h with
    | cons h1 h2 => exact .cons (Has.froz f'.1 h1) (HasL.froz f'.2 h2)
end
/-! ### it stands on what is there -/
mutual
theorem Has.there : ∀ {d : D} {v : V}, Has G A H v d → Has G (fun q => A q ∧ (H q).isSome = true) H v d
  | .non, _, h => by cases h; exact .non
  | .bl b, _, h => by cases h; exact .bl b
  | .int i, _, h => by cases h; exact .int i
  | .str s, _, h => by cases h; exact .str s
  | .tup ds, _, h => by
    cases h with
    | tup h1 h2 => exact .tup h1 (HasL.there h2)
  | .scr ds, _, h => by
    cases h with
    | scr h1 h2 => exact .scr h1 (HasL.there h2)
  | .lst ds, _, h => by
    cases h with
    | lst h0 h1 h2 => exact .lst ⟨h0, by rw [h1]; rfl⟩ h1 (HasL.there h2)
  | .dct t ds, _, h => by
    cases h with
    | dK h0 h1 h2 h3 => exact .dK ⟨h0, by rcases h1 with h | ⟨_, h⟩ <;> rw [h] <;> rfl⟩ h1 h2 (HasL.thereP h3)
    | dT h0 h1 h2 h3 => exact .dT ⟨h0, by rcases h1 with h | ⟨_, h⟩ <;> rw [h] <;> rfl⟩ h1 h2 (HasL.thereP h3)
  | .obj c ds, _, h => by
    cases h with
    | obj h0 h1 h2 h3 h4 => exact .obj ⟨h0, by rw [h1]; rfl⟩ h1 h2 h3 (HasL.there h4)
theorem HasL.there : ∀ {ds : List D} {vs : List V}, HasL G A H vs ds → HasL G (fun q => A q ∧ (H q).isSome = true) H vs ds
  | [], _, h => by cases h; exact .nil
  | d :: ds, _, h => by
    cases h with
    | cons h1 h2 => exact .cons (Has.there h1) (HasL.there h2)
theorem HasL.thereP : ∀ {ds : List (D × D)} {vs : List V}, HasL G A H vs (ds.map Prod.snd) → HasL G (fun q => A q ∧ (H q).isSome = true) H vs (ds.map Prod.snd)
  | [], _, h => by cases h; exact .nil
  | (k, d) :: ds, _, h => by
    cases h with
    | cons h1 h2 => exact .cons (Has.there h1) (HasL.thereP h2)
end
/-! ### as the library's data -/
mutual
theorem Has.dp : ∀ {d : D} {v : V}, plain d = true → Has G A H v d → Dp G.K H v (toP d)
  | .non, _, _, h => by cases h; rw [toP]; exact .non
  | .bl b, _, _, h => by cases h; rw [toP]; exact .bl b
  | .int i, _, _, h => by cases h; rw [toP]; exact .int i
  | .str s, _, _, h => by cases h; rw [toP]; exact .str s
  | .tup ds, _, f, h => by
    cases h with
    | tup h1 h2 => rw [toP]; exact .tup (.of h1) (HasL.dp (by simpa [PD.plain] using f) h2)
  | .lst ds, _, f, h => by
    cases h with
    | lst _ h1 h2 => rw [toP]; exact .lst (.of h1) (HasL.dp (by simpa [PD.plain] using f) h2)
  | .dct t ds, _, f, h => by simp [PD.plain] at f
  | .scr ds, _, f, h => by simp [PD.plain] at f
  | .obj c ds, _, f, h => by simp [PD.plain] at f
theorem HasL.dp : ∀ {ds : List D} {vs : List V}, plains ds = true → HasL G A H vs ds → DpAll G.K H vs (toPs ds)
  | [], _, _, h => by cases h; rw [toPs]; exact .nil
  | d :: ds, _, f, h => by
    have f' : PD.plain d = true ∧ plains ds = true := by simpa [PD.plains] using f
    cases h with
    | cons h1 h2 => rw [toPs]; exact .cons (Has.dp f'.1 h1) (HasL.dp f'.2 h2)
end
end
mutual
theorem toP_plain : ∀ d : D, plain d = true → (toP d).plain = true
  | .non, _ => by simp [toP, PyData.plain]
  | .bl _, _ => by simp [toP, PyData.plain]
  | .int _, _ => by simp [toP, PyData.plain]
  | .str _, _ => by simp [toP, PyData.plain]
  | .tup ds, f => by
    rw [toP, PyData.plain]
    exact toPs_plain ds (by simpa [PD.plain] using f)
  | .lst ds, f => by
    rw [toP, PyData.plain]
    exact toPs_plain ds (by simpa [PD.plain] using f)
  | .dct _ _, f => by simp [PD.plain] at f
  | .scr _, f => by simp [PD.plain] at f
  | .obj _ _, f => by simp [PD.plain] at f
theorem toPs_plain : ∀ ds : List D, plains ds = true → PyData.plainAll (toPs ds) = true
  | [], _ => by simp [toPs, PyData.plainAll]
  | d :: ds, f => by
    have f' : PD.plain d = true ∧ plains ds = true := by simpa [PD.plains] using f
    rw [toPs, PyData.plainAll, toP_plain d f'.1, toPs_plain ds f'.2]
    rfl
end
mutual
theorem toP_inj : ∀ x y : D, plain x = true → plain y = true → toP x = toP y → x = y
  | .non, y, _, hy, e => by cases y <;> simp_all [toP, PD.plain]
  | .bl _, y, _, hy, e => by cases y <;> simp_all [toP, PD.plain]
  | .int _, y, _, hy, e => by cases y <;> simp_all [toP, PD.plain]
  | .str _, y, _, hy, e => by cases y <;> simp_all [toP, PD.plain]
  | .tup xs, y, hx, hy, e => by
    cases y with
    | tup ys =>
      rw [toP, toP] at e
      injection e with e
      rw [toPs_inj xs ys (by simpa [PD.plain] using hx) (by simpa [PD.plain] using hy) e]
    | _ => simp_all [toP, PD.plain]
  | .lst xs, y, hx, hy, e => by
    cases y with
    | lst ys =>
      rw [toP, toP] at e
      injection e with e
      rw [toPs_inj xs ys (by simpa [PD.plain] using hx) (by simpa [PD.plain] using hy) e]
    | _ => simp_all [toP, PD.plain]
  | .dct _ _, y, hx, _, _ => by simp [PD.plain] at hx
  | .scr _, y, hx, _, _ => by simp [PD.plain] at hx
  | .obj _ _, y, hx, _, _ => by simp [PD.plain] at hx
theorem toPs_inj : ∀ xs ys : List D, plains xs = true → plains ys = true → toPs xs = toPs ys → xs = ys
  | [], [], _, _, _ => rfl
  | [], _ :: _, _, _, e => by simp [toPs] at e
  | _ :: _, [], _, _, e => by simp [toPs] at e
  | x :: xs, y :: ys, hx, hy, e => by
    have f : PD.plain x = true ∧ plains xs = true := by simpa [PD.plains] using hx
    have f' : PD.plain y = true ∧ plains ys = true := by simpa [PD.plains] using hy
    rw [toPs, toPs] at e
    injection e with e1 e2
    rw [toP_inj x y f.1 f'.1 e1, toPs_inj xs ys f.2 f'.2 e2]
end
end PD
end

section
set_option Elab.async false
set_option linter.all false
set_option maxRecDepth 100000
set_option maxHeartbeats 4000000
/-! PD, part 3: each operation on data is what the machine does. -/
namespace PD
open PySem PySem.Spec PyProof.Rows L2

theorem guardR_ok {α : Type} {c : Bool} {r : R α} {a : α} (h : guardR c r = .ok a) : c = true ∧ r = .ok a := by
  cases c with
  | true => exact ⟨rfl, h⟩
  | false => cases h
theorem bind_ok {α β : Type} {r : R α} {f : α → R β} {b : β} (h : r.bind f = .ok b) : ∃ a, r = .ok a ∧ f a = .ok b := by
  cases r with
  | ok a => exact ⟨a, rfl, h⟩
  | exc x => cases h
  | stk => cases h
theorem bind_exc {α β : Type} {r : R α} {f : α → R β} {x : Xc} (h : r.bind f = .exc x) : r = .exc x ∨ ∃ a, r = .ok a ∧ f a = .exc x := by
  cases r with
  | ok a => exact .inr ⟨a, rfl, h⟩
  | exc y =>
    cases h
    exact .inl rfl
  | stk => cases h
theorem ofO_ok {α : Type} {o : Option α} {a : α} (h : R.ofO o = .ok a) : o = some a := by
  cases o with
  | some b => cases h; rfl
  | none => cases h
theorem ofO_exc {α : Type} {o : Option α} {x : Xc} (h : R.ofO o = .exc x) : False := by
  cases o <;> cases h
theorem guardR_exc {α : Type} {c : Bool} {r : R α} {x : Xc} (h : guardR c r = .exc x) : c = true ∧ r = .exc x := by
  cases c with
  | true => exact ⟨rfl, h⟩
  | false => cases h
theorem ok_inj {α : Type} {a b : α} (h : R.ok a = R.ok b) : a = b := by
  cases h
  rfl
theorem bb {a b : Bool} (h : (a && b) = true) : a = true ∧ b = true := Bool.and_eq_true_iff.mp h
theorem line_eq : line = sizeLine := by rw [sizeLine_eq]; rfl

/-- allowed, or new -/
def fr (A : Addr → Prop) (H : Hp) : Addr → Prop := fun q => A q ∨ H q = none
/-- a new list, a new empty dict, that nothing else stands on -/
def Own1 (G : Sg) (A : Addr → Prop) (H H' : Hp) (v : V) : D → Prop
  | .lst ds => ∃ p xs, v = .ref p ∧ H p = none ∧ H' p = some (.lst xs) ∧ HasL G (fun q => fr A H q ∧ q ≠ p) H' xs ds
  | .dct t kvs => ∃ p, v = .ref p ∧ H p = none ∧ kvs = [] ∧ H' p = some (match t with
    | true => .dT []
    | false => .dK [])
  | _ => True
/-- what comes: data d; f: a list, a dict is new -/
def Res (G : Sg) (A : Addr → Prop) (f : Bool) (H : Hp) (d : D) (Q : VK) : Prop := ∀ v H', Same H H' → Has G (fr A H) H' v d → (f = true → Own1 G A H H' v d) → Q v H'
section
variable {G : Sg} {A A' : Addr → Prop} {H H' : Hp} {Q : VK} {d : D} {f : Bool}
theorem Res.bl {b : Bool} (h : Res G A f H (.bl b) Q) : Q (.bl b) H := h _ _ (Same.refl H) (.bl b) fun _ => trivial
theorem Res.int {i : Int} (h : Res G A f H (.int i) Q) : Q (.int i) H := h _ _ (Same.refl H) (.int i) fun _ => trivial
theorem Res.str {x : Str} (h : Res G A f H (.str x) Q) : Q (.str x) H := h _ _ (Same.refl H) (.str x) fun _ => trivial
theorem Res.non (h : Res G A f H .non Q) : Q .non H := h _ _ (Same.refl H) .non fun _ => trivial
theorem Has.here {v : V} (h : Has G A H v d) : Has G (fr A H) H v d := h.mono (fun _ q => .inl q) (Same.refl H)
theorem HasL.here {vs : List V} {ds : List D} (h : HasL G A H vs ds) : HasL G (fr A H) H vs ds := h.mono (fun _ q => .inl q) (Same.refl H)
theorem same_upd {p : Addr} {o : HO} (h : H p = none) : Same H (upd H p o) := fun b x e => by
  rw [upd_ne (ne_of_none e h)]
  exact e
theorem Res.tup {ds : List D} {xs : List V} (h : Res G A f H (.tup ds) Q) (hx : HasL G A H xs ds) {p : Addr} (hp : H p = none) : Q (.ref p) (upd H p (.tup xs)) :=
  h _ _ (same_upd hp) (.tup upd_same (hx.mono (fun _ q => .inl q) (same_upd hp))) fun _ => trivial
theorem HasL.off {xs : List V} {ds : List D} (hx : HasL G A H xs ds) {p : Addr} {o : HO} (hp : H p = none) : HasL G (fun q => fr A H q ∧ q ≠ p) (L2.upd H p o) xs ds :=
  hx.there.mono (fun q z => ⟨.inl z.1, fun e => by
    subst e
    rw [hp] at z
    exact absurd z.2 Bool.false_ne_true⟩) (same_upd hp)
theorem Res.lst {ds : List D} {xs : List V} (h : Res G A f H (.lst ds) Q) (hx : HasL G A H xs ds) {p : Addr} (hp : H p = none) : Q (.ref p) (upd H p (.lst xs)) :=
  h _ _ (same_upd hp) (.lst (.inr hp) upd_same (hx.mono (fun _ q => .inl q) (same_upd hp))) fun _ => ⟨p, xs, rfl, hp, upd_same, hx.off hp⟩
theorem Res.tupH {v : V} {ds : List D} (h : Res G A f H (.tup ds) Q) (hv : Has G A H v (.tup ds)) : Q v H := h _ _ (Same.refl H) hv.here fun _ => trivial
theorem Res.here {v : V} (h : Res G A false H d Q) (hv : Has G A H v d) : Q v H := h _ _ (Same.refl H) hv.here (fun e => absurd e Bool.false_ne_true)
theorem Res.fls (h : Res G A false H d Q) : Res G A f H d Q := fun v H' s hv _ => h v H' s hv (fun e => absurd e Bool.false_ne_true)
theorem Res.tr (h : Res G A f H d Q) : Res G A true H d Q := fun v H' s hv o => h v H' s hv (fun _ => o rfl)
theorem same_tr {H1 H2 H3 : Hp} (a : Same H1 H2) (b : Same H2 H3) : Same H1 H3 := fun p o e => b p o (a p o e)
theorem same_none {H1 H2 : Hp} (a : Same H1 H2) {p : Addr} (h : H2 p = none) : H1 p = none := by
  cases e : H1 p with
  | none => rfl
  | some o => rw [a p o e] at h; cases h
theorem fr_up {q : Addr} (s : Same H H') (hA : ∀ q, A' q → fr A H q) : fr A' H' q → fr A H q := fun h => by
  rcases h with h | h
  · exact hA q h
  · exact .inr (same_none s h)
theorem Own1.up {v : V} {H2 : Hp} (s : Same H H') (hA : ∀ q, A' q → fr A H q) : ∀ {d : D}, Own1 G A' H' H2 v d → Own1 G A H H2 v d
  | .lst ds, ⟨p, xs, e, hp, h1, h2⟩ => ⟨p, xs, e, same_none s hp, h1, h2.mono (fun q z => ⟨fr_up s hA z.1, z.2⟩) (Same.refl _)⟩
  | .dct t kvs, ⟨p, e, hp, h1, h2⟩ => ⟨p, e, same_none s hp, h1, h2⟩
  | .non, h => h
  | .bl _, h => h
  | .int _, h => h
  | .str _, h => h
  | .tup _, h => h
  | .scr _, h => h
  | .obj _ _, h => h
theorem Res.up (s : Same H H') (hA : ∀ q, A' q → fr A H q) (h : Res G A f H d Q) : Res G A' f H' d Q := fun v H2 s2 hv o =>
  h v H2 (same_tr s s2) (hv.mono (fun q z => fr_up s hA z) (Same.refl _)) fun e => (o e).up s hA
end

/-! ### two-place operators -/
def opOf : BinO → Operator
  | .add => .Add
  | .sub => .Sub
  | .mul => .Mult
  | .fdiv => .FloorDiv
  | .mod => .Mod
  | .pow => .Pow
def rBin (G : Sg) (o : BinO) : R2 := fun x y H Q => ∃ (A : Addr → Prop) (dx dy d : D), Has G A H x dx ∧ Has G A H y dy ∧ binD o dx dy = .ok d ∧ Res G A true H d Q
theorem hasL_rep {G : Sg} {A : Addr → Prop} {H : Hp} {xs : List V} {ds : List D} (h : HasL G A H xs ds) : ∀ n : Nat, HasL G A H (List.replicate n xs).flatten (List.replicate n ds).flatten
  | 0 => .nil
  | n + 1 => by
    rw [List.replicate_succ, List.replicate_succ, List.flatten_cons, List.flatten_cons]
    exact h.append (hasL_rep h n)
theorem len_rep {α : Type} (xs : List α) : ∀ n : Nat, (List.replicate n xs).flatten.length = xs.length * n
  | 0 => by simp
  | n + 1 => by
    rw [List.replicate_succ, List.flatten_cons, List.length_append, len_rep xs n, Nat.mul_succ, Nat.add_comm]
/-! tuple * int, whatever the int -/
theorem tuple_mul1 (l : Addr) (items : Array Value) (n : Nat) (dd : Option Addr) (sl : Array (Option Value)) (x : Int) (u : Tok) (c0 : (decide (x < -(2 ^ 63)) || decide (x ≥ 2 ^ 63)) = false) (c1 : (items.isEmpty || x == 1) = true) :
    Meets (Builtin.«tuple.__mul__» ⟨[.ref l, .int x u], []⟩) (fun _ R s => s.heap.get? l = some { cls := .type "tuple", dict := dd, data := .seq items n, slots := sl } ∧ R (.ok (.ret (Value.ref l))) s) :=
  .of_wp fun prog w A R s h => by
    obtain ⟨hp, g, d, tk, os⟩ := s
    obtain ⟨hl, h⟩ := h
    have f1 := AutoSeq1.idx_int
    wp_walk using wpAny_loadPart' hl
    repeat (first
      | (refine wpAny_ite_false (decide_eq_false (by rw [c0]; exact Bool.false_ne_true)) ?_; wp_walk using wpAny_loadPart' hl)
      | (refine wpAny_ite_true (decide_eq_true c1) ?_; wp_walk using wpAny_loadPart' hl))
    exact ⟨_, rfl, h⟩
theorem tuple_mul0 (l : Addr) (items : Array Value) (n : Nat) (dd : Option Addr) (sl : Array (Option Value)) (x : Int) (u : Tok) (c0 : (decide (x < -(2 ^ 63)) || decide (x ≥ 2 ^ 63)) = false) (c1 : (items.isEmpty || x == 1) = false) (c2 : (decide (x ≤ 0) || items.isEmpty) = true) :
    Meets (Builtin.«tuple.__mul__» ⟨[.ref l, .int x u], []⟩) (fun _ R s => s.heap.get? l = some { cls := .type "tuple", dict := dd, data := .seq items n, slots := sl } ∧
      R (.ok (.ret (Value.ref s.heap.objs.size))) { s with heap := s.heap.push { cls := Value.type "tuple", data := Data.seq #[] }, toks := s.toks }) :=
  .of_wp fun prog w A R s h => by
    obtain ⟨hp, g, d, tk, os⟩ := s
    obtain ⟨hl, h⟩ := h
    have f1 := AutoSeq1.idx_int
    wp_walk using wpAny_loadPart' hl
    repeat (first
      | (refine wpAny_ite_false (decide_eq_false (by rw [c0]; exact Bool.false_ne_true)) ?_; wp_walk using wpAny_loadPart' hl)
      | (refine wpAny_ite_false (decide_eq_false (by rw [c1]; exact Bool.false_ne_true)) ?_; wp_walk using wpAny_loadPart' hl)
      | (refine wpAny_ite_true (decide_eq_true c2) ?_; wp_walk using wpAny_loadPart' hl))
    exact ⟨_, rfl, h⟩
def rRepA : R2 := fun x y H Q => ∃ l k xs, x = .ref l ∧ y = .int k ∧ H l = some (.tup xs) ∧ -(2 ^ 62) ≤ k ∧ k < 2 ^ 62 ∧ xs.length * k.toNat ≤ sizeLine ∧
  (xs = [] ∨ k = 1 → Q (.ref l) H) ∧ (¬ (xs = [] ∨ k = 1) → ∀ p, H p = none → Q (.ref p) (upd H p (.tup (List.replicate k.toNat xs).flatten)))
theorem op_repA {X : Cx} : OpR X (binaryOp .Mult) rRepA := by
  intro pins s σ H x y v u Q I rx ry h
  obtain ⟨l, k, xs, rfl, rfl, hT, hk1, hk2, hz, q1, q2⟩ := h
  cases rx
  obtain ⟨t, rfl⟩ := ry
  obtain ⟨its, r, ⟨⟨cls, dd, data, sl⟩, ho, hc, n, hd⟩, hs⟩ := I.tuple (SqT.of (K := X.K) hT)
  simp only at hc hd
  subst hc hd
  have hle : its.length = xs.length := r.length.symm
  have c0 : (decide (k < -(2 ^ 63)) || decide (k ≥ 2 ^ 63)) = false := by
    rw [decide_eq_false (by omega), decide_eq_false (by omega)] <;> rfl
  have go : ∀ {S : Bool → (Result → Shared → Prop) → Shared → Prop} {R : Value → Shared → Prop}, True → True := fun _ => trivial
  have isE : its.toArray.isEmpty = decide (xs = []) := by
    cases xs with
    | nil =>
      have : its = [] := List.eq_nil_of_length_eq_zero hle
      subst this
      rfl
    | cons a b =>
      cases its with
      | nil => simp at hle
      | cons c d => simp
  by_cases hc : xs = [] ∨ k = 1
  · have c1 : (its.toArray.isEmpty || k == 1) = true := by
      rw [isE, Bool.or_eq_true]
      rcases hc with e | e
      · exact .inl (decide_eq_true e)
      · exact .inr (beq_iff_eq.mpr e)
    refine wpAny_binaryOp_repeat_ref (T := "tuple") (U := "int") (by decide) ⟨_, ho, rfl⟩ (fun s' => typeIs_int s' k t) noFill_tuple_mul F.fills_int_mul F.slot_int_rmul repeat_tuple F.slot_int_index.lookup
      (call_meets F.slot_int_rmul (typeIs_int s k t) F.entry_int_rmul (F.args_int_rmul_2 _ _) (int_rmul_tuple k t l its.toArray n dd sl)
        ⟨ho, rfl, ⟨_, ho, rfl⟩, call_meets F.slot_tuple_mul ⟨_, ho, rfl⟩ F.entry_tuple_mul (F.args_tuple_mul_2 _ _) (tuple_mul1 l its.toArray n dd sl k t c0 c1) ⟨ho, ?_⟩⟩)
    exact ⟨.ref l, H, I, rfl, q1 hc⟩
  · have hx : xs ≠ [] := fun e => hc (.inl e)
    have hk : k ≠ 1 := fun e => hc (.inr e)
    have c1 : (its.toArray.isEmpty || k == 1) = false := by
      rw [isE, decide_eq_false hx, Bool.false_or]
      exact beq_eq_false_iff_ne.mpr hk
    by_cases h0 : k ≤ 0
    · have c2 : (decide (k ≤ 0) || its.toArray.isEmpty) = true := by
        rw [decide_eq_true h0, Bool.true_or]
      refine wpAny_binaryOp_repeat_ref (T := "tuple") (U := "int") (by decide) ⟨_, ho, rfl⟩ (fun s' => typeIs_int s' k t) noFill_tuple_mul F.fills_int_mul F.slot_int_rmul repeat_tuple F.slot_int_index.lookup
        (call_meets F.slot_int_rmul (typeIs_int s k t) F.entry_int_rmul (F.args_int_rmul_2 _ _) (int_rmul_tuple k t l its.toArray n dd sl)
          ⟨ho, rfl, ⟨_, ho, rfl⟩, call_meets F.slot_tuple_mul ⟨_, ho, rfl⟩ F.entry_tuple_mul (F.args_tuple_mul_2 _ _) (tuple_mul0 l its.toArray n dd sl k t c0 c1 c2) ⟨ho, ?_⟩⟩)
      have e0 : k.toNat = 0 := by omega
      have q := q2 hc _ (I.hok.fresh (Nat.le_refl _))
      rw [e0, List.replicate_zero, List.flatten_nil] at q
      refine ⟨.ref s.heap.objs.size, _, I.laid (t' := s.toks) (o := .tup []) (fun b ob q => Heap.get?_push_of_some _ q) (Nat.le_refl _) ?_, rfl, q⟩
      exact ⟨Nat.zero_le _, [], .nil, IsTup.new _ _⟩
    · have c2 : (decide (k ≤ 0) || its.toArray.isEmpty) = false := by
        rw [isE, decide_eq_false hx, Bool.or_false]
        exact decide_eq_false h0
      have sz : ((its.toArray.size : Nat) : Int) * k ≤ sizeLine := by
        rw [List.size_toArray, hle]
        have e : k = ((k.toNat : Nat) : Int) := (Int.toNat_of_nonneg (by omega)).symm
        rw [e]
        exact_mod_cast hz
      have sl1 : (sizeLine : Int) ≤ (2 ^ 63 - 1) / 8 := by
        rw [sizeLine_eq]
        decide
      have c3 : ¬ ((its.toArray.size : Nat) : Int) * k > (2 ^ 63 - 1) / 8 := by omega
      have c4 : Builtin.Tuple.tupleTooMany (((its.toArray.size : Nat) : Int) * k) = false := by
        unfold Builtin.Tuple.tupleTooMany
        exact decide_eq_false (by omega)
      have flen : (List.replicate k.toNat its).flatten.length ≤ sizeLine := by
        rw [len_rep, hle]
        exact hz
      refine wpAny_binaryOp_repeat_ref (T := "tuple") (U := "int") (by decide) ⟨_, ho, rfl⟩ (fun s' => typeIs_int s' k t) noFill_tuple_mul F.fills_int_mul F.slot_int_rmul repeat_tuple F.slot_int_index.lookup
        (call_meets F.slot_int_rmul (typeIs_int s k t) F.entry_int_rmul (F.args_int_rmul_2 _ _) (int_rmul_tuple k t l its.toArray n dd sl)
          ⟨ho, rfl, ⟨_, ho, rfl⟩, call_meets F.slot_tuple_mul ⟨_, ho, rfl⟩ F.entry_tuple_mul (F.args_tuple_mul_2 _ _) (tuple_mulW l its.toArray n dd sl k t c0 c1 c2 c3 c4 (by rw [size_rep, List.size_toArray]; exact flen)) ⟨ho, ?_⟩⟩)
      rw [size_rep]
      refine ⟨.ref s.heap.objs.size, _, I.laid (t' := s.toks) (o := .tup (List.replicate k.toNat xs).flatten) (fun b ob q => Heap.get?_push_of_some _ q) (Nat.le_refl _) ?_, rfl, q2 hc _ (I.hok.fresh (Nat.le_refl _))⟩
      exact ⟨by rw [len_rep]; exact hz, _, r.rep k.toNat, IsTup.new _ _⟩
theorem mulOk_ok {i j : Int} (h : mulOk i j = true) : CMul i j ∨ CMulW i j := by
  unfold mulOk small at h
  rw [Bool.or_eq_true, Bool.or_eq_true] at h
  rcases h with (h | h) | h
  · obtain ⟨h1, h2⟩ := bb h
    exact .inl (.inl ⟨of_decide_eq_true h1, of_decide_eq_true h2⟩)
  · obtain ⟨h1, h2⟩ := bb h
    exact .inl (.inr ⟨of_decide_eq_true h1, of_decide_eq_true h2⟩)
  · exact .inr (show CMulW i j from of_decide_eq_true (p := i.natAbs.log2 + j.natAbs.log2 < 1000000) h)
theorem op_bin {G : Sg} {X : Cx} (hG : X.K = G.K) (o : BinO) : OpR X (binaryOp (opOf o)) (rBin G o) := by
  intro pins s σ H x y v u Q I rx ry h
  obtain ⟨A, dx, dy, d, hx, hy, e, q⟩ := h
  unfold binD at e
  split at e
  · -- ints
    cases hx; cases hy; cases e
    exact op_add pins s σ H _ _ v u Q I rx ry ⟨_, _, rfl, rfl, q.int⟩
  · obtain ⟨c, e⟩ := guardR_ok e
    cases hx; cases hy; cases e
    exact op_add_str pins s σ H _ _ v u Q I rx ry ⟨_, _, rfl, rfl, by rw [← line_eq]; exact of_decide_eq_true c, q.str⟩
  · obtain ⟨c, e⟩ := guardR_ok e
    cases hx with
    | tup h1 h2 =>
      cases hy with
      | tup h3 h4 =>
        cases e
        refine op_catA pins s σ H _ _ v u Q I rx ry ⟨_, _, _, _, rfl, rfl, .of h1, .of h3, ?_, fun e0 => ?_, fun _ e0 => ?_, fun _ _ p hp => ?_⟩
        · rw [← line_eq, h2.length, h4.length]
          exact of_decide_eq_true c
        · subst e0
          cases h2
          exact q.tupH (.tup h3 h4)
        · subst e0
          cases h4
          rw [List.append_nil] at q
          exact q.tupH (.tup h1 h2)
        · exact q.tup (h2.append h4) hp
  · obtain ⟨c, e⟩ := guardR_ok e
    cases hx with
    | lst h0 h1 h2 =>
      cases hy with
      | lst h0' h3 h4 =>
        cases e
        refine op_cat pins s σ H _ _ v u Q I rx ry ⟨_, _, _, _, rfl, rfl, h1, h3, ?_, fun p hp => ?_⟩
        · rw [← line_eq, h2.length, h4.length]
          exact of_decide_eq_true c
        · exact q.lst (h2.append h4) hp
  · cases hx; cases hy; cases e
    exact op_sub pins s σ H _ _ v u Q I rx ry ⟨_, _, rfl, rfl, q.int⟩
  · obtain ⟨c, e⟩ := guardR_ok e
    obtain ⟨c1, c2⟩ := bb c
    obtain ⟨c3, c4⟩ := bb c1
    cases hx with
    | tup h1 h2 =>
      cases hy
      cases e
      refine op_repA pins s σ H _ _ v u Q I rx ry ⟨_, _, _, rfl, rfl, h1, of_decide_eq_true c3, of_decide_eq_true c4, ?_, fun e0 => ?_, fun _ p hp => ?_⟩
      · rw [← line_eq, h2.length]
        exact of_decide_eq_true c2
      · refine q.tupH ?_
        rcases e0 with e0 | e0
        · subst e0
          cases h2
          have z : ∀ n, (List.replicate n ([] : List D)).flatten = [] := fun n => List.eq_nil_of_length_eq_zero (by rw [len_rep]; simp)
          rw [z]
          exact .tup h1 .nil
        · subst e0
          have z : ∀ xs : List D, (List.replicate (1 : Int).toNat xs).flatten = xs := fun xs => by simp
          rw [z]
          exact .tup h1 h2
      · exact q.tup (hasL_rep h2 _) hp
  · obtain ⟨c, e⟩ := guardR_ok e
    obtain ⟨c1, c2⟩ := bb c
    obtain ⟨c3, c4⟩ := bb c1
    cases hx with
    | lst h0 h1 h2 =>
      cases hy
      cases e
      have k1 := of_decide_eq_true c3
      have k2 := of_decide_eq_true c4
      refine op_rep pins s σ H _ _ v u Q I rx ry ⟨_, _, _, rfl, rfl, h1, by omega, by omega, ?_, fun p hp => ?_⟩
      · rw [← line_eq, h2.length]
        exact of_decide_eq_true c2
      · exact q.lst (hasL_rep h2 _) hp
  · obtain ⟨c, e⟩ := guardR_ok e
    cases hx; cases hy; cases e
    rcases mulOk_ok c with c | c
    · exact op_mul pins s σ H _ _ v u Q I rx ry ⟨_, _, rfl, rfl, c, q.int⟩
    · exact op_mulW pins s σ H _ _ v u Q I rx ry ⟨_, _, rfl, rfl, c, q.int⟩
  · obtain ⟨c, e⟩ := guardR_ok e
    obtain ⟨c1, c2⟩ := bb c
    cases hx; cases hy; cases e
    exact op_fdivW pins s σ H _ _ v u Q I rx ry ⟨_, _, rfl, rfl, ⟨of_decide_eq_true c1, of_decide_eq_true c2⟩, q.int⟩
  · obtain ⟨c, e⟩ := guardR_ok e
    cases hx; cases hy; cases e
    exact op_mod pins s σ H _ _ v u Q I rx ry ⟨_, _, rfl, rfl, of_decide_eq_true c, q.int⟩
  · obtain ⟨c, e⟩ := guardR_ok e
    obtain ⟨c1, c2⟩ := bb c
    obtain ⟨c3, c4⟩ := bb c1
    obtain ⟨c5, c6⟩ := bb c2
    cases hx; cases hy; cases e
    have k1 := of_decide_eq_true c5
    have k2 := of_decide_eq_true c6
    exact op_pow pins s σ H _ _ v u Q I rx ry ⟨_, _, rfl, rfl, ⟨of_decide_eq_true c3, of_decide_eq_true c4, by omega⟩, q.int⟩
  · cases e
end PD
end

section
set_option Elab.async false
set_option linter.all false
set_option maxRecDepth 100000
set_option maxHeartbeats 4000000
/-! PD, part 4: comparisons. -/
namespace PD
open PySem PySem.Spec PyProof.Rows L2

/-! ### keys -/
theorem eqv_keyD (a b : Key) : PyData.eqv (toP (keyD a)) (toP (keyD b)) = decide (a = b) := by
  cases a <;> cases b <;> simp [keyD, toP, PyData.eqv] <;> rw [Bool.eq_iff_iff] <;> simp
theorem eqv_keyDs : ∀ a b : List Key, PyData.eqvAll (toPs (a.map keyD)) (toPs (b.map keyD)) = decide (a = b)
  | [], [] => by simp [toPs, PyData.eqvAll]
  | [], b :: bs => by simp [toPs, PyData.eqvAll]
  | a :: as, [] => by simp [toPs, PyData.eqvAll]
  | a :: as, b :: bs => by
    rw [List.map_cons, List.map_cons, toPs, toPs, PyData.eqvAll, eqv_keyD, eqv_keyDs as bs, Bool.eq_iff_iff]
    simp
theorem eqD_keyT (a b : List Key) : eqD (.tup (a.map keyD)) (.tup (b.map keyD)) = decide (a = b) := by
  unfold eqD
  rw [toP, toP, PyData.eqv]
  exact eqv_keyDs a b
theorem eqD_key (a b : Key) : eqD (keyD a) (keyD b) = decide (a = b) := eqv_keyD a b
section
variable {G : Sg} {A : Addr → Prop} {H : Hp}
theorem key_int {v : V} {x : D} (h : Has G A H v x) (k : keyOk false x = true) : ∃ key : Key, x = keyD key ∧ v = kV key := by
  cases x with
  | int i => cases h; exact ⟨.inl i, rfl, rfl⟩
  | str s => cases h; exact ⟨.inr s, rfl, rfl⟩
  | _ => simp [keyOk] at k
theorem keys_of : ∀ {xs : List D} {vs : List V}, HasL G A H vs xs → xs.all isAtom = true → ∃ ks : List Key, xs = ks.map keyD ∧ vs = ks.map kV
  | [], _, h, _ => by cases h; exact ⟨[], rfl, rfl⟩
  | x :: xs, _, h, k => by
    rw [List.all_cons] at k
    obtain ⟨k1, k2⟩ := bb k
    cases h with
    | cons h1 h2 =>
      obtain ⟨ks, e1, e2⟩ := keys_of h2 k2
      subst e1 e2
      cases x with
      | int i => cases h1; exact ⟨.inl i :: ks, rfl, rfl⟩
      | str s => cases h1; exact ⟨.inr s :: ks, rfl, rfl⟩
      | _ => simp [isAtom] at k1
theorem key_tup {v : V} {x : D} (h : Has G A H v x) (k : keyOk true x = true) : ∃ (ks : List Key) (b : Addr), x = .tup (ks.map keyD) ∧ v = .ref b ∧ H b = some (.tup (ks.map kV)) := by
  cases x with
  | tup xs =>
    cases h with
    | tup h1 h2 =>
      obtain ⟨ks, e1, e2⟩ := keys_of h2 (by simpa [keyOk] using k)
      subst e1 e2
      exact ⟨ks, _, rfl, rfl, h1⟩
  | _ => simp [keyOk] at k
theorem findK_of {κ : Type} [DecidableEq κ] {f : κ → D} (inj : ∀ a b, eqD (f a) (f b) = decide (a = b)) (k : κ) : ∀ {kvs : List (κ × V)} {ds : List (D × D)}, ds.map Prod.fst = kvs.map (fun p => f p.1) → HasL G A H (kvs.map Prod.snd) (ds.map Prod.snd) →
    (findK ds (f k) = none ∧ valV kvs k = none) ∨ ∃ d v, findK ds (f k) = some d ∧ valV kvs k = some v ∧ Has G A H v d
  | [], [], _, _ => .inl ⟨rfl, rfl⟩
  | [], _ :: _, e, _ => by simp at e
  | _ :: _, [], e, _ => by simp at e
  | (k', v) :: kvs, (x, d) :: ds, e, h => by
    rw [List.map_cons, List.map_cons] at e h
    injection e with e1 e2
    have e1 : x = f k' := e1
    subst e1
    cases h with
    | cons h1 h2 =>
      have ih := findK_of inj k e2 h2
      by_cases q : k' = k
      · refine .inr ⟨d, v, ?_, valV_pos (p := (k', v)) q, h1⟩
        unfold findK
        rw [List.find?_cons_of_pos]
        · rfl
        · show eqD (f k') (f k) = true
          rw [inj]
          exact decide_eq_true q
      · have e3 : findK ((f k', d) :: ds) (f k) = findK ds (f k) := by
          unfold findK
          rw [List.find?_cons_of_neg]
          show ¬ eqD (f k') (f k) = true
          rw [inj, decide_eq_false q]
          exact Bool.false_ne_true
        rw [e3, valV_neg (p := (k', v)) q]
        exact ih
/-- what a dict holds at a key -/
theorem dget {A' : Addr → Prop} {a : Addr} {t : Bool} {kvs : List (D × D)} {x : D} {y : V} (hd : Has G A H (.ref a) (.dct t kvs)) (hx : Has G A' H y x) (k : keyOk t x = true) :
    (findK kvs x = none ∧ DGet H a y none) ∨ ∃ d v, findK kvs x = some d ∧ DGet H a y (some v) ∧ Has G A H v d := by
  cases hd with
  | dK h0 h1 h2 h3 =>
    obtain ⟨key, e1, e2⟩ := key_int hx k
    subst e1 e2
    rcases findK_of eqD_key key h2 h3 with ⟨q1, q2⟩ | ⟨d, v, q1, q2, q3⟩
    · exact .inl ⟨q1, .inl ⟨_, key, h1, rfl, q2.symm⟩⟩
    · exact .inr ⟨d, v, q1, .inl ⟨_, key, h1, rfl, q2.symm⟩, q3⟩
  | dT h0 h1 h2 h3 =>
    obtain ⟨ks, b, e1, e2, e3⟩ := key_tup hx k
    subst e1 e2
    rcases findK_of (f := fun ks : List Key => D.tup (ks.map keyD)) eqD_keyT ks h2 h3 with ⟨q1, q2⟩ | ⟨d, v, q1, q2, q3⟩
    · exact .inl ⟨q1, .inr ⟨_, ks, b, h1, rfl, e3, q2.symm⟩⟩
    · exact .inr ⟨d, v, q1, .inr ⟨_, ks, b, h1, rfl, e3, q2.symm⟩, q3⟩
end

/-! ### comparisons -/
def cOp : CmpO → CmpOp
  | .eq => .Eq
  | .ne => .NotEq
  | .lt => .Lt
  | .le => .LtE
  | .gt => .Gt
  | .ge => .GtE
  | .isin => .In
  | .notin => .NotIn
  | .iss => .Is
  | .isnt => .IsNot
def rCmp (G : Sg) (o : CmpO) : R2 := fun x y H Q => ∃ (A : Addr → Prop) (dx dy : D) (b : Bool), Has G A H x dx ∧ Has G A H y dy ∧ cmpD o dx dy = .ok (.bl b) ∧ Q (.bl b) H
theorem cmpD_bl {o : CmpO} {x y d : D} (h : cmpD o x y = .ok d) : ∃ b, d = .bl b := by
  unfold cmpD at h
  split at h <;> first
    | (obtain ⟨_, h⟩ := guardR_ok h; exact ⟨_, (ok_inj h).symm⟩)
    | cases h
theorem cmpD_exc {o : CmpO} {x y : D} {e : Xc} (h : cmpD o x y = .exc e) : False := by
  unfold cmpD at h
  split at h <;> first
    | cases h
    | (obtain ⟨_, h⟩ := guardR_exc h; cases h)
theorem ordOk_ok {x y : D} (h : ordOk x y = true) : plain x = true ∧ plain y = true ∧ PySem.W.alike (toP x) (toP y) = true ∧ toP x ≠ .none ∧ min (toP x).depth (toP y).depth ≤ 60 := by
  unfold ordOk at h
  obtain ⟨h, h5⟩ := bb h
  obtain ⟨h, h4⟩ := bb h
  obtain ⟨h, h3⟩ := bb h
  obtain ⟨h1, h2⟩ := bb h
  refine ⟨h1, h2, h3, ?_, of_decide_eq_true h5⟩
  cases x <;> simp_all [toP]
theorem any_toPs (x : D) : ∀ ys : List D, ((toPs ys).any fun y => PyData.eqv y (toP x)) = ys.any fun y => eqD y x
  | [] => by simp [toPs]
  | y :: ys => by rw [toPs, List.any_cons, List.any_cons, any_toPs x ys]; rfl
theorem op_cmp {G : Sg} {X : Cx} (hG : X.K = G.K) (hu : X.A.units + 64 < cLine) (o : CmpO) : OpR X (compareOp (cOp o)) (rCmp G o) := by
  intro pins s σ H x y v u Q I rx ry h
  obtain ⟨A, dx, dy, b, hx, hy, e, q⟩ := h
  have rd : ∀ {x : V} {v : Value} {dx : D}, RelV x v → Has G A H x dx → plain dx = true → ∃ as, Reads s.heap v (toP dx) as := fun {x v dx} rx hx p =>
    Dp.reads I (toP dx) x v (by rw [hG]; exact hx.dp p) rx
  unfold cmpD at e
  split at e
  · obtain ⟨c, e⟩ := guardR_ok e
    cases e
    unfold eqOk at c
    obtain ⟨c, c3⟩ := bb c
    obtain ⟨c1, c2⟩ := bb c
    obtain ⟨as, r1⟩ := rd rx hx c1
    obtain ⟨bs, r2⟩ := rd ry hy c2
    have c3 := of_decide_eq_true c3
    unfold deep at c3
    exact SeqAt.eq_plain r1 r2 (toP_plain _ c1) (toP_plain _ c2) (by omega) ⟨.bl _, H, I, rfl, q⟩
  · obtain ⟨c, e⟩ := guardR_ok e
    cases e
    unfold eqOk at c
    obtain ⟨c, c3⟩ := bb c
    obtain ⟨c1, c2⟩ := bb c
    obtain ⟨as, r1⟩ := rd rx hx c1
    obtain ⟨bs, r2⟩ := rd ry hy c2
    have c3 := of_decide_eq_true c3
    unfold deep at c3
    exact SeqAt.ne_plain r1 r2 (toP_plain _ c1) (toP_plain _ c2) (by omega) ⟨.bl _, H, I, rfl, q⟩
  · obtain ⟨c, e⟩ := guardR_ok e
    cases e
    obtain ⟨c1, c2, c3, c4, c5⟩ := ordOk_ok c
    obtain ⟨as, r1⟩ := rd rx hx c1
    obtain ⟨bs, r2⟩ := rd ry hy c2
    exact PySem.W.lt_data r1 r2 c3 c4 (by omega) ⟨.bl _, H, I, rfl, q⟩
  · obtain ⟨c, e⟩ := guardR_ok e
    cases e
    obtain ⟨c1, c2, c3, c4, c5⟩ := ordOk_ok c
    obtain ⟨as, r1⟩ := rd rx hx c1
    obtain ⟨bs, r2⟩ := rd ry hy c2
    exact PySem.W.le_data r1 r2 c3 c4 (by omega) ⟨.bl _, H, I, rfl, q⟩
  · obtain ⟨c, e⟩ := guardR_ok e
    cases e
    obtain ⟨c1, c2, c3, c4, c5⟩ := ordOk_ok c
    obtain ⟨as, r1⟩ := rd rx hx c1
    obtain ⟨bs, r2⟩ := rd ry hy c2
    exact PySem.W.gt_data r1 r2 c3 c4 (by omega) ⟨.bl _, H, I, rfl, q⟩
  · obtain ⟨c, e⟩ := guardR_ok e
    cases e
    obtain ⟨c1, c2, c3, c4, c5⟩ := ordOk_ok c
    obtain ⟨as, r1⟩ := rd rx hx c1
    obtain ⟨bs, r2⟩ := rd ry hy c2
    exact PySem.W.ge_data r1 r2 c3 c4 (by omega) ⟨.bl _, H, I, rfl, q⟩
  · obtain ⟨c, e⟩ := guardR_ok e
    cases e
    obtain ⟨c, c3⟩ := bb c
    obtain ⟨c1, c2⟩ := bb c
    have c3 := of_decide_eq_true c3
    unfold deep at c3
    obtain ⟨as, r1⟩ := rd rx hx c1
    obtain ⟨bs, r2⟩ := rd ry hy (by rw [plain]; exact c2)
    rw [toP] at r2
    refine SeqAt.in_list_data r2 r1 (toPs_plain _ c2) (toP_plain _ c1) (by omega) ⟨.bl _, H, I, rfl, ?_⟩
    rw [any_toPs]
    exact q
  · obtain ⟨c, e⟩ := guardR_ok e
    cases e
    obtain ⟨c, c3⟩ := bb c
    obtain ⟨c1, c2⟩ := bb c
    have c3 := of_decide_eq_true c3
    unfold deep at c3
    obtain ⟨as, r1⟩ := rd rx hx c1
    obtain ⟨bs, r2⟩ := rd ry hy (by rw [plain]; exact c2)
    rw [toP] at r2
    refine SeqAt.in_tuple_data r2 r1 (toPs_plain _ c2) (toP_plain _ c1) (by omega) ⟨.bl _, H, I, rfl, ?_⟩
    rw [any_toPs]
    exact q
  · obtain ⟨c, e⟩ := guardR_ok e
    cases e
    obtain ⟨c, c3⟩ := bb c
    obtain ⟨c1, c2⟩ := bb c
    have c3 := of_decide_eq_true c3
    unfold deep at c3
    obtain ⟨as, r1⟩ := rd rx hx c1
    obtain ⟨bs, r2⟩ := rd ry hy (by rw [plain]; exact c2)
    rw [toP] at r2
    refine SeqAt.notIn_list_data r2 r1 (toPs_plain _ c2) (toP_plain _ c1) (by omega) ⟨.bl _, H, I, rfl, ?_⟩
    rw [any_toPs]
    exact q
  · obtain ⟨c, e⟩ := guardR_ok e
    cases e
    obtain ⟨c, c3⟩ := bb c
    obtain ⟨c1, c2⟩ := bb c
    have c3 := of_decide_eq_true c3
    unfold deep at c3
    obtain ⟨as, r1⟩ := rd rx hx c1
    obtain ⟨bs, r2⟩ := rd ry hy (by rw [plain]; exact c2)
    rw [toP] at r2
    refine SeqAt.notIn_tuple_data r2 r1 (toPs_plain _ c2) (toP_plain _ c1) (by omega) ⟨.bl _, H, I, rfl, ?_⟩
    rw [any_toPs]
    exact q
  · obtain ⟨c, e⟩ := guardR_ok e
    cases e
    have ⟨a, ea⟩ : ∃ a, y = .ref a := by cases hy <;> exact ⟨_, rfl⟩
    subst ea
    cases ry
    rename_i t kvs
    have r : ∃ o, DGet H a x o ∧ o.isSome = (findK kvs dx).isSome := by
      rcases dget hy hx c with ⟨q1, q2⟩ | ⟨d, v, q1, q2, q3⟩
      · exact ⟨_, q2, by rw [q1]; rfl⟩
      · exact ⟨_, q2, by rw [q1]; rfl⟩
    obtain ⟨o, r1, r2⟩ := r
    refine d_in (by omega) I r1 rx fun s' I' => ⟨.bl _, H, I', rfl, ?_⟩
    rw [r2]
    exact q
  · obtain ⟨c, e⟩ := guardR_ok e
    cases e
    have ⟨a, ea⟩ : ∃ a, y = .ref a := by cases hy <;> exact ⟨_, rfl⟩
    subst ea
    cases ry
    rename_i t kvs
    have r : ∃ o, DGet H a x o ∧ o.isSome = (findK kvs dx).isSome := by
      rcases dget hy hx c with ⟨q1, q2⟩ | ⟨d, v, q1, q2, q3⟩
      · exact ⟨_, q2, by rw [q1]; rfl⟩
      · exact ⟨_, q2, by rw [q1]; rfl⟩
    obtain ⟨o, r1, r2⟩ := r
    refine d_notIn (by omega) I r1 rx fun s' I' => ⟨.bl _, H, I', rfl, ?_⟩
    rw [r2]
    exact q
  · obtain ⟨c, e⟩ := guardR_ok e
    cases e
    cases hx
    cases hy
    exact op_is_bl pins s σ H _ _ _ _ Q I rx ry ⟨_, _, rfl, rfl, q⟩
  · obtain ⟨c, e⟩ := guardR_ok e
    cases e
    cases hx
    cases hy
    exact op_isnot_bl pins s σ H _ _ _ _ Q I rx ry ⟨_, _, rfl, rfl, q⟩
  · cases e
end PD
end

section
set_option Elab.async false
set_option linter.all false
set_option maxRecDepth 100000
set_option maxHeartbeats 4000000
/-! PD, part 5: builtins, subscripts, slices, truth. -/
namespace PD
open PySem PySem.Spec PyProof.Rows L2

def bltV : Blt → Value
  | .len => .builtin "len"
  | .tupleOf => .type "tuple"
  | .listOf => .type "list"
  | .abs => .builtin "abs"
  | .intOf => .type "int"
  | .strOf => .type "str"
  | .all => .builtin "all"
  | .any => .builtin "any"
  | .sum => .builtin "sum"
  | .min1 => .builtin "min"
  | .max1 => .builtin "max"
  | .min2 => .builtin "min"
  | .max2 => .builtin "max"
  | .sorted => .builtin "sorted"
def rBi (G : Sg) (b : Blt) : List V → Hp → VK → Prop := fun vs H Q => ∃ (A : Addr → Prop) (ds : List D) (d : D), HasL G A H vs ds ∧ biD b ds = .ok d ∧ Res G A b.new H d Q
theorem biD_exc {b : Blt} {xs : List D} {e : Xc} (h : biD b xs = .exc e) : False := by
  unfold biD at h
  split at h <;> first
    | cases h
    | (rcases bind_exc h with h | ⟨_, _, h⟩
       · exact ofO_exc h
       · cases h)
    | (have h := (guardR_exc h).2; cases h)
section
variable {G : Sg} {A : Addr → Prop} {H : Hp}
theorem one {vs : List V} {d : D} (h : HasL G A H vs [d]) : ∃ v, vs = [v] ∧ Has G A H v d := by
  cases h with
  | cons h1 h2 => cases h2; exact ⟨_, rfl, h1⟩
theorem two {vs : List V} {d e : D} (h : HasL G A H vs [d, e]) : ∃ v w, vs = [v, w] ∧ Has G A H v d ∧ Has G A H w e := by
  cases h with
  | cons h1 h2 =>
    obtain ⟨w, e, h3⟩ := one h2
    subst e
    exact ⟨_, w, rfl, h1, h3⟩
theorem has_bls : ∀ {ds : List D} {bs : List Bool} {vs : List V}, isBls ds = some bs → HasL G A H vs ds → vs = bs.map V.bl
  | [], _, _, e, h => by cases e; cases h; rfl
  | d :: ds, bs, _, e, h => by
    cases d with
    | bl b =>
      rw [isBls, Option.map_eq_some_iff] at e
      obtain ⟨bs', e1, e2⟩ := e
      subst e2
      cases h with
      | cons h1 h2 =>
        cases h1
        rw [has_bls e1 h2]
        rfl
    | _ => cases e
theorem has_ints : ∀ {ds : List D} {is : List Int} {vs : List V}, isInts ds = some is → HasL G A H vs ds → vs = is.map V.int
  | [], _, _, e, h => by cases e; cases h; rfl
  | d :: ds, is, _, e, h => by
    cases d with
    | int b =>
      rw [isInts, Option.map_eq_some_iff] at e
      obtain ⟨bs', e1, e2⟩ := e
      subst e2
      cases h with
      | cons h1 h2 =>
        cases h1
        rw [has_ints e1 h2]
        rfl
    | _ => cases e
end
theorem toPs_map : ∀ ds : List D, toPs ds = ds.map toP
  | [] => by rw [toPs]; rfl
  | d :: ds => by rw [toPs, List.map_cons, toPs_map ds]
theorem plains_iff : ∀ {ds : List D}, plains ds = true → ∀ d ∈ ds, plain d = true
  | [], _, d, h => absurd h (by simp)
  | x :: ds, p, d, h => by
    rw [plains] at p
    obtain ⟨p1, p2⟩ := bb p
    rcases List.mem_cons.mp h with e | h
    · rw [e]; exact p1
    · exact plains_iff p2 d h
theorem depthAll_le : ∀ {ds : List D} {n : Nat}, (∀ d ∈ ds, (toP d).depth ≤ n) → PyData.depthAll (toPs ds) ≤ n
  | [], n, _ => by rw [toPs]; simp [PyData.depthAll]
  | d :: ds, n, h => by
    rw [toPs, PyData.depthAll]
    have h1 := h d List.mem_cons_self
    have h2 := depthAll_le (ds := ds) (n := n) fun x hx => h x (List.mem_cons_of_mem _ hx)
    omega
theorem sortOk_ok {ds : List D} (h : sortOk ds = true) : plains ds = true ∧ PySem.W.AlikeAll (toPs ds) ∧ (∀ d ∈ ds, (toP d).depth ≤ 60) := by
  unfold sortOk at h
  obtain ⟨h, h3⟩ := bb h
  obtain ⟨h1, h2⟩ := bb h
  rw [List.all_eq_true] at h2 h3
  refine ⟨h1, ⟨fun x hx y hy => ?_, fun x hx => ?_⟩, fun d hd => ?_⟩
  · rw [toPs_map] at hx hy
    obtain ⟨a, ha, rfl⟩ := List.mem_map.mp hx
    obtain ⟨b, hb, rfl⟩ := List.mem_map.mp hy
    exact List.all_eq_true.mp (h2 a ha) b hb
  · rw [toPs_map] at hx
    obtain ⟨a, ha, rfl⟩ := List.mem_map.mp hx
    have z := h3 a ha
    cases a <;> simp_all [toP]
  · exact of_decide_eq_true (bb (h3 d hd)).2
theorem toP_min (x : D) : ∀ xs : List D, toP (minDD x xs) = PySem.W.minD (toP x) (toPs xs) := by
  intro xs
  unfold minDD PySem.W.minD
  induction xs generalizing x with
  | nil => rw [toPs]; rfl
  | cons y ys ih =>
    rw [toPs, List.foldl_cons, List.foldl_cons, ih]
    congr 1
    unfold ltD
    split <;> rfl
theorem toP_max (x : D) : ∀ xs : List D, toP (maxDD x xs) = PySem.W.maxD (toP x) (toPs xs) := by
  intro xs
  unfold maxDD PySem.W.maxD
  induction xs generalizing x with
  | nil => rw [toPs]; rfl
  | cons y ys ih =>
    rw [toPs, List.foldl_cons, List.foldl_cons, ih]
    congr 1
    unfold ltD
    split <;> rfl
theorem min_mem (x : D) : ∀ xs : List D, minDD x xs ∈ x :: xs := by
  intro xs
  unfold minDD
  induction xs generalizing x with
  | nil => exact List.mem_cons_self
  | cons y ys ih =>
    rw [List.foldl_cons]
    split
    · exact List.mem_cons_of_mem _ (ih y)
    · rcases List.mem_cons.mp (ih x) with e | e
      · rw [e]; exact List.mem_cons_self
      · exact List.mem_cons_of_mem _ (List.mem_cons_of_mem _ e)
theorem max_mem (x : D) : ∀ xs : List D, maxDD x xs ∈ x :: xs := by
  intro xs
  unfold maxDD
  induction xs generalizing x with
  | nil => exact List.mem_cons_self
  | cons y ys ih =>
    rw [List.foldl_cons]
    split
    · exact List.mem_cons_of_mem _ (ih y)
    · rcases List.mem_cons.mp (ih x) with e | e
      · rw [e]; exact List.mem_cons_self
      · exact List.mem_cons_of_mem _ (List.mem_cons_of_mem _ e)
section
variable {G : Sg} {X : Cx}
/-- an item of a list that the library names by what it reads as -/
theorem best {pins : List (Addr × Obj)} {s : Shared} {σ : L2.St} {H : Hp} {A : Addr → Prop} (hG : X.K = G.K) (I : Inv X pins σ H s) {its : List Value} {xs : List V} {ds : List D} {m : D} (rv : Vals xs its) (hl : HasL G A H xs ds) (hp : plains ds = true) (hm : m ∈ ds)
    {i : Nat} {v : Value} {h' : Heap} {bs : List Addr} (ev : its.toArray[i]? = some v) (rd : Reads h' v (toP m) bs) (k : ∀ b o, s.heap.get? b = some o → h'.get? b = some o) : ∃ x, RelV x v ∧ Has G A H x m := by
  have ev : its[i]? = some v := by simpa using ev
  have hi : i < its.length := (List.getElem?_eq_some_iff.mp ev).1
  have hix : i < xs.length := by rw [rv.length]; exact hi
  obtain ⟨u, eu, ru⟩ := rv.get (List.getElem?_eq_getElem hix)
  rw [ev] at eu
  cases eu
  obtain ⟨d, ed, hd⟩ := hl.getV (List.getElem?_eq_getElem hix)
  have hpd := plains_iff hp d (List.mem_of_getElem? ed)
  obtain ⟨as, r1⟩ := Dp.reads I (toP d) _ _ (by rw [hG]; exact hd.dp hpd) ru
  have e := SeqAt.plain_unique _ _ _ _ _ (toP_plain d hpd) (PyProof.Rows.Reads.keeps k r1) rd
  have e2 := toP_inj d m hpd (plains_iff hp m hm) e
  subst e2
  exact ⟨_, ru, hd⟩
theorem each_of {R : Value → D → Prop} {A : Addr → Prop} {H : Hp} : ∀ {vs : List Value} {xs : List V} {ds : List D}, Vals xs vs → HasL G A H xs ds → (∀ v x d, RelV x v → Has G A H x d → d ∈ ds → R v d) → PySem.W.EachIs R vs ds
  | _, _, [], r, h, _ => by
    cases h
    cases r
    exact .nil
  | _, _, d :: ds, r, h, f => by
    cases h with
    | cons h1 h2 =>
      cases r with
      | cons r1 r2 => exact .cons (f _ _ _ r1 h1 List.mem_cons_self) (each_of r2 h2 fun v x d r h m => f v x d r h (List.mem_cons_of_mem _ m))
theorem of_each {A : Addr → Prop} {H : Hp} : ∀ {vs : List Value} {ds : List D}, PySem.W.EachIs (fun v d => ∃ x, RelV x v ∧ Has G A H x d) vs ds → ∃ xs, Vals xs vs ∧ HasL G A H xs ds
  | _, _, .nil => ⟨[], .nil, .nil⟩
  | _, _, .cons ⟨x, r, h⟩ t => by
    obtain ⟨xs, r2, h2⟩ := of_each t
    exact ⟨x :: xs, .cons r r2, .cons h h2⟩
theorem sortable_ok {ds : List D} (h : tups1 ds = true) (h0 : PySem.W.AlikeAll (toPs ds)) : PySem.W.Sortable (ds.map toP) := by
  unfold tups1 at h
  rcases Bool.or_eq_true_iff.mp h with h | h
  · refine .inl fun d hd => ?_
    obtain ⟨x, hx, rfl⟩ := List.mem_map.mp hd
    have z := List.all_eq_true.mp h x hx
    cases x with
    | tup xs =>
      cases xs with
      | nil => simp at z
      | cons y ys => exact ⟨toP y, toPs ys, by rw [toP, toPs]⟩
    | _ => simp at z
  · refine .inr fun d hd => ?_
    obtain ⟨x, hx, rfl⟩ := List.mem_map.mp hd
    have z := List.all_eq_true.mp h x hx
    refine ⟨h0.2 _ (by rw [toPs_map]; exact hd), fun xs e => ?_⟩
    cases x <;> simp_all [toP]
theorem call_bi (hG : X.K = G.K) (hc : X.calm = true) (hu : X.A.units + 64 < cLine) (b : Blt) : CallR X (bltV b) (rBi G b) := by
  intro pins s σ H vs us Q I r h
  obtain ⟨A, ds, d, hl, e, q⟩ := h
  unfold biD at e
  split at e
  · obtain ⟨c, e⟩ := guardR_ok e
    cases e
    obtain ⟨v, rfl, hv⟩ := one hl
    cases hv
    exact call_len_str pins s σ H _ us Q I r ⟨_, rfl, by rw [← line_eq]; exact of_decide_eq_true c, q.int⟩
  · cases e
    obtain ⟨v, rfl, hv⟩ := one hl
    cases hv with
    | tup h1 h2 => exact call_len_seq pins s σ H _ us Q I r ⟨_, _, rfl, .inr (.of h1), by rw [h2.length]; exact q.int⟩
  · cases e
    obtain ⟨v, rfl, hv⟩ := one hl
    cases hv with
    | lst h0 h1 h2 => exact call_len_seq pins s σ H _ us Q I r ⟨_, _, rfl, .inl (.of h1), by rw [h2.length]; exact q.int⟩
  · cases e
    obtain ⟨v, rfl, hv⟩ := one hl
    cases hv with
    | scr h1 h2 => exact call_len_seq pins s σ H _ us Q I r ⟨_, _, rfl, .inl (h1.sq hG), by rw [h2.length]; exact q.int⟩
  · cases e
    obtain ⟨v, rfl, hv⟩ := one hl
    cases hv with
    | dK h0 h1 h2 h3 =>
      have hn := congrArg List.length h2
      rw [List.length_map, List.length_map] at hn
      obtain ⟨u, rfl, ru⟩ := vals1 r
      cases ru
      refine d_len I h1 fun t s' I' => ⟨.int _, H, I', ⟨_, rfl⟩, ?_⟩
      rw [← hn]
      exact q.int
    | dT h0 h1 h2 h3 =>
      have hn := congrArg List.length h2
      rw [List.length_map, List.length_map] at hn
      obtain ⟨u, rfl, ru⟩ := vals1 r
      cases ru
      obtain ⟨z, hd, ys, rel, dd⟩ := dt_rd I.hok h1
      have hl2 := Paired.length rel
      refine call_len_dictH hd dd (by rw [← hl2]; rw [sizeLine_eq] at z; omega) ?_
      refine ⟨.int _, H, I.tok _, ⟨_, rfl⟩, ?_⟩
      rw [← hl2, ← hn]
      exact q.int
  · cases e
    obtain ⟨v, rfl, hv⟩ := one hl
    cases hv with
    | tup h1 h2 => exact call_tuple_of pins s σ H _ us Q I r ⟨_, _, rfl, .inr ⟨.of h1, q.tupH (.tup h1 h2)⟩⟩
  · cases e
    obtain ⟨v, rfl, hv⟩ := one hl
    cases hv with
    | lst h0 h1 h2 => exact call_tuple_of pins s σ H _ us Q I r ⟨_, _, rfl, .inl ⟨.of h1, fun l hn => q.tup h2 hn⟩⟩
  · cases e
    obtain ⟨v, rfl, hv⟩ := one hl
    cases hv with
    | tup h1 h2 => exact call_list_of pins s σ H _ us Q I r ⟨_, _, rfl, .inr (.of h1), fun l hn => q.lst h2 hn⟩
  · cases e
    obtain ⟨v, rfl, hv⟩ := one hl
    cases hv with
    | lst h0 h1 h2 => exact call_list_of pins s σ H _ us Q I r ⟨_, _, rfl, .inl (.of h1), fun l hn => q.lst h2 hn⟩
  · cases e
    obtain ⟨v, rfl, hv⟩ := one hl
    cases hv
    exact call_abs pins s σ H _ us Q I r ⟨_, rfl, q.int⟩
  · cases e
    obtain ⟨v, rfl, hv⟩ := one hl
    cases hv
    exact call_int1 pins s σ H _ us Q I r (.inl ⟨_, rfl, q.int⟩)
  · cases e
    obtain ⟨v, rfl, hv⟩ := one hl
    cases hv
    exact call_int1 pins s σ H _ us Q I r (.inr ⟨_, rfl, q.int⟩)
  · obtain ⟨c, e⟩ := guardR_ok e
    cases e
    obtain ⟨v, rfl, hv⟩ := one hl
    cases hv
    exact call_str_int pins s σ H _ us Q I r ⟨_, rfl, of_decide_eq_true c, q.str⟩
  · obtain ⟨bs, e1, e⟩ := bind_ok e
    cases e
    obtain ⟨v, rfl, hv⟩ := one hl
    cases hv with
    | lst h0 h1 h2 =>
      have e2 := has_bls (ofO_ok e1) h2
      subst e2
      exact cr_all hc pins s σ H _ us Q I r ⟨_, _, rfl, .of h1, q.bl⟩
  · obtain ⟨bs, e1, e⟩ := bind_ok e
    cases e
    obtain ⟨v, rfl, hv⟩ := one hl
    cases hv with
    | lst h0 h1 h2 =>
      have e2 := has_bls (ofO_ok e1) h2
      subst e2
      exact cr_any hc pins s σ H _ us Q I r ⟨_, _, rfl, .of h1, q.bl⟩
  · obtain ⟨bs, e1, e⟩ := bind_ok e
    cases e
    obtain ⟨v, rfl, hv⟩ := one hl
    cases hv with
    | lst h0 h1 h2 =>
      have e2 := has_ints (ofO_ok e1) h2
      subst e2
      exact cr_sum hc pins s σ H _ us Q I r ⟨_, _, rfl, .of h1, q.int⟩
  · rename_i x xs
    obtain ⟨c, e⟩ := guardR_ok e
    cases e
    obtain ⟨v, rfl, hv⟩ := one hl
    obtain ⟨c1, c2, c3⟩ := sortOk_ok c
    cases hv with
    | lst h0 h1 h2 =>
      obtain ⟨its, rv, pl, hz⟩ := I.list (.of h1)
      obtain ⟨as, ra⟩ := Dp.readsAll I (toPs (x :: xs)) _ its (by rw [hG]; exact h2.dp c1) rv
      rw [Vals.ref1 r]
      have c2' : PySem.W.AlikeAll (toP x :: toPs xs) := by rw [toPs] at c2; exact c2
      have dl := depthAll_le (n := 60) c3
      rw [toPs] at dl ra
      refine PySem.W.min_list_data (I.ok.hd hc) pl.isList ra c2' (by omega) ?_
      intro i v h' tk bs ev rd k
      rw [← toP_min] at rd
      obtain ⟨y, ry, hy⟩ := best hG I rv h2 c1 (min_mem x xs) ev rd k
      exact ⟨y, H, I.kept k, ry, q.here hy⟩
  · rename_i x xs
    obtain ⟨c, e⟩ := guardR_ok e
    cases e
    obtain ⟨v, rfl, hv⟩ := one hl
    obtain ⟨c1, c2, c3⟩ := sortOk_ok c
    cases hv with
    | tup h1 h2 =>
      obtain ⟨its, rv, pl, hz⟩ := I.tuple (.of h1)
      obtain ⟨as, ra⟩ := Dp.readsAll I (toPs (x :: xs)) _ its (by rw [hG]; exact h2.dp c1) rv
      rw [Vals.ref1 r]
      have c2' : PySem.W.AlikeAll (toP x :: toPs xs) := by rw [toPs] at c2; exact c2
      have dl := depthAll_le (n := 60) c3
      rw [toPs] at dl ra
      refine PySem.W.min_tuple_data (I.ok.hd hc) pl ra c2' (by omega) ?_
      intro i v h' tk bs ev rd k
      rw [← toP_min] at rd
      obtain ⟨y, ry, hy⟩ := best hG I rv h2 c1 (min_mem x xs) ev rd k
      exact ⟨y, H, I.kept k, ry, q.here hy⟩
  · rename_i x xs
    obtain ⟨c, e⟩ := guardR_ok e
    cases e
    obtain ⟨v, rfl, hv⟩ := one hl
    obtain ⟨c1, c2, c3⟩ := sortOk_ok c
    cases hv with
    | lst h0 h1 h2 =>
      obtain ⟨its, rv, pl, hz⟩ := I.list (.of h1)
      obtain ⟨as, ra⟩ := Dp.readsAll I (toPs (x :: xs)) _ its (by rw [hG]; exact h2.dp c1) rv
      rw [Vals.ref1 r]
      have c2' : PySem.W.AlikeAll (toP x :: toPs xs) := by rw [toPs] at c2; exact c2
      have dl := depthAll_le (n := 60) c3
      rw [toPs] at dl ra
      refine PySem.W.max_list_data (I.ok.hd hc) pl.isList ra c2' (by omega) ?_
      intro i v h' tk bs ev rd k
      rw [← toP_max] at rd
      obtain ⟨y, ry, hy⟩ := best hG I rv h2 c1 (max_mem x xs) ev rd k
      exact ⟨y, H, I.kept k, ry, q.here hy⟩
  · rename_i x xs
    obtain ⟨c, e⟩ := guardR_ok e
    cases e
    obtain ⟨v, rfl, hv⟩ := one hl
    obtain ⟨c1, c2, c3⟩ := sortOk_ok c
    cases hv with
    | tup h1 h2 =>
      obtain ⟨its, rv, pl, hz⟩ := I.tuple (.of h1)
      obtain ⟨as, ra⟩ := Dp.readsAll I (toPs (x :: xs)) _ its (by rw [hG]; exact h2.dp c1) rv
      rw [Vals.ref1 r]
      have c2' : PySem.W.AlikeAll (toP x :: toPs xs) := by rw [toPs] at c2; exact c2
      have dl := depthAll_le (n := 60) c3
      rw [toPs] at dl ra
      refine PySem.W.max_tuple_data (I.ok.hd hc) pl ra c2' (by omega) ?_
      intro i v h' tk bs ev rd k
      rw [← toP_max] at rd
      obtain ⟨y, ry, hy⟩ := best hG I rv h2 c1 (max_mem x xs) ev rd k
      exact ⟨y, H, I.kept k, ry, q.here hy⟩
  · cases e
    obtain ⟨v, w, rfl, hv, hw⟩ := two hl
    cases hv
    cases hw
    exact call_min2 hc pins s σ H _ us Q I r ⟨_, _, rfl, q.int⟩
  · cases e
    obtain ⟨v, w, rfl, hv, hw⟩ := two hl
    cases hv
    cases hw
    exact call_max2 hc pins s σ H _ us Q I r ⟨_, _, rfl, q.int⟩
  · rename_i ds
    obtain ⟨c, e⟩ := guardR_ok e
    cases e
    obtain ⟨v, rfl, hv⟩ := one hl
    obtain ⟨c, ct⟩ := bb c
    obtain ⟨c1, c2, c3⟩ := sortOk_ok c
    cases hv with
    | lst h0 h1 h2 =>
      obtain ⟨its, rv, pl, hz⟩ := I.list (.of h1)
      rw [Vals.ref1 r]
      have hn := h2.length
      have e1 : PySem.W.EachIs (fun v d => ∃ x, RelV x v ∧ Has G A H x d) its ds := each_of rv h2 fun v x d r h _ => ⟨x, r, h⟩
      have e2 : PySem.W.EachIs (fun v d => ∃ as, Reads s.heap v (toP d) as) its ds := each_of rv h2 fun v x d r h m => Dp.reads I (toP d) x v (by rw [hG]; exact h.dp (plains_iff c1 d m)) r
      refine PySem.W.sorted_data (R := fun v d => ∃ x, RelV x v ∧ Has G A H x d) (enc := toP) pl.isList e1 e2 (fun d hd d' hd' => c2.1 d (by rw [toPs_map]; exact hd) d' (by rw [toPs_map]; exact hd')) (sortable_ok ct c2) (by omega) (fun b hb => by have := c3 b hb; omega) ?_
      intro out ho eo
      obtain ⟨ys, ry, hy⟩ := of_each eo
      obtain ⟨ep, he'⟩ := PyProof.Rows.sortedAll_at s.heap its out.toArray
      have hyl := hy.length
      rw [List.length_mergeSort] at hyl
      refine ⟨.ref _, upd H (s.heap.objs.size + 1) (.lst ys), I.laid (t' := s.toks) (fun _ _ => PyProof.Rows.sortedAll_old) (Nat.le_succ _) ⟨by omega, out, ep, ry, he'⟩, rfl, q.lst hy (I.hok.fresh (Nat.le_succ _))⟩
  · cases e
end

/-! ### isinstance -/
def isT : IsT → Value
  | .int => .type "int"
  | .bool => .type "bool"
  | .str => .type "str"
  | .tuple => .type "tuple"
  | .list => .type "list"
  | .dict => .type "dict"
def isV : IsT → V
  | .int => .ty "int"
  | .bool => .ty "bool"
  | .str => .ty "str"
  | .tuple => .ty "tuple"
  | .list => .ty "list"
  | .dict => .ty "dict"
theorem isD_exc {x : D} {t : IsT} {e : Xc} (h : isD x t = .exc e) : False := by
  unfold isD at h
  split at h <;> cases h
theorem isi_r {G : Sg} {K : PySem.W.Frag} {A : Addr → Prop} {H : Hp} {x : V} {dx d : D} {t : IsT} (hx : Has G A H x dx) (e : isD dx t = .ok d) : ∃ (b : Bool) (u : Value), d = .bl b ∧ TyX K H x u ∧ PySem.W.kitOne K u (isT t) = some b := by
  cases hx with
  | non => cases t <;> (cases e; exact ⟨_, _, rfl, .base .non, rfl⟩)
  | bl b => cases t <;> (cases e; exact ⟨_, _, rfl, .base (.bl b), rfl⟩)
  | int i => cases t <;> (cases e; exact ⟨_, _, rfl, .base (.int i), rfl⟩)
  | str z => cases t <;> (cases e; exact ⟨_, _, rfl, .base (.str z), rfl⟩)
  | tup h1 h2 => cases t <;> (cases e; exact ⟨_, _, rfl, .base (.tup h1), rfl⟩)
  | lst h0 h1 h2 => cases t <;> (cases e; exact ⟨_, _, rfl, .base (.lst h1), rfl⟩)
  | scr h1 h2 => cases e
  | dK h0 h1 h2 h3 => cases e
  | dT h0 h1 h2 h3 => cases e
  | obj h0 h1 h2 h3 h4 => cases e
def rIsA (G : Sg) (t : IsT) : List V → Hp → VK → Prop := fun vs H Q => ∃ (A : Addr → Prop) (x : V) (dx : D) (b : Bool), vs = [x, isV t] ∧ Has G A H x dx ∧ isD dx t = .ok (.bl b) ∧ Q (.bl b) H
theorem call_isA {G : Sg} {X : Cx} (t : IsT) : CallR X (.builtin "isinstance") (rIsA G t) := by
  intro pins s σ H vs us Q I r h
  obtain ⟨A, x, dx, b, rfl, hx, e, q⟩ := h
  obtain ⟨b', u, e1, e2, e3⟩ := isi_r (K := X.K) hx e
  cases e1
  refine call_isi pins s σ H _ us Q I r ⟨x, isV t, u, isT t, b, rfl, ?_, e2, e3, q⟩
  cases t <;> exact ClsV.ty _

/-! ### subscripts, slices, truth -/
section
variable {G : Sg} {X : Cx}
theorem atI_has {A : Addr → Prop} {H : Hp} {xs : List V} {ds : List D} {i : Int} {d : D} (h : HasL G A H xs ds) (e : atI ds i = some d) : ∃ v, atI xs i = some v ∧ Has G A H v d := by
  unfold atI at e ⊢
  rw [h.length]
  cases n : ixN ds.length i with
  | none => rw [n] at e; cases e
  | some j =>
    rw [n] at e
    exact h.get e
theorem idxD_exc {x y : D} {e : Xc} (h : idxD x y = .exc e) : False := by
  unfold idxD at h
  split at h <;> first
    | exact ofO_exc h
    | cases h
    | exact ofO_exc (guardR_exc h).2
def rIdx (G : Sg) : R2 := fun x y H Q => ∃ (A A' : Addr → Prop) (dx dy d : D), Has G A H x dx ∧ Has G A' H y dy ∧ idxD dx dy = .ok d ∧ ∀ v, Has G A H v d → Q v H
theorem ix_D (hG : X.K = G.K) (hu : X.A.units + 64 < cLine) : IxR X (rIdx G) := by
  intro value slice pins s σ H x y v u Q I rx ry h hs
  obtain ⟨A, A', dx, dy, d, hx, hy, e, q⟩ := h
  unfold idxD at e
  split at e
  · cases hy
    cases hx with
    | tup h1 h2 =>
      obtain ⟨z, e1, e2⟩ := atI_has h2 (ofO_ok e)
      exact ix_seq value slice pins s σ H _ _ v u Q I rx ry (.inr (.inl ⟨_, _, _, z, rfl, rfl, .of h1, e1, q z e2⟩)) hs
  · cases hy
    cases hx with
    | lst h0 h1 h2 =>
      obtain ⟨z, e1, e2⟩ := atI_has h2 (ofO_ok e)
      exact ix_seq value slice pins s σ H _ _ v u Q I rx ry (.inl ⟨_, _, _, z, rfl, rfl, .of h1, e1, q z e2⟩) hs
  · cases hy
    cases hx with
    | scr h1 h2 =>
      obtain ⟨z, e1, e2⟩ := atI_has h2 (ofO_ok e)
      exact ix_seq value slice pins s σ H _ _ v u Q I rx ry (.inl ⟨_, _, _, z, rfl, rfl, h1.sq hG, e1, q z e2⟩) hs
  · obtain ⟨c, e⟩ := guardR_ok e
    have e := ofO_ok e
    have ⟨a, ea⟩ : ∃ a, x = .ref a := by cases hx <;> exact ⟨_, rfl⟩
    subst ea
    cases rx
    rcases dget hx hy c with ⟨q1, q2⟩ | ⟨d', z, q1, q2, q3⟩
    · rw [q1] at e
      cases e
    · rw [q1] at e
      cases e
      exact tail_any (dict_typeIs I q2) PySem.F.slot_dict_getitem.lookup (d_getItem (by omega) I q2 ry fun w' s' I' rw' => ⟨z, H, I', rw', q z q3⟩) hs
  · cases e
/-! slices -/
theorem cut_has {A : Addr → Prop} {H : Hp} {xs : List V} {ds : List D} (h : HasL G A H xs ds) (lo hi : Option Int) : HasL G A H (cutV xs lo hi) (cutL ds lo hi) := by
  unfold cutV cutL
  rw [h.length]
  exact (h.drop _).take _
theorem cut_all {α : Type} (xs : List α) {a b : Nat} (h : a = 0) (h' : b = xs.length) : (xs.drop a).take (b - a) = xs := by
  subst h h'
  simp
def rSlc (G : Sg) : V → Option Int → Option Int → Hp → VK → Prop := fun x lo hi H Q => ∃ (A : Addr → Prop) (dx d : D), Has G A H x dx ∧ slcD dx lo hi = .ok d ∧ Res G A true H d Q
theorem slcD_exc {x : D} {lo hi : Option Int} {e : Xc} (h : slcD x lo hi = .exc e) : False := by
  unfold slcD at h
  have h := (guardR_exc h).2
  split at h <;> cases h
theorem sl_D : SlR X (rSlc G) := by
  intro pins s σ H x v vl vu lo hi sl Q I rx hs pl pu h
  obtain ⟨A, dx, d, hx, e, q⟩ := h
  unfold slcD at e
  obtain ⟨c, e⟩ := guardR_ok e
  split at e
  · rename_i ds e0
    cases e
    cases hx with
    | @tup a xs _ h1 h2 =>
      refine sl_tupA pins s σ H _ v vl vu lo hi sl Q I rx hs pl pu ⟨a, xs, rfl, .of h1, fun z => ?_, fun _ p hp => q.tup (cut_has h2 lo hi) hp⟩
      have e : cutL ds lo hi = ds := by
        unfold cutL
        rw [← h2.length]
        exact cut_all ds z.1 (by rw [← h2.length]; exact z.2)
      rw [e] at q
      exact q.tupH (.tup h1 h2)
  · cases e
    cases hx with
    | lst h0 h1 h2 => exact sl_list pins s σ H _ v vl vu lo hi sl Q I rx hs pl pu ⟨_, _, rfl, .of h1, fun p hp => q.lst (cut_has h2 lo hi) hp⟩
  · cases e
/-! truth -/
def rTru (G : Sg) : V → Hp → (Bool → Hp → Prop) → Prop := fun x H Q => ∃ (A : Addr → Prop) (dx : D) (b : Bool), Has G A H x dx ∧ tru dx = some b ∧ Q b H
theorem emp_len {α β : Type} {xs : List α} {ys : List β} (h : xs.length = ys.length) : xs.isEmpty = ys.isEmpty := by
  cases xs <;> cases ys <;> simp_all
theorem tru_V {A : Addr → Prop} {H : Hp} {x : V} {dx : D} {b : Bool} (hx : Has G A H x dx) (e : tru dx = some b) : TruV X.K x H b ∨ ∃ a kvs, x = .ref a ∧ Rd H a (.dK kvs) ∧ b = !kvs.isEmpty := by
  cases hx with
  | non => cases e; exact .inl rfl
  | bl b => cases e; exact .inl rfl
  | int i => cases e; exact .inl rfl
  | str z =>
    rw [tru] at e
    cases c : decide (z.length ≤ line) with
    | false => rw [c] at e; cases e
    | true =>
      rw [c] at e
      cases e
      refine .inl ⟨by rw [← line_eq]; exact of_decide_eq_true c, ?_⟩
      rw [Bool.eq_iff_iff]
      simp
  | tup h1 h2 =>
    cases e
    exact .inl (.inr (.inl ⟨_, .of h1, by rw [emp_len h2.length]⟩))
  | lst h0 h1 h2 =>
    cases e
    exact .inl (.inl ⟨_, .of h1, by rw [emp_len h2.length]⟩)
  | scr h1 h2 => cases e
  | dK h0 h1 h2 h3 =>
    cases e
    have hn := congrArg List.length h2
    rw [List.length_map, List.length_map] at hn
    exact .inr ⟨_, _, rfl, h1, by rw [emp_len hn]⟩
  | dT h0 h1 h2 h3 => cases e
  | obj h0 h1 h2 h3 h4 => cases e
theorem tru_D : TruR X (rTru G) := by
  intro pins s σ H x v Q I rx h
  obtain ⟨A, dx, b, hx, e, q⟩ := h
  rcases tru_V (X := X) hx e with h | ⟨a, kvs, ea, h, eb⟩
  · exact tru_ok pins s σ H x v Q I rx ⟨b, h, q⟩
  · subst ea eb
    cases rx
    exact d_truth I h fun s' I' => ⟨H, I', q⟩
end
end PD
end

section
set_option Elab.async false
set_option linter.all false
set_option maxRecDepth 100000
set_option maxHeartbeats 4000000
/-! PD, part 6: the names' values. -/
namespace PD
open PySem PySem.Spec PyProof.Rows L2

/-- an exception: its class, its own dict -/
def XR (G : Sg) (H : Hp) : Xc → Value → Option Addr → Prop
  | .mk c args, cls, dx => (c < G.en ∧ cls = .ref (G.ea c)) ∧ frozs args = true ∧ ((args = [] ∧ dx = none) ∨ ∃ v p w, args = [v] ∧ dx = some p ∧ H p = some (.xd [(G.ef c, w)]) ∧ Has G (fun _ => False) H w v)
/-- a field's, a name's value -/
def FldOk (G : Sg) (A P : Addr → Prop) (H : Hp) (v : V) : OF → Prop
  | .sh d => Has G A H v d
  | .ol ds => ∃ p xs, v = .ref p ∧ P p ∧ H p = some (.lst xs) ∧ HasL G A H xs ds
  | .od t ds => ∃ p, v = .ref p ∧ P p ∧ (match t with
    | false => ∃ kvs : List (Key × V), H p = some (.dK kvs) ∧ ds.map Prod.fst = kvs.map (fun p => keyD p.1) ∧ HasL G A H (kvs.map Prod.snd) (ds.map Prod.snd)
    | true => ∃ kvs : List (List Key × V), H p = some (.dT kvs) ∧ ds.map Prod.fst = kvs.map (fun p => .tup (p.1.map keyD)) ∧ HasL G A H (kvs.map Prod.snd) (ds.map Prod.snd))
/-- the error that the suite holds; the instance that is being made -/
structure ExI where
  e : Option (Addr × Value × Option Addr)
  s : Addr
def SlotOk (G : Sg) (ex : ExI) (A : Addr → Prop) (O : Nat → Addr → Prop) (H : Hp) (v : V) : OD → Prop
  | .f x => FldOk G A (O 0) H v x
  | .oo c fs => ∃ p dx fl, (v = .ref p ∧ p = ex.s) ∧ O 0 p ∧ H p = some (.ins (G.ca c) dx fl) ∧ fl.map Prod.fst = (G.cf c).take fs.length ∧ (fl.map Prod.snd).length = fs.length ∧ ∀ (i : Nat) (o : OF) (w : V), fs[i]? = some o → (fl.map Prod.snd)[i]? = some w → FldOk G A (O (i + 1)) H w o
  | .xc x => ∃ a cls d, ex.e = some (a, cls, d) ∧ v = .ref a ∧ XR G H x cls d
abbrev Ow := Nat → Nat → Addr → Prop
/-- H₀: the heap at the entry; A₀: what the arguments stand on -/
structure ER (G : Sg) (ex : ExI) (A₀ : Addr → Prop) (H₀ : Hp) (A : Addr → Prop) (O : Ow) (σ : L2.St) (H : Hp) (ρ : Env) : Prop where
  len : σ.length = ρ.length
  slot : ∀ (j : Nat) (o : OD), ρ[j]? = some (some o) → ∃ v, σ[j]? = some (some v) ∧ SlotOk G ex A (O j) H v o
  own : ∀ j k p, O j k p → ¬ A p ∧ (H p).isSome = true ∧ H₀ p = none
  uniq : ∀ j k j' k' p, O j k p → O j' k' p → j = j' ∧ k = k'
  sub : ∀ q, A q → fr A₀ H₀ q
  same : Same H₀ H

section
variable {G : Sg} {A A' P P' : Addr → Prop} {H H' : Hp}
theorem XR.mono (s : Same H H') : ∀ {x : Xc} {cls : Value} {dx : Option Addr}, XR G H x cls dx → XR G H' x cls dx
  | .mk c args, _, _, ⟨h1, h2, h3⟩ => ⟨h1, h2, by
    rcases h3 with h | ⟨v, p, w, e1, e2, e3, e4⟩
    · exact .inl h
    · exact .inr ⟨v, p, w, e1, e2, s _ _ e3, e4.mono (fun _ z => z) s⟩⟩
theorem Has.to (s : Same H H') (hA : ∀ q, A q → (H q).isSome = true → A' q) {v : V} {d : D} (h : Has G A H v d) : Has G A' H' v d := h.there.mono (fun q z => hA q z.1 z.2) s
theorem HasL.to (s : Same H H') (hA : ∀ q, A q → (H q).isSome = true → A' q) {v : List V} {d : List D} (h : HasL G A H v d) : HasL G A' H' v d := h.there.mono (fun q z => hA q z.1 z.2) s
theorem FldOk.to (s : Same H H') (hA : ∀ q, A q → (H q).isSome = true → A' q) (hP : ∀ q, P q → P' q) {v : V} : ∀ {o : OF}, FldOk G A P H v o → FldOk G A' P' H' v o
  | .sh d, h => Has.to s hA h
  | .ol ds, ⟨p, xs, e, h0, h1, h2⟩ => ⟨p, xs, e, hP _ h0, s _ _ h1, h2.to s hA⟩
  | .od true ds, ⟨p, e, h0, kvs, h1, h2, h3⟩ => ⟨p, e, hP _ h0, kvs, s _ _ h1, h2, h3.to s hA⟩
  | .od false ds, ⟨p, e, h0, kvs, h1, h2, h3⟩ => ⟨p, e, hP _ h0, kvs, s _ _ h1, h2, h3.to s hA⟩
theorem FldOk.has {v : V} : ∀ {o : OF}, FldOk G A P H v o → Has G (fun q => A q ∨ P q) H v o.d
  | .sh d, h => Has.mono (fun _ z => .inl z) (Same.refl H) h
  | .ol ds, ⟨p, xs, e, h0, h1, h2⟩ => by
    subst e
    exact .lst (.inr h0) h1 (h2.mono (fun _ z => .inl z) (Same.refl H))
  | .od true ds, ⟨p, e, h0, kvs, h1, h2, h3⟩ => by
    subst e
    exact .dT (.inr h0) (.inl h1) h2 (h3.mono (fun _ z => .inl z) (Same.refl H))
  | .od false ds, ⟨p, e, h0, kvs, h1, h2, h3⟩ => by
    subst e
    exact .dK (.inr h0) (.inl h1) h2 (h3.mono (fun _ z => .inl z) (Same.refl H))
theorem ne_p {P : Addr → Prop} {p q : Addr} (h : P q) (n : ¬ P p) : q ≠ p := fun e => n (e ▸ h)
theorem FldOk.upd {v : V} {p : Addr} {o' : HO} (mu : Mut (H p)) (nA : ¬ A p) (nP : ¬ P p) : ∀ {o : OF}, FldOk G A P H v o → FldOk G A P (L2.upd H p o') v o
  | .sh d, h => Has.upd mu nA h
  | .ol ds, ⟨q, xs, e, h0, h1, h2⟩ => ⟨q, xs, e, h0, by rw [upd_ne (ne_p h0 nP)]; exact h1, h2.upd mu nA⟩
  | .od true ds, ⟨q, e, h0, kvs, h1, h2, h3⟩ => ⟨q, e, h0, kvs, by rw [upd_ne (ne_p h0 nP)]; exact h1, h2, h3.upd mu nA⟩
  | .od false ds, ⟨q, e, h0, kvs, h1, h2, h3⟩ => ⟨q, e, h0, kvs, by rw [upd_ne (ne_p h0 nP)]; exact h1, h2, h3.upd mu nA⟩
theorem hasL_of {vs : List V} {ds : List D} (hl : vs.length = ds.length) (h : ∀ (i : Nat) (v : V) (d : D), vs[i]? = some v → ds[i]? = some d → Has G A H v d) : HasL G A H vs ds := by
  induction ds generalizing vs with
  | nil =>
    have : vs = [] := List.eq_nil_of_length_eq_zero hl
    subst this
    exact .nil
  | cons d ds ih =>
    cases vs with
    | nil => simp at hl
    | cons v vs => exact .cons (h 0 v d rfl rfl) (ih (by simpa using hl) fun i v d h1 h2 => h (i + 1) v d (by simpa using h1) (by simpa using h2))
variable {ex : ExI} {O O' : Nat → Addr → Prop}
theorem SlotOk.to (s : Same H H') (hA : ∀ q, A q → (H q).isSome = true → A' q) (hP : ∀ k q, O k q → O' k q) {v : V} : ∀ {o : OD}, SlotOk G ex A O H v o → SlotOk G ex A' O' H' v o
  | .f x, h => FldOk.to s hA (hP 0) h
  | .oo c fs, ⟨p, dx, fl, e, h0, h1, h2, h3, h4⟩ => ⟨p, dx, fl, e, hP _ _ h0, s _ _ h1, h2, h3, fun i o w e1 e2 => (h4 i o w e1 e2).to s hA (hP _)⟩
  | .xc x, ⟨a, cls, d, e1, e2, e3⟩ => ⟨a, cls, d, e1, e2, e3.mono s⟩
theorem SlotOk.has {v : V} {d : D} : ∀ {o : OD}, o.d = some d → SlotOk G ex A O H v o → Has G (fun q => A q ∨ ∃ k, O k q) H v d
  | .f x, e, h => by
    cases e
    exact (FldOk.has h).mono (fun q z => z.imp id fun z => ⟨0, z⟩) (Same.refl H)
  | .oo c fs, e, ⟨p, dx, fl, e0, h0, h1, h2, h3, h4⟩ => by
    cases e
    rw [e0.1]
    refine .obj (.inr ⟨0, h0⟩) h1 rfl (by rw [h2, List.length_map]) (hasL_of (by rw [h3, List.length_map]) fun i w d e1 e2 => ?_)
    rw [List.getElem?_map, Option.map_eq_some_iff] at e2
    obtain ⟨o, e3, e4⟩ := e2
    subst e4
    exact (h4 i o w e3 e1).has.mono (fun q z => z.imp id fun z => ⟨_, z⟩) (Same.refl H)
theorem SlotOk.un {v : V} : ∀ {o : OD}, SlotOk G ex A O H v o → ∃ o', unown1 (some o) = some o' ∧ SlotOk G ex (fun q => A q ∨ ∃ k, O k q) (fun _ _ => False) H v o'
  | .f x, h => ⟨_, rfl, SlotOk.has (o := .f x) (ex := ex) (O := O) rfl h⟩
  | .oo c fs, h => ⟨_, rfl, SlotOk.has (o := .oo c fs) rfl h⟩
  | .xc x, ⟨a, cls, d, e1, e2, e3⟩ => ⟨_, rfl, a, cls, d, e1, e2, e3⟩
end

def ow (O : Ow) (rs : List Nat) (q : Addr) : Prop := ∃ j ∈ rs, ∃ k, O j k q
section
variable {G : Sg} {ex : ExI} {A₀ : Addr → Prop} {H₀ : Hp} {A : Addr → Prop} {O : Ow} {σ : L2.St} {H H' : Hp} {ρ : Env}
theorem ER.move (er : ER G ex A₀ H₀ A O σ H ρ) (s : Same H H') {B : Addr → Prop} (h1 : ∀ q, A q → (H q).isSome = true → B q) (h2 : ∀ q, B q → A q ∨ H q = none) : ER G ex A₀ H₀ B O σ H' ρ where
  len := er.len
  slot := fun j o e => let ⟨v, e1, e2⟩ := er.slot j o e; ⟨v, e1, e2.to s h1 fun _ _ z => z⟩
  own := fun j k p h => by
    obtain ⟨a, b, c⟩ := er.own j k p h
    refine ⟨fun z => ?_, ?_, c⟩
    · rcases h2 p z with z | z
      · exact a z
      · rw [z] at b; cases b
    · obtain ⟨o, e⟩ := Option.isSome_iff_exists.mp b
      rw [s _ _ e]
      rfl
  uniq := er.uniq
  sub := fun q z => by
    rcases h2 q z with z | z
    · exact er.sub q z
    · exact .inr (same_none er.same z)
  same := same_tr er.same s
theorem ER.go (er : ER G ex A₀ H₀ A O σ H ρ) (s : Same H H') : ER G ex A₀ H₀ (fr A H) O σ H' ρ := er.move s (fun _ z _ => .inl z) fun _ z => z
theorem unown_len (ρ : Env) : ∀ rs : List Nat, (unown ρ rs).length = ρ.length
  | [] => rfl
  | i :: is => by
    rw [unown]
    split
    · rw [List.length_set, unown_len ρ is]
    · exact unown_len ρ is
theorem unown1_idem (o : Option OD) : unown1 (unown1 o) = unown1 o := by
  cases o with
  | none => rfl
  | some o => cases o <;> rfl
theorem unown_get (ρ : Env) (j : Nat) : ∀ rs : List Nat, (unown ρ rs)[j]? = if j ∈ rs then (ρ[j]?).map unown1 else ρ[j]?
  | [] => by simp [unown]
  | i :: is => by
    rw [unown]
    have ih := unown_get ρ j is
    split
    · rename_i o e
      by_cases h : i = j
      · subst h
        have hl : i < (unown ρ is).length := by rw [unown_len]; exact (List.getElem?_eq_some_iff.mp e).1
        rw [List.getElem?_set_self hl, e]
        simp
      · rw [List.getElem?_set_ne h, ih]
        have hj : j ≠ i := fun z => h z.symm
        by_cases hm : j ∈ is
        · rw [if_pos hm, if_pos (List.mem_cons_of_mem _ hm)]
        · rw [if_neg hm, if_neg (by simp [hm, hj])]
    · rename_i e
      rw [ih]
      by_cases h : i = j
      · subst h
        rw [e]
        simp
      · have hj : j ≠ i := fun z => h z.symm
        by_cases hm : j ∈ is
        · rw [if_pos hm, if_pos (List.mem_cons_of_mem _ hm)]
        · rw [if_neg hm, if_neg (by simp [hm, hj])]
theorem ER.un (er : ER G ex A₀ H₀ A O σ H ρ) (rs : List Nat) : ER G ex A₀ H₀ (fun q => A q ∨ ow O rs q) (fun j k p => O j k p ∧ j ∉ rs) σ H (unown ρ rs) where
  len := by rw [unown_len]; exact er.len
  slot := fun j o e => by
    rw [unown_get] at e
    by_cases hm : j ∈ rs
    · rw [if_pos hm, Option.map_eq_some_iff] at e
      obtain ⟨o1, e1, e2⟩ := e
      cases o1 with
      | none => cases e2
      | some o1 =>
        obtain ⟨v, e3, e4⟩ := er.slot j o1 e1
        obtain ⟨o', e5, e6⟩ := e4.un
        rw [e5] at e2
        cases e2
        exact ⟨v, e3, e6.to (Same.refl H) (fun q z _ => z.imp id fun ⟨k, z⟩ => ⟨j, hm, k, z⟩) fun _ _ z => z.elim⟩
    · rw [if_neg hm] at e
      obtain ⟨v, e3, e4⟩ := er.slot j o e
      exact ⟨v, e3, e4.to (Same.refl H) (fun q z _ => .inl z) fun _ _ z => ⟨z, hm⟩⟩
  own := fun j k p ⟨h, hm⟩ => by
    obtain ⟨a, b, c⟩ := er.own j k p h
    refine ⟨fun z => ?_, b, c⟩
    rcases z with z | ⟨j', hj', k', z⟩
    · exact a z
    · exact hm ((er.uniq _ _ _ _ _ h z).1 ▸ hj')
  uniq := fun j k j' k' p h h' => er.uniq j k j' k' p h.1 h'.1
  sub := fun q z => by
    rcases z with z | ⟨j, _, k, z⟩
    · exact er.sub q z
    · exact .inr (er.own _ _ _ z).2.2
  same := er.same
/-- a slot is set -/
theorem ER.set {i : Nat} {o : OD} {v : V} {Oi : Nat → Addr → Prop} (er : ER G ex A₀ H₀ A O σ H ρ) (hs : SlotOk G ex A Oi H v o) (h1 : ∀ k p, Oi k p → ¬ A p ∧ (H p).isSome = true ∧ H₀ p = none)
    (h2 : ∀ k p j k', Oi k p → j ≠ i → ¬ O j k' p) (h3 : ∀ k k' p, Oi k p → Oi k' p → k = k') : ER G ex A₀ H₀ A (fun j k p => (j = i ∧ Oi k p) ∨ (j ≠ i ∧ O j k p)) (σ.set i (some v)) H (ρ.set i (some o)) where
  len := by rw [List.length_set, List.length_set]; exact er.len
  slot := fun j o' e => by
    by_cases h : i = j
    · subst h
      have hl : i < ρ.length := by
        have z := (List.getElem?_eq_some_iff.mp e).1
        rw [List.length_set] at z
        exact z
      rw [List.getElem?_set_self hl] at e
      cases e
      exact ⟨v, by rw [List.getElem?_set_self (by rw [er.len]; exact hl)], hs.to (Same.refl H) (fun _ z _ => z) fun _ _ z => .inl ⟨rfl, z⟩⟩
    · rw [List.getElem?_set_ne h] at e
      obtain ⟨v', e3, e4⟩ := er.slot j o' e
      exact ⟨v', by rw [List.getElem?_set_ne h]; exact e3, e4.to (Same.refl H) (fun _ z _ => z) fun _ _ z => .inr ⟨fun q => h q.symm, z⟩⟩
  own := fun j k p h => by
    rcases h with ⟨_, h⟩ | ⟨_, h⟩
    · exact h1 k p h
    · exact er.own j k p h
  uniq := fun j k j' k' p h h' => by
    rcases h with ⟨e1, h⟩ | ⟨e1, h⟩ <;> rcases h' with ⟨e2, h'⟩ | ⟨e2, h'⟩
    · exact ⟨e1.trans e2.symm, h3 k k' p h h'⟩
    · exact absurd h' (h2 k p j' k' h e2)
    · exact absurd h (h2 k' p j k h' e1)
    · exact er.uniq _ _ _ _ _ h h'
  sub := er.sub
  same := er.same
theorem ER.setSh {i : Nat} {d : D} {v : V} (er : ER G ex A₀ H₀ A O σ H ρ) (hs : Has G A H v d) : ER G ex A₀ H₀ A (fun j k p => (j = i ∧ False) ∨ (j ≠ i ∧ O j k p)) (σ.set i (some v)) H (ρ.set i (sh d)) :=
  er.set (o := .f (.sh d)) (Oi := fun _ _ => False) hs (fun _ _ z => z.elim) (fun _ _ _ _ z => z.elim) (fun _ _ _ z => z.elim)
/-- a slot is forgotten -/
theorem ER.wipe1 {i : Nat} {σ' : L2.St} (er : ER G ex A₀ H₀ A O σ H ρ) (hl : σ'.length = σ.length) (h : ∀ j v, j ≠ i → σ[j]? = some (some v) → σ'[j]? = some (some v)) : ER G ex A₀ H₀ A O σ' H (ρ.set i none) where
  len := by rw [List.length_set, hl]; exact er.len
  slot := fun j o e => by
    by_cases q : i = j
    · subst q
      have hl : i < ρ.length := by
        have z := (List.getElem?_eq_some_iff.mp e).1
        rw [List.length_set] at z
        exact z
      rw [List.getElem?_set_self hl] at e
      cases e
    · rw [List.getElem?_set_ne q] at e
      obtain ⟨v, e1, e2⟩ := er.slot j o e
      exact ⟨v, h j v (fun z => q z.symm) e1, e2⟩
  own := er.own
  uniq := er.uniq
  sub := er.sub
  same := er.same
theorem wipeE_len (ρ : Env) : ∀ rs : List Nat, (wipeE ρ rs).length = ρ.length
  | [] => rfl
  | i :: is => by rw [wipeE, List.length_set, wipeE_len ρ is]
theorem ER.wipe (er : ER G ex A₀ H₀ A O σ H ρ) : ∀ rs : List Nat, ER G ex A₀ H₀ A O (L2.wipe σ rs) H (wipeE ρ rs)
  | [] => er
  | i :: is => by
    rw [wipeE, L2.wipe]
    exact (er.wipe is).wipe1 (by rw [List.length_set]) fun j v hj e => by rw [List.getElem?_set_ne (fun z => hj z.symm)]; exact e
theorem XR.upd {p : Addr} {o : HO} (mu : Mut (H p)) (nx : ∀ fs, H p ≠ some (.xd fs)) : ∀ {x : Xc} {cls : Value} {dx : Option Addr}, XR G H x cls dx → XR G (L2.upd H p o) x cls dx
  | .mk c args, _, _, ⟨h1, h2, h3⟩ => ⟨h1, h2, by
    rcases h3 with h | ⟨v, q, w, e1, e2, e3, e4⟩
    · exact .inl h
    · exact .inr ⟨v, q, w, e1, e2, by rw [upd_ne (fun z => by subst z; exact nx _ e3)]; exact e3, e4.upd mu (fun z => z)⟩⟩
theorem SlotOk.upd {P : Nat → Addr → Prop} {p : Addr} {o' : HO} (mu : Mut (H p)) (nx : ∀ fs, H p ≠ some (.xd fs)) (nA : ¬ A p) (nP : ∀ k, ¬ P k p) {v : V} : ∀ {o : OD}, SlotOk G ex A P H v o → SlotOk G ex A P (L2.upd H p o') v o
  | .f x, h => FldOk.upd mu nA (nP 0) h
  | .oo c fs, ⟨q, dx, fl, e, h0, h1, h2, h3, h4⟩ => ⟨q, dx, fl, e, h0, by rw [upd_ne (ne_p h0 (nP 0))]; exact h1, h2, h3, fun i o w e1 e2 => (h4 i o w e1 e2).upd mu nA (nP _)⟩
  | .xc x, ⟨a, cls, d, e1, e2, e3⟩ => ⟨a, cls, d, e1, e2, e3.upd mu nx⟩
/-- an object that no name owns is written -/
theorem ER.updF {p : Addr} {o : HO} (er : ER G ex A₀ H₀ A O σ H ρ) (mu : Mut (H p)) (nx : ∀ fs, H p ≠ some (.xd fs)) (nA : ¬ A p) (nO : ∀ j k, ¬ O j k p) (n0 : H₀ p = none) : ER G ex A₀ H₀ A O σ (upd H p o) ρ where
  len := er.len
  slot := fun j o e => let ⟨v, e1, e2⟩ := er.slot j o e; ⟨v, e1, e2.upd mu nx nA (nO j)⟩
  own := fun j k q h => by
    obtain ⟨a, b, c⟩ := er.own j k q h
    refine ⟨a, ?_, c⟩
    rw [upd_ne (ne_p (P := O j k) h (nO j k))]
    exact b
  uniq := er.uniq
  sub := er.sub
  same := fun b x e => by
    rw [upd_ne (fun z => by subst z; rw [n0] at e; cases e)]
    exact er.same b x e
/-- a name is read -/
theorem ER.var {i : Nat} {d : D} (er : ER G ex A₀ H₀ A O σ H ρ) (e : varR ρ i = .ok d) : ∃ v, σ[i]? = some (some v) ∧ Has G (fun q => A q ∨ ow O [i] q) H v d := by
  unfold varR at e
  split at e
  · rename_i o eo
    unfold slotE at eo
    cases er1 : ρ[i]? with
    | none => rw [er1] at eo; cases eo
    | some o1 =>
      rw [er1] at eo
      cases o1 with
      | none => cases eo
      | some o2 =>
        cases eo
        obtain ⟨v, e1, e2⟩ := er.slot i _ er1
        exact ⟨v, e1, (e2.has (ofO_ok e)).mono (fun q z => z.imp id fun ⟨k, z⟩ => ⟨i, by simp, k, z⟩) (Same.refl H)⟩
  · cases e
theorem varR_exc {i : Nat} {x : Xc} (e : varR ρ i = .exc x) : False := by
  unfold varR at e
  split at e
  · exact ofO_exc e
  · cases e
end
end PD
end

section
set_option Elab.async false
set_option linter.all false
set_option maxRecDepth 100000
set_option maxHeartbeats 4000000
/-! PD, part 7: expressions, one by one. -/
namespace PD
open PySem PySem.Spec PyProof.Rows L2

/-- what a text's names are -/
structure Sx where
  N : List Str
  fname : List (Option Str)
  cname : List Str
  ename : List Str
  gInts : List (Str × Int)
  gStrs : List (Str × Str)
  free : List Str
  cf : List (List Str)
  ini : List (Option Nat)

/-- a def's promise -/
def fnSp (G : Sg) (F : List D → R D) : Sp := fun vs H Q E => ∃ (A : Addr → Prop) (ds : List D), HasL G A H vs ds ∧ (match F ds with
  | .ok d => ∀ v H', Same H H' → Has G (fr A H) H' v d → Q v H'
  | .exc x => ∀ cls dx H', Same H H' → XR G H' x cls dx → E cls dx H'
  | .stk => False)
/-- an __init__'s -/
def mkSp (G : Sg) (c : Nat) (F : List D → R D) : Sp := fun vs H Q E => ∃ (A : Addr → Prop) (ds : List D) (x dx : Addr) (ws : List V) (H₁ : Hp), vs = .ref x :: ws ∧ H₁ x = none ∧ H₁ dx = none ∧ dx ≠ x ∧ H = upd (upd H₁ dx (.own x)) x (.ins (G.ca c) dx []) ∧ HasL G A H₁ ws ds ∧ (match F ds with
  | .ok d => ∀ H', Same H₁ H' → Has G (fr A H₁) H' (.ref x) d → Q .non H'
  | .exc e => ∀ cls dx H', Same H₁ H' → XR G H' e cls dx → E cls dx H'
  | .stk => False)

/-- a place in the text: its names' scope; whose cells are its own; cm: not in an except suite -/
structure Lo where
  sc : Scope
  fn : Str → Bool
  cm : Bool
/-- where code runs; W: what is wanted of an exception -/
structure PX (G : Sg) (S : Sx) (T : Tab) (X : Cx) (L : Lo) (W : WX) (ex : ExI) : Prop where
  hG : X.K = G.K
  calm : L.cm = true → X.calm = true
  fnE : X.fn = L.fn
  un : X.A.units + 64 < cLine
  nm : X.N = S.N
  nd : S.N.Nodup
  esc : X.env.scope = L.sc
  tk : Takes X W
  fns : L.cm = true → ∀ f x, S.fname[f]? = some (some x) → ∃ fa fd ps k, FnOk X.prog X.w X.K X.mg X.base (L2.CX X.prog X.w) k fa fd ps (fnSp G (T.fn f)) ∧ Room k X.A ∧ X.mg x = some (.ref fa) ∧ PySem.W.keepIn X.K (.ref fa) = true ∧ Binds X.K fd ps []
  mks : L.cm = true → ∀ c x f, S.cname[c]? = some x → T.init f = some c → ∃ fI fd ps k, Mk X.K (G.ca c) fI ∧ FnOk X.prog X.w X.K X.mg X.base (L2.CX X.prog X.w) k fI fd ps (mkSp G c (T.fn f)) ∧ Room (k + 1) X.A ∧ X.mg x = some (.ref (G.ca c)) ∧ Binds X.K fd ps []
  gi : ∀ p ∈ S.gInts, ∃ t, X.mg p.1 = some (.int p.2 t)
  gs : ∀ p ∈ S.gStrs, ∃ t, X.mg p.1 = some (.str p.2 t)
  free : ∀ x ∈ S.free, X.mg x = none
  cls : ∀ c f, f ∈ G.cf c → Cls X.K (G.ca c) ∧ NoAttr X.K (G.ca c) f
  cfS : ∀ c, G.cf c = (S.cf[c]?).getD []
  cfN : ∀ c, (G.cf c).Nodup
  exn : ∀ c x, S.ename[c]? = some x → X.mg x = some (.ref (G.ea c)) ∧ PySem.W.excIn X.K (G.ea c) He.veBase "ValueError.__new__" = true ∧ PySem.W.keepIn X.K (.ref (G.ea c)) = true ∧ PySem.W.subIn X.K (.ref (G.ea c)) (.type "BaseException") = some true ∧ PySem.W.typeIn X.K (.ref (G.ea c)) = some (.type "type")
  enE : S.ename.length = G.en
  ini : ∀ f c, S.ini[f]? = some (some c) → T.init f = some c
  kit : ∀ k c, k < S.ename.length → c < S.ename.length → PySem.W.kitOne X.K (.ref (G.ea k)) (.ref (G.ea c)) = some (T.sub k c)
  kitV : ∀ k, k < S.ename.length → PySem.W.kitOne X.K (.ref (G.ea k)) (.type "ValueError") = some (T.sub k 1000)
  isx : L.cm = false → ∀ a cls d, ex.e = some (a, cls, d) → ∀ k, cls = .ref (G.ea k) → d = none → k < S.ename.length → CallR X (.builtin "isinstance") (rIsE X.K (G.ea k) a)
  exm : ∀ k c, k < S.ename.length → c < S.ename.length → PySem.W.exmOne X.K (.ref (G.ea k)) (.ref (G.ea c)) = some (T.sub k c)

/-- what comes of it -/
def outD (G : Sg) (W : WX) (A : Addr → Prop) (σ : L2.St) (f : Bool) (H : Hp) (r : R D) (Q : VK) : Prop := match r with
  | .ok d => Res G A f H d Q
  | .exc x => ∀ cls dx H', Same H H' → XR G H' x cls dx → W cls dx σ H'
  | .stk => False
def outB (G : Sg) (W : WX) (σ : L2.St) (H : Hp) (r : R Bool) (Q : Bool → Hp → Prop) : Prop := match r with
  | .ok b => ∀ H', Same H H' → Q b H'
  | .exc x => ∀ cls dx H', Same H H' → XR G H' x cls dx → W cls dx σ H'
  | .stk => False
def outL (G : Sg) (W : WX) (A : Addr → Prop) (σ : L2.St) (H : Hp) (r : R (List D)) (Q : List V → Hp → Prop) : Prop := match r with
  | .ok ds => ∀ vs H', Same H H' → HasL G (fr A H) H' vs ds → Q vs H'
  | .exc x => ∀ cls dx H', Same H H' → XR G H' x cls dx → W cls dx σ H'
  | .stk => False
abbrev wi (A : Addr → Prop) (O : Ow) (rs : List Nat) : Addr → Prop := fun q => A q ∨ ow O rs q
section
variable (G : Sg) (T : Tab) (W : WX) (ex : ExI) (A₀ : Addr → Prop) (H₀ : Hp)
/-- an expression's reading; a test's; an argument list's -/
def tD (i : Ex) : TE := fun σ H Q => ∃ A O ρ, ER G ex A₀ H₀ A O σ H ρ ∧ outD G W (wi A O (roots i)) σ (frs i) H (ev T i ρ) Q
def tDB (i : Ex) : TT := fun σ H Q => ∃ A O ρ, ER G ex A₀ H₀ A O σ H ρ ∧ outB G W σ H ((ev T i ρ).bind truR) Q
def tDs (es : Exs) : TA := fun σ H Q => ∃ A O ρ, ER G ex A₀ H₀ A O σ H ρ ∧ outL G W (wi A O (rootsS es)) σ H (evs T es ρ) Q
end
section
variable {G : Sg} {S : Sx} {T : Tab} {X : Cx} {L : Lo} {W : WX} {ex : ExI} {A₀ : Addr → Prop} {H₀ : Hp}
theorem PE.of {e : Expr} {t t' : TE} (h : PE X e t) (w : ∀ σ H Q, t' σ H Q → t σ H Q) : PE X e t' := ⟨fun pins s σ H Q I q => h.run pins s σ H Q I (w σ H Q q)⟩
theorem PT.of {e : Expr} {t t' : TT} (h : PT X e t) (w : ∀ σ H Q, t' σ H Q → t σ H Q) : PT X e t' := ⟨fun pins s σ H Q I q => h.run pins s σ H Q I (w σ H Q q)⟩
theorem PW.of {e : Expr} {t t' : TT} (h : PW X e t) (w : ∀ σ H Q, t' σ H Q → t σ H Q) : PW X e t' := ⟨fun wh pins s σ H Q I q => h.run wh pins s σ H Q I (w σ H Q q)⟩
theorem PA.of {e : List Expr} {t t' : TA} (h : PA X e t) (w : ∀ σ H Q, t' σ H Q → t σ H Q) : PA X e t' := ⟨fun pos pins s σ H Q I q => h.run pos pins s σ H Q I (w σ H Q q)⟩
theorem outD_exc {A A' : Addr → Prop} {σ : L2.St} {f f' : Bool} {H H' : Hp} {x : Xc} {Q Q' : VK} (s : Same H H') (h : outD G W A σ f H (.exc x) Q) : outD G W A' σ f' H' (.exc x) Q' := fun cls dx H2 s2 r => h cls dx H2 (same_tr s s2) r
theorem outD_up {A A' : Addr → Prop} {σ : L2.St} {f : Bool} {H H' : Hp} {r : R D} {Q : VK} (s : Same H H') (hA : ∀ q, A' q → fr A H q) (h : outD G W A σ f H r Q) : outD G W A' σ f H' r Q := by
  cases r with
  | ok d => exact Res.up s hA h
  | exc x => exact outD_exc s h
  | stk => exact h
theorem fr_wi {A : Addr → Prop} {O : Ow} {rs rs' : List Nat} {H : Hp} (h : ∀ j ∈ rs, j ∈ rs') {q : Addr} (z : fr (wi A O rs) H q) : fr (wi A O rs') H q := z.imp (fun z => z.imp id fun ⟨j, hj, k, z⟩ => ⟨j, h j hj, k, z⟩) id
theorem fr_fr {A B : Addr → Prop} {H H' : Hp} (s : Same H H') (h : ∀ q, B q → fr A H q) {q : Addr} (z : fr B H' q) : fr A H q := fr_up s h z
/-- one value, then the rest -/
theorem seq1 {a : Ex} {A : Addr → Prop} {O : Ow} {σ : L2.St} {H : Hp} {ρ : Env} {f : Bool} {g : D → R D} {B : Addr → Prop} {Q : VK} {R : V → Hp → Prop} (er : ER G ex A₀ H₀ A O σ H ρ) (h : outD G W B σ f H ((ev T a ρ).bind g) Q)
    (k : ∀ x v H1, ev T a ρ = .ok x → Same H H1 → Has G (fr (wi A O (roots a)) H) H1 v x → ER G ex A₀ H₀ (fr A H) O σ H1 ρ → outD G W (fr B H) σ f H1 (g x) Q → R v H1) : tD G T W ex A₀ H₀ a σ H R := by
  refine ⟨A, O, ρ, er, ?_⟩
  cases e : ev T a ρ with
  | stk => rw [e] at h; exact h
  | exc x => rw [e] at h; exact outD_exc (Same.refl H) h
  | ok x =>
    rw [e] at h
    exact fun v H1 s1 hv _ => k x v H1 e s1 hv (er.go s1) (outD_up s1 (fun _ z => z) h)
theorem seq2 {a b : Ex} {A : Addr → Prop} {O : Ow} {σ : L2.St} {H : Hp} {ρ : Env} {f : Bool} {g : D → D → R D} {B : Addr → Prop} {Q : VK} {R : V → V → Hp → Prop} (er : ER G ex A₀ H₀ A O σ H ρ)
    (h : outD G W B σ f H ((ev T a ρ).bind fun x => (ev T b ρ).bind fun y => g x y) Q)
    (k : ∀ x y v w H2, ev T a ρ = .ok x → ev T b ρ = .ok y → Same H H2 → Has G (fr (wi A O (roots a ++ roots b)) H) H2 v x → Has G (fr (wi A O (roots a ++ roots b)) H) H2 w y → ER G ex A₀ H₀ (fr A H) O σ H2 ρ → outD G W (fr B H) σ f H2 (g x y) Q → R v w H2) :
    tD G T W ex A₀ H₀ a σ H fun v H1 => tD G T W ex A₀ H₀ b σ H1 fun w H2 => R v w H2 := by
  refine seq1 er h fun x v H1 e1 s1 hv er1 h1 => ?_
  refine seq1 er1 h1 fun y w H2 e2 s2 hw er2 h2 => ?_
  have s := same_tr s1 s2
  refine k x y v w H2 e1 e2 s (hv.mono (fun q z => fr_wi (fun j hj => List.mem_append_left _ hj) z) s2) (hw.mono (fun q z => ?_) (Same.refl H2)) (er.go s) (outD_up (Same.refl H2) (fun q z => ?_) h2)
  · refine fr_wi (fun j hj => List.mem_append_right _ hj) (fr_fr s1 (B := wi (fr A H) O (roots b)) (fun q z => ?_) z)
    rcases z with z | z
    · exact z.imp (fun z => .inl z) id
    · exact .inl (.inr z)
  · exact .inl (.inl z)

/-! ### leaves -/
theorem outD_ok {A : Addr → Prop} {σ : L2.St} {f : Bool} {H : Hp} {d : D} {Q : VK} (h : outD G W A σ f H (.ok d) Q) : Res G A f H d Q := h
theorem se_var {i : Nat} {x : Str} {pos : Pos} (hN : X.N[i]? = some x) (hv : Vis X.env.scope x) (hd : (x == ("__debug__" : Str)) = false) (hcd : (x == ("__classdict__" : Str)) = false) : PE X (.Name x pos) (tD G T W ex A₀ H₀ (.var i)) := by
  refine PE.of (pe_var hN hv hd hcd) fun σ H Q ⟨A, O, ρ, er, h⟩ => ?_
  rw [ev] at h
  cases e : varR ρ i with
  | stk => rw [e] at h; exact h.elim
  | exc x => exact (varR_exc e).elim
  | ok d =>
    rw [e] at h
    obtain ⟨v, e1, e2⟩ := er.var e
    exact ⟨v, e1, Res.here h e2⟩
theorem se_int {i : Int} {j : Nat} {pos : Pos} : PE X (.Constant (.int i) j pos) (tD G T W ex A₀ H₀ (.cI i)) := PE.of pe_int fun σ H Q ⟨A, O, ρ, er, h⟩ => Res.int (by rw [ev] at h; exact h)
theorem se_bl {b : Bool} {j : Nat} {pos : Pos} : PE X (.Constant (.bool b) j pos) (tD G T W ex A₀ H₀ (.cB b)) := PE.of pe_bl fun σ H Q ⟨A, O, ρ, er, h⟩ => Res.bl (by rw [ev] at h; exact h)
theorem se_non {j : Nat} {pos : Pos} : PE X (.Constant .none j pos) (tD G T W ex A₀ H₀ .cN) := PE.of pe_non fun σ H Q ⟨A, O, ρ, er, h⟩ => Res.non (by rw [ev] at h; exact h)
theorem se_str {s : Str} {j : Nat} {pos : Pos} : PE X (.Constant (.str s) j pos) (tD G T W ex A₀ H₀ (.cS s)) := PE.of pe_str fun σ H Q ⟨A, O, ρ, er, h⟩ => Res.str (by rw [ev] at h; exact h)
theorem se_gI {x : Str} {i : Int} {t : Tok} {pos : Pos} (hg : Gl X x) (hm : X.mg x = some (.int i t)) (hd : (x == ("__debug__" : Str)) = false) : PE X (.Name x pos) (tD G T W ex A₀ H₀ (.gI x i)) :=
  PE.of (pe_glob (v := .int i) hg hm ⟨t, rfl⟩ hd) fun σ H Q ⟨A, O, ρ, er, h⟩ => Res.int (by rw [ev] at h; exact h)
theorem se_gS {x : Str} {i : Str} {t : Tok} {pos : Pos} (hg : Gl X x) (hm : X.mg x = some (.str i t)) (hd : (x == ("__debug__" : Str)) = false) : PE X (.Name x pos) (tD G T W ex A₀ H₀ (.gS x i)) :=
  PE.of (pe_glob (v := .str i) hg hm ⟨t, rfl⟩ hd) fun σ H Q ⟨A, O, ρ, er, h⟩ => Res.str (by rw [ev] at h; exact h)
/-! ### operators -/
theorem binD_exc {o : BinO} {x y : D} {e : Xc} (h : binD o x y = .exc e) : False := by
  unfold binD at h
  split at h <;> first
    | cases h
    | (have h := (guardR_exc h).2; cases h)
theorem se_bin {o : BinO} {a b : Ex} {ea eb : Expr} {pos : Pos} (P : PX G S T X L W ex) (ha : PE X ea (tD G T W ex A₀ H₀ a)) (hb : PE X eb (tD G T W ex A₀ H₀ b)) : PE X (.BinOp ea (opOf o) eb pos) (tD G T W ex A₀ H₀ (.bin o a b)) := by
  refine PE.of (pe_op (op_bin P.hG o) ha hb) fun σ H Q ⟨A, O, ρ, er, h⟩ => ?_
  rw [ev] at h
  refine seq2 er h fun x y v w H2 _ _ s hv hw er2 h2 => ?_
  cases e : binD o x y with
  | stk => rw [e] at h2; exact h2.elim
  | exc z => exact (binD_exc e).elim
  | ok d =>
    rw [e] at h2
    exact ⟨_, x, y, d, hv, hw, e, Res.tr h2⟩
theorem asInt_exc {x : D} {e : Xc} (h : asInt x = .exc e) : False := by
  unfold asInt at h
  split at h <;> cases h
theorem se_neg {a : Ex} {ea : Expr} {pos : Pos} (ha : PE X ea (tD G T W ex A₀ H₀ a)) : PE X (.UnaryOp .USub ea pos) (tD G T W ex A₀ H₀ (.neg a)) := by
  refine PE.of (pe_un un_neg ha) fun σ H Q ⟨A, O, ρ, er, h⟩ => ?_
  rw [ev] at h
  refine seq1 er h fun x v H1 _ s hv er1 h1 => ?_
  cases hv with
  | int i => exact ⟨i, rfl, Res.int h1⟩
  | _ => exact h1.elim
/-- a comparison's reading -/
theorem cmp_step {o : CmpO} {a b : Ex} {A : Addr → Prop} {O : Ow} {σ : L2.St} {H : Hp} {ρ : Env} {f : Bool} {B : Addr → Prop} {Q : VK} (er : ER G ex A₀ H₀ A O σ H ρ) (h : outD G W B σ f H ((ev T a ρ).bind fun x => (ev T b ρ).bind fun y => cmpD o x y) Q) :
    tOp (rCmp G o) (tD G T W ex A₀ H₀ a) (tD G T W ex A₀ H₀ b) σ H Q := by
  refine seq2 er h fun x y v w H2 _ _ s hv hw er2 h2 => ?_
  cases e : cmpD o x y with
  | stk => rw [e] at h2; exact h2.elim
  | exc z => exact (cmpD_exc e).elim
  | ok d =>
    rw [e] at h2
    obtain ⟨b, rfl⟩ := cmpD_bl e
    exact ⟨_, x, y, b, hv, hw, e, Res.bl h2⟩
theorem se_cmp {o : CmpO} {a b : Ex} {ea eb : Expr} {pos : Pos} (P : PX G S T X L W ex) (ha : PE X ea (tD G T W ex A₀ H₀ a)) (hb : PE X eb (tD G T W ex A₀ H₀ b)) (hm : behindInMarks (cOp o) eb = false) : PE X (.Compare ea [cOp o] [eb] pos) (tD G T W ex A₀ H₀ (.cmp o a b)) := by
  refine PE.of (pe_cmpR (op_cmp P.hG P.un o) ha hb hm) fun σ H Q ⟨A, O, ρ, er, h⟩ => ?_
  rw [ev] at h
  exact cmp_step er h
/-- a test's outcome, from the value's -/
theorem out_test {A : Addr → Prop} {σ : L2.St} {H : Hp} {r : R D} {Q : Bool → Hp → Prop} (hb : ∀ d, r = .ok d → ∃ b, d = .bl b) (h : outB G W σ H (r.bind truR) Q) : outD G W A σ false H r fun x H' => ∃ k, x = .bl k ∧ Q k H' := by
  cases r with
  | stk => exact h
  | exc x => exact h
  | ok d =>
    obtain ⟨b, rfl⟩ := hb d rfl
    intro v H' s hv _
    cases hv
    exact ⟨b, rfl, h H' s⟩
theorem out_testR {A : Addr → Prop} {σ : L2.St} {H : Hp} {r : R D} {Q : Bool → Hp → Prop} (h : outB G W σ H (r.bind truR) Q) : outD G W A σ false H r fun x H' => rTru G x H' Q := by
  cases r with
  | stk => exact h
  | exc x => exact h
  | ok d =>
    intro v H' s hv _
    have h : outB G W σ H (truR d) Q := h
    unfold truR at h
    cases e : tru d with
    | none => rw [e] at h; exact h.elim
    | some b =>
      rw [e] at h
      exact ⟨_, d, b, hv, e, h H' s⟩
/-- any expression whose test is its value's truth -/
theorem st_val {i : Ex} {e : Expr} (ha : PE X e (tD G T W ex A₀ H₀ i)) (he : ∀ whole, isTrue e X.env whole = (do let v ← whole; standAt e.pos; holding [v] (truthy v))) : PT X e (tDB G T W ex A₀ H₀ i) := by
  refine PT.of (pt_truthR ha (tru_D (G := G)) he) fun σ H Q ⟨A, O, ρ, er, h⟩ => ?_
  exact ⟨A, O, ρ, er, (match hr : ev T i ρ, h with
    | .stk, h => h
    | .exc x, h => h
    | .ok d, h => fun v H' s hv o => out_testR (A := wi A O (roots i)) (r := .ok d) h v H' s hv (fun z => absurd z Bool.false_ne_true))⟩
end
end PD
end

section
set_option Elab.async false
set_option linter.all false
set_option maxRecDepth 100000
set_option maxHeartbeats 4000000
/-! PD, part 8: expressions: tests, displays, subscripts, fields. -/
namespace PD
open PySem PySem.Spec PyProof.Rows L2
section
variable {G : Sg} {S : Sx} {T : Tab} {X : Cx} {L : Lo} {W : WX} {ex : ExI} {A₀ : Addr → Prop} {H₀ : Hp}

/-! ### tests -/
theorem outD_imp {A : Addr → Prop} {σ : L2.St} {f f' : Bool} {H : Hp} {r : R D} {Q Q' : VK} (hf : f = true → f' = true) (h : outD G W A σ f H r Q) (hq : ∀ v H', Q v H' → Q' v H') : outD G W A σ f' H r Q' := by
  cases r with
  | stk => exact h
  | exc x => exact h
  | ok d => exact fun v H' s hv o => hq v H' (h v H' s hv fun e => o (hf e))
theorem test_cmp {A : Addr → Prop} {σ : L2.St} {H : Hp} {r : R D} {Q : Bool → Hp → Prop} (hb : ∀ d, r = .ok d → ∃ b, d = .bl b) (h : outB G W σ H (r.bind truR) Q) : outD G W A σ true H r fun x H' => ∃ k, x = .bl k ∧ Q k H' :=
  outD_imp (fun e => absurd e Bool.false_ne_true) (out_test hb h) fun _ _ q => q
theorem bind2_bl {a b : Ex} {o : CmpO} {ρ : Env} {d : D} (h : ((ev T a ρ).bind fun x => (ev T b ρ).bind fun y => cmpD o x y) = .ok d) : ∃ k, d = .bl k := by
  obtain ⟨x, _, h⟩ := bind_ok h
  obtain ⟨y, _, h⟩ := bind_ok h
  exact cmpD_bl h
theorem st_cmp {o : CmpO} {a b : Ex} {ea eb : Expr} {pos : Pos} (P : PX G S T X L W ex) (ha : PE X ea (tD G T W ex A₀ H₀ a)) (hb : PE X eb (tD G T W ex A₀ H₀ b)) (hm : behindInMarks (cOp o) eb = false) : PT X (.Compare ea [cOp o] [eb] pos) (tDB G T W ex A₀ H₀ (.cmp o a b)) := by
  refine PT.of (pt_cmpR (op_cmp P.hG P.un o) ha hb hm) fun σ H Q ⟨A, O, ρ, er, h⟩ => ?_
  rw [ev] at h
  exact cmp_step er (test_cmp (A := A) (fun d e => bind2_bl e) h)
/-! chains -/
def chainR (T : Tab) (o o' : CmpO) (a b c : Ex) (ρ : Env) : R D := (ev T a ρ).bind fun x => (ev T b ρ).bind fun y => (cmpD o x y).bind fun r => match r with
    | .bl true => (ev T c ρ).bind fun z => cmpD o' y z
    | .bl false => .ok (.bl false)
    | _ => .stk
theorem chain_bl {o o' : CmpO} {a b c : Ex} {ρ : Env} {d : D} (h : chainR T o o' a b c ρ = .ok d) : ∃ k, d = .bl k := by
  obtain ⟨x, _, h⟩ := bind_ok h
  obtain ⟨y, _, h⟩ := bind_ok h
  obtain ⟨r, e, h⟩ := bind_ok h
  obtain ⟨b, rfl⟩ := cmpD_bl e
  cases b with
  | false => exact ⟨false, (ok_inj h).symm⟩
  | true =>
    obtain ⟨z, _, h⟩ := bind_ok h
    exact cmpD_bl h
theorem chain_step {o o' : CmpO} {a b c : Ex} {A : Addr → Prop} {O : Ow} {σ : L2.St} {H : Hp} {ρ : Env} {f : Bool} {B : Addr → Prop} {Q : VK} (er : ER G ex A₀ H₀ A O σ H ρ) (h : outD G W B σ f H (chainR T o o' a b c ρ) Q) :
    tChain (rCmp G o) (rCmp G o') (tD G T W ex A₀ H₀ a) (tD G T W ex A₀ H₀ b) (tD G T W ex A₀ H₀ c) σ H Q := by
  refine seq2 er h fun x y v w H2 _ _ s hv hw er2 h2 => ?_
  cases e : cmpD o x y with
  | stk => rw [e] at h2; exact h2.elim
  | exc z => exact (cmpD_exc e).elim
  | ok d =>
    rw [e] at h2
    obtain ⟨b', rfl⟩ := cmpD_bl e
    refine ⟨_, x, y, b', hv, hw, e, b', rfl, ?_⟩
    cases b' with
    | false =>
      rw [if_neg Bool.false_ne_true]
      exact Res.bl h2
    | true =>
      rw [if_pos rfl]
      refine seq1 er2 h2 fun z u H3 _ s3 hu er3 h3 => ?_
      cases e2 : cmpD o' y z with
      | stk => rw [e2] at h3; exact h3.elim
      | exc z => exact (cmpD_exc e2).elim
      | ok d =>
        rw [e2] at h3
        obtain ⟨b', rfl⟩ := cmpD_bl e2
        exact ⟨fun _ => True, y, z, b', hw.mono (fun _ _ => trivial) s3, hu.mono (fun _ _ => trivial) (Same.refl _), e2, Res.bl h3⟩
theorem se_cmp2 {o o' : CmpO} {a b c : Ex} {ea eb ec : Expr} {pos : Pos} (P : PX G S T X L W ex) (ha : PE X ea (tD G T W ex A₀ H₀ a)) (hb : PE X eb (tD G T W ex A₀ H₀ b)) (hc : PE X ec (tD G T W ex A₀ H₀ c)) (hm : lastMarks [cOp o, cOp o'] [eb, ec] = false) :
    PE X (.Compare ea [cOp o, cOp o'] [eb, ec] pos) (tD G T W ex A₀ H₀ (.cmp2 o o' a b c)) := by
  refine PE.of (pe_chain (op_cmp P.hG P.un o) (op_cmp P.hG P.un o') ha hb hc hm) fun σ H Q ⟨A, O, ρ, er, h⟩ => ?_
  rw [ev] at h
  exact chain_step er h
theorem st_cmp2 {o o' : CmpO} {a b c : Ex} {ea eb ec : Expr} {pos : Pos} (P : PX G S T X L W ex) (ha : PE X ea (tD G T W ex A₀ H₀ a)) (hb : PE X eb (tD G T W ex A₀ H₀ b)) (hc : PE X ec (tD G T W ex A₀ H₀ c)) (hm : lastMarks [cOp o, cOp o'] [eb, ec] = false) :
    PT X (.Compare ea [cOp o, cOp o'] [eb, ec] pos) (tDB G T W ex A₀ H₀ (.cmp2 o o' a b c)) := by
  refine PT.of (pt_chain (op_cmp P.hG P.un o) (op_cmp P.hG P.un o') ha hb hc hm) fun σ H Q ⟨A, O, ρ, er, h⟩ => ?_
  rw [ev] at h
  exact chain_step er (test_cmp (A := A) (fun d e => chain_bl e) h)
/-! is None -/
theorem non_iff {A : Addr → Prop} {H : Hp} {v : V} {x : D} (hv : Has G A H v x) : decide (v = .non) = isNon x := by cases hv <;> simp [isNon]
theorem non_iff2 {A : Addr → Prop} {H : Hp} {v : V} {x : D} (hv : Has G A H v x) : (!decide (v = .non)) = !isNon x := by rw [non_iff hv]
theorem isN_step {a : Ex} {A : Addr → Prop} {O : Ow} {σ : L2.St} {H : Hp} {ρ : Env} {f : Bool} {B : Addr → Prop} {Q : VK} (er : ER G ex A₀ H₀ A O σ H ρ) (h : outD G W B σ f H (ev T (.isN a) ρ) Q) : tIsN (tD G T W ex A₀ H₀ a) σ H Q := by
  rw [ev] at h
  refine seq1 er h fun x v H1 _ s hv er1 h1 => ?_
  rw [non_iff hv]
  exact Res.bl h1
theorem notN_step {a : Ex} {A : Addr → Prop} {O : Ow} {σ : L2.St} {H : Hp} {ρ : Env} {f : Bool} {B : Addr → Prop} {Q : VK} (er : ER G ex A₀ H₀ A O σ H ρ) (h : outD G W B σ f H (ev T (.notN a) ρ) Q) : tNotN (tD G T W ex A₀ H₀ a) σ H Q := by
  rw [ev] at h
  refine seq1 er h fun x v H1 _ s hv er1 h1 => ?_
  rw [non_iff2 hv]
  exact Res.bl h1
theorem bl_isN {a : Ex} {ρ : Env} {d : D} (h : ev T (.isN a) ρ = .ok d) : ∃ k, d = .bl k := by
  rw [ev] at h
  obtain ⟨x, _, h⟩ := bind_ok h
  exact ⟨_, (ok_inj h).symm⟩
theorem bl_notN {a : Ex} {ρ : Env} {d : D} (h : ev T (.notN a) ρ = .ok d) : ∃ k, d = .bl k := by
  rw [ev] at h
  obtain ⟨x, _, h⟩ := bind_ok h
  exact ⟨_, (ok_inj h).symm⟩
theorem se_isN {a : Ex} {ea : Expr} {j : Nat} {p pos : Pos} (ha : PE X ea (tD G T W ex A₀ H₀ a)) : PE X (.Compare ea [.Is] [.Constant .none j p] pos) (tD G T W ex A₀ H₀ (.isN a)) :=
  PE.of (pe_cmp (pc_isN ha)) fun σ H Q ⟨A, O, ρ, er, h⟩ => isN_step er h
theorem se_notN {a : Ex} {ea : Expr} {j : Nat} {p pos : Pos} (ha : PE X ea (tD G T W ex A₀ H₀ a)) : PE X (.Compare ea [.IsNot] [.Constant .none j p] pos) (tD G T W ex A₀ H₀ (.notN a)) :=
  PE.of (pe_cmp (pc_notN ha)) fun σ H Q ⟨A, O, ρ, er, h⟩ => notN_step er h
theorem st_isN {a : Ex} {ea : Expr} {j : Nat} {p pos : Pos} (ha : PE X ea (tD G T W ex A₀ H₀ a)) : PT X (.Compare ea [.Is] [.Constant .none j p] pos) (tDB G T W ex A₀ H₀ (.isN a)) :=
  PT.of (pt_cmp (pc_isN ha)) fun σ H Q ⟨A, O, ρ, er, h⟩ => isN_step er (test_cmp (A := A) (fun d e => bl_isN e) h)
theorem st_notN {a : Ex} {ea : Expr} {j : Nat} {p pos : Pos} (ha : PE X ea (tD G T W ex A₀ H₀ a)) : PT X (.Compare ea [.IsNot] [.Constant .none j p] pos) (tDB G T W ex A₀ H₀ (.notN a)) :=
  PT.of (pt_cmp (pc_notN ha)) fun σ H Q ⟨A, O, ρ, er, h⟩ => notN_step er (test_cmp (A := A) (fun d e => bl_notN e) h)

/-! ### and, or, not, if -/
theorem outB_exc {σ : L2.St} {H H' : Hp} {x : Xc} {Q Q' : Bool → Hp → Prop} (s : Same H H') (h : outB G W σ H (.exc x) Q) : outB G W σ H' (.exc x) Q' := fun cls dx H2 s2 r => h cls dx H2 (same_tr s s2) r
theorem outB_up {σ : L2.St} {H H' : Hp} {r : R Bool} {Q : Bool → Hp → Prop} (s : Same H H') (h : outB G W σ H r Q) : outB G W σ H' r Q := by
  cases r with
  | stk => exact h
  | exc x => exact outB_exc s h
  | ok b => exact fun H2 s2 => h H2 (same_tr s s2)
theorem outBD {A : Addr → Prop} {σ : L2.St} {f : Bool} {H H' : Hp} {x : Xc} {Q : VK} {Q' : Bool → Hp → Prop} (s : Same H H') (h : outD G W A σ f H (.exc x) Q) : outB G W σ H' (.exc x) Q' := fun cls dx H2 s2 r => h cls dx H2 (same_tr s s2) r
/-- a test, then a value -/
theorem seqT {a : Ex} {A : Addr → Prop} {O : Ow} {σ : L2.St} {H : Hp} {ρ : Env} {f : Bool} {g : Bool → R D} {B : Addr → Prop} {Q : VK} {R : Bool → Hp → Prop} (er : ER G ex A₀ H₀ A O σ H ρ) (h : outD G W B σ f H (((ev T a ρ).bind truR).bind g) Q)
    (k : ∀ x H1, Same H H1 → ER G ex A₀ H₀ (fr A H) O σ H1 ρ → outD G W (fr B H) σ f H1 (g x) Q → R x H1) : tDB G T W ex A₀ H₀ a σ H R := by
  refine ⟨A, O, ρ, er, ?_⟩
  cases e : (ev T a ρ).bind truR with
  | stk => rw [e] at h; exact h
  | exc x => rw [e] at h; exact outBD (Same.refl H) h
  | ok x =>
    rw [e] at h
    exact fun H1 s1 => k x H1 s1 (er.go s1) (outD_up s1 (fun _ z => z) h)
theorem seqTB {a : Ex} {A : Addr → Prop} {O : Ow} {σ : L2.St} {H : Hp} {ρ : Env} {g : Bool → R Bool} {Q : Bool → Hp → Prop} {R : Bool → Hp → Prop} (er : ER G ex A₀ H₀ A O σ H ρ) (h : outB G W σ H (((ev T a ρ).bind truR).bind g) Q)
    (k : ∀ x H1, Same H H1 → ER G ex A₀ H₀ (fr A H) O σ H1 ρ → outB G W σ H1 (g x) Q → R x H1) : tDB G T W ex A₀ H₀ a σ H R := by
  refine ⟨A, O, ρ, er, ?_⟩
  cases e : (ev T a ρ).bind truR with
  | stk => rw [e] at h; exact h
  | exc x => rw [e] at h; exact outB_exc (Same.refl H) h
  | ok x =>
    rw [e] at h
    exact fun H1 s1 => k x H1 s1 (er.go s1) (outB_up s1 h)
theorem bind_assoc {α β γ : Type} (r : R α) (f : α → R β) (g : β → R γ) : (r.bind f).bind g = r.bind fun x => (f x).bind g := by cases r <;> rfl
theorem bind_congr {α β : Type} {r : R α} {f g : α → R β} (h : ∀ x, f x = g x) : r.bind f = r.bind g := by cases r <;> simp [R.bind, h]
theorem roots_and (a b : Ex) : roots (.and a b) = roots a ++ roots b := rfl
theorem se_and {a b : Ex} {ea eb : Expr} {rest : List Expr} {pos : Pos} (ha : PE X ea (tD G T W ex A₀ H₀ a)) (hb : PE X (.BoolOp .And (eb :: rest) pos) (tD G T W ex A₀ H₀ b)) : PE X (.BoolOp .And (ea :: eb :: rest) pos) (tD G T W ex A₀ H₀ (.and a b)) := by
  refine ⟨fun pins s σ H Q I ⟨A, O, ρ, er, h⟩ => ?_⟩
  rw [ev] at h
  have h2 := seq1 (R := fun v H1 => ∃ x k, Has G (fr (wi A O (roots a)) H) H1 v x ∧ tru x = some k ∧ (if k = true then tD G T W ex A₀ H₀ b σ H1 Q else Q v H1)) er h fun x v H1 e s hv er1 h1 => by
    unfold truR at h1
    cases et : tru x with
    | none => rw [et] at h1; exact h1.elim
    | some k =>
      rw [et] at h1
      refine ⟨x, k, hv, et, ?_⟩
      cases k with
      | false =>
        rw [if_neg Bool.false_ne_true]
        have h1 : Res G (fr (wi A O (roots a ++ roots b)) H) false H1 x Q := h1
        exact h1.here (hv.mono (fun q z => fr_wi (fun j hj => List.mem_append_left _ hj) z) (Same.refl H1))
      | true =>
        rw [if_pos rfl]
        refine ⟨_, O, ρ, er1, ?_⟩
        refine outD_imp (f := false) (fun e => absurd e Bool.false_ne_true) (outD_up (Same.refl H1) (fun q z => ?_) h1) fun _ _ q => q
        rcases z with z | z
        · exact .inl (z.imp (fun z => .inl z) id)
        · exact .inl (.inl (.inr (let ⟨j, hj, k, z⟩ := z; ⟨j, List.mem_append_right _ hj, k, z⟩)))
  refine BoolOp_and (thn (ha.run pins s σ H _ I h2) fun v s1 ⟨u, H1, I1, r1, x, k, hv, et, q1⟩ => ?_)
  refine thn (tru_D (G := G) pins s1 σ H1 u v (fun c H2 => c = k ∧ H2 = H1) I1 r1 ⟨_, x, k, hv, et, rfl, rfl⟩) fun c s2 hc => ?_
  obtain ⟨H2, I2, e1, e2⟩ := hc
  rw [e2] at I2
  rw [← e1] at q1
  cases c with
  | true => exact hb.run pins s2 σ H1 Q I2 q1
  | false => exact ⟨u, H1, I2, r1, q1⟩
theorem se_or {a b : Ex} {ea eb : Expr} {rest : List Expr} {pos : Pos} (ha : PE X ea (tD G T W ex A₀ H₀ a)) (hb : PE X (.BoolOp .Or (eb :: rest) pos) (tD G T W ex A₀ H₀ b)) : PE X (.BoolOp .Or (ea :: eb :: rest) pos) (tD G T W ex A₀ H₀ (.or a b)) := by
  refine ⟨fun pins s σ H Q I ⟨A, O, ρ, er, h⟩ => ?_⟩
  rw [ev] at h
  have h2 := seq1 (R := fun v H1 => ∃ x k, Has G (fr (wi A O (roots a)) H) H1 v x ∧ tru x = some k ∧ (if k = true then Q v H1 else tD G T W ex A₀ H₀ b σ H1 Q)) er h fun x v H1 e s hv er1 h1 => by
    unfold truR at h1
    cases et : tru x with
    | none => rw [et] at h1; exact h1.elim
    | some k =>
      rw [et] at h1
      refine ⟨x, k, hv, et, ?_⟩
      cases k with
      | true =>
        rw [if_pos rfl]
        have h1 : Res G (fr (wi A O (roots a ++ roots b)) H) false H1 x Q := h1
        exact h1.here (hv.mono (fun q z => fr_wi (fun j hj => List.mem_append_left _ hj) z) (Same.refl H1))
      | false =>
        rw [if_neg Bool.false_ne_true]
        refine ⟨_, O, ρ, er1, ?_⟩
        refine outD_imp (f := false) (fun e => absurd e Bool.false_ne_true) (outD_up (Same.refl H1) (fun q z => ?_) h1) fun _ _ q => q
        rcases z with z | z
        · exact .inl (z.imp (fun z => .inl z) id)
        · exact .inl (.inl (.inr (let ⟨j, hj, k, z⟩ := z; ⟨j, List.mem_append_right _ hj, k, z⟩)))
  refine BoolOp_or (thn (ha.run pins s σ H _ I h2) fun v s1 ⟨u, H1, I1, r1, x, k, hv, et, q1⟩ => ?_)
  refine thn (tru_D (G := G) pins s1 σ H1 u v (fun c H2 => c = k ∧ H2 = H1) I1 r1 ⟨_, x, k, hv, et, rfl, rfl⟩) fun c s2 hc => ?_
  obtain ⟨H2, I2, e1, e2⟩ := hc
  rw [e2] at I2
  rw [← e1] at q1
  cases c with
  | true => exact ⟨u, H1, I2, r1, q1⟩
  | false => exact hb.run pins s2 σ H1 Q I2 q1
theorem ev_and (a b : Ex) (ρ : Env) : (ev T (.and a b) ρ).bind truR = ((ev T a ρ).bind truR).bind fun k => match k with
    | true => (ev T b ρ).bind truR
    | false => .ok false := by
  rw [ev, bind_assoc, bind_assoc]
  refine bind_congr fun x => ?_
  unfold truR
  cases e : tru x with
  | none => rfl
  | some k =>
    cases k with
    | true => rfl
    | false =>
      show R.ofO (tru x) = _
      rw [e]
      rfl
theorem ev_or (a b : Ex) (ρ : Env) : (ev T (.or a b) ρ).bind truR = ((ev T a ρ).bind truR).bind fun k => match k with
    | true => .ok true
    | false => (ev T b ρ).bind truR := by
  rw [ev, bind_assoc, bind_assoc]
  refine bind_congr fun x => ?_
  unfold truR
  cases e : tru x with
  | none => rfl
  | some k =>
    cases k with
    | false => rfl
    | true =>
      show R.ofO (tru x) = _
      rw [e]
      rfl
theorem and_step {a b : Ex} {A : Addr → Prop} {O : Ow} {σ : L2.St} {H : Hp} {ρ : Env} {Q : Bool → Hp → Prop} (er : ER G ex A₀ H₀ A O σ H ρ) (h : outB G W σ H ((ev T (.and a b) ρ).bind truR) Q) : tAnd (tDB G T W ex A₀ H₀ a) (tDB G T W ex A₀ H₀ b) σ H Q := by
  rw [ev_and] at h
  refine seqTB er h fun x H1 s er1 h1 => ?_
  cases x with
  | true =>
    rw [if_pos rfl]
    exact ⟨_, O, ρ, er1, h1⟩
  | false =>
    rw [if_neg Bool.false_ne_true]
    exact h1 H1 (Same.refl H1)
theorem or_step {a b : Ex} {A : Addr → Prop} {O : Ow} {σ : L2.St} {H : Hp} {ρ : Env} {Q : Bool → Hp → Prop} (er : ER G ex A₀ H₀ A O σ H ρ) (h : outB G W σ H ((ev T (.or a b) ρ).bind truR) Q) : tOr (tDB G T W ex A₀ H₀ a) (tDB G T W ex A₀ H₀ b) σ H Q := by
  rw [ev_or] at h
  refine seqTB er h fun x H1 s er1 h1 => ?_
  cases x with
  | false =>
    rw [if_neg Bool.false_ne_true]
    exact ⟨_, O, ρ, er1, h1⟩
  | true =>
    rw [if_pos rfl]
    exact h1 H1 (Same.refl H1)
theorem sw_and {a b : Ex} {ea eb : Expr} {rest : List Expr} {pos : Pos} (ha : PT X ea (tDB G T W ex A₀ H₀ a)) (hb : PW X (.BoolOp .And (eb :: rest) pos) (tDB G T W ex A₀ H₀ b)) : PW X (.BoolOp .And (ea :: eb :: rest) pos) (tDB G T W ex A₀ H₀ (.and a b)) :=
  PW.of (pw_and ha hb) fun σ H Q ⟨A, O, ρ, er, h⟩ => and_step er h
theorem sw_or {a b : Ex} {ea eb : Expr} {rest : List Expr} {pos : Pos} (ha : PT X ea (tDB G T W ex A₀ H₀ a)) (hb : PW X (.BoolOp .Or (eb :: rest) pos) (tDB G T W ex A₀ H₀ b)) : PW X (.BoolOp .Or (ea :: eb :: rest) pos) (tDB G T W ex A₀ H₀ (.or a b)) :=
  PW.of (pw_or ha hb) fun σ H Q ⟨A, O, ρ, er, h⟩ => or_step er h
theorem ev_not (a : Ex) (ρ : Env) : ev T (.not a) ρ = ((ev T a ρ).bind truR).bind fun k => .ok (.bl (!k)) := by
  rw [ev, bind_assoc]
theorem se_not {a : Ex} {ea : Expr} {pos : Pos} (ha : PE X ea (tD G T W ex A₀ H₀ a)) : PE X (.UnaryOp .Not ea pos) (tD G T W ex A₀ H₀ (.not a)) := by
  refine ⟨fun pins s σ H Q I ⟨A, O, ρ, er, h⟩ => ?_⟩
  rw [ev] at h
  have h2 := seq1 (R := fun v H1 => ∃ x k, Has G (fr (wi A O (roots a)) H) H1 v x ∧ tru x = some k ∧ Q (.bl (!k)) H1) er h fun x v H1 e s hv er1 h1 => by
    unfold truR at h1
    cases et : tru x with
    | none => rw [et] at h1; exact h1.elim
    | some k =>
      rw [et] at h1
      exact ⟨x, k, hv, et, Res.bl h1⟩
  refine UnaryOp_ (thn (ha.run pins s σ H _ I h2) fun v s1 ⟨u, H1, I1, r1, x, k, hv, et, q1⟩ => ?_)
  exact not_of (thn (tru_D (G := G) pins s1 σ H1 u v (fun c H2 => Q (.bl (!c)) H2) I1 r1 ⟨_, x, k, hv, et, q1⟩) fun c s2 ⟨H2, I2, q2⟩ => ⟨.bl (!c), H2, I2, rfl, q2⟩)
theorem st_not {a : Ex} {ea : Expr} {pos : Pos} (ha : PT X ea (tDB G T W ex A₀ H₀ a)) : PT X (.UnaryOp .Not ea pos) (tDB G T W ex A₀ H₀ (.not a)) := by
  refine PT.of (pt_not ha) fun σ H Q ⟨A, O, ρ, er, h⟩ => ?_
  rw [ev_not, bind_assoc] at h
  refine seqTB er h fun x H1 s er1 h1 => ?_
  exact h1 H1 (Same.refl H1)
theorem ev_ite (c a b : Ex) (ρ : Env) : ev T (.ite c a b) ρ = ((ev T c ρ).bind truR).bind fun k => match k with
    | true => ev T a ρ
    | false => ev T b ρ := by
  rw [ev, bind_assoc] <;> rfl
theorem se_ite {c a b : Ex} {ec ea eb : Expr} {pos : Pos} (hc : PT X ec (tDB G T W ex A₀ H₀ c)) (ha : PE X ea (tD G T W ex A₀ H₀ a)) (hb : PE X eb (tD G T W ex A₀ H₀ b)) : PE X (.IfExp ec ea eb pos) (tD G T W ex A₀ H₀ (.ite c a b)) := by
  refine PE.of (pe_ifExp hc ha hb) fun σ H Q ⟨A, O, ρ, er, h⟩ => ?_
  rw [ev_ite] at h
  refine seqT er h fun x H1 s er1 h1 => ?_
  cases x with
  | true =>
    rw [if_pos rfl]
    refine ⟨_, O, ρ, er1, outD_imp (f := false) (fun e => absurd e Bool.false_ne_true) (outD_up (Same.refl H1) (fun q z => ?_) h1) fun _ _ q => q⟩
    rcases z with z | z
    · exact .inl (z.imp (fun z => .inl z) id)
    · exact .inl (.inl (.inr (let ⟨j, hj, k, z⟩ := z; ⟨j, List.mem_append_left _ hj, k, z⟩)))
  | false =>
    rw [if_neg Bool.false_ne_true]
    refine ⟨_, O, ρ, er1, outD_imp (f := false) (fun e => absurd e Bool.false_ne_true) (outD_up (Same.refl H1) (fun q z => ?_) h1) fun _ _ q => q⟩
    rcases z with z | z
    · exact .inl (z.imp (fun z => .inl z) id)
    · exact .inl (.inl (.inr (let ⟨j, hj, k, z⟩ := z; ⟨j, List.mem_append_right _ hj, k, z⟩)))
/-- as a test -/
theorem st_ite {c a b : Ex} {ec ea eb : Expr} {pos : Pos} (hc : PT X ec (tDB G T W ex A₀ H₀ c)) (ha : PT X ea (tDB G T W ex A₀ H₀ a)) (hb : PT X eb (tDB G T W ex A₀ H₀ b)) : PT X (.IfExp ec ea eb pos) (tDB G T W ex A₀ H₀ (.ite c a b)) := by
  refine ⟨fun pins s σ H Q I ⟨A, O, ρ, er, h⟩ => ?_⟩
  rw [ev_ite, bind_assoc] at h
  have h2 := seqTB (R := fun k H1 => if k = true then tDB G T W ex A₀ H₀ a σ H1 Q else tDB G T W ex A₀ H₀ b σ H1 Q) er h fun x H1 s er1 h1 => by
    cases x with
    | true => rw [if_pos rfl]; exact ⟨_, O, ρ, er1, h1⟩
    | false => rw [if_neg Bool.false_ne_true]; exact ⟨_, O, ρ, er1, h1⟩
  show wpAny _ X.A (do if ← isTrue ec X.env (eval ec X.env) then isTrue ea X.env (eval ea X.env) else isTrue eb X.env (eval eb X.env)) _ _ s
  refine wpAny_bind (thn (hc.run pins s σ H _ I h2) fun k s1 ⟨H1, I1, q1⟩ => ?_)
  cases k with
  | true => exact ha.run pins s1 σ H1 Q I1 q1
  | false => exact hb.run pins s1 σ H1 Q I1 q1
end
end PD
end

section
set_option Elab.async false
set_option linter.all false
set_option maxRecDepth 100000
set_option maxHeartbeats 4000000
/-! PD, part 9: expressions: displays, subscripts, fields, calls. -/
namespace PD
open PySem PySem.Spec PyProof.Rows L2
section
variable {G : Sg} {S : Sx} {T : Tab} {X : Cx} {L : Lo} {W : WX} {ex : ExI} {A₀ : Addr → Prop} {H₀ : Hp}

theorem outDL_exc {A A' : Addr → Prop} {σ : L2.St} {f : Bool} {H H' : Hp} {x : Xc} {Q : List V → Hp → Prop} {Q' : VK} (s : Same H H') (h : outL G W A σ H (.exc x) Q) : outD G W A' σ f H' (.exc x) Q' := fun cls dx H2 s2 r => h cls dx H2 (same_tr s s2) r
theorem outLD_exc {A A' : Addr → Prop} {σ : L2.St} {f : Bool} {H H' : Hp} {x : Xc} {Q : VK} {Q' : List V → Hp → Prop} (s : Same H H') (h : outD G W A σ f H (.exc x) Q) : outL G W A' σ H' (.exc x) Q' := fun cls dx H2 s2 r => h cls dx H2 (same_tr s s2) r
theorem outL_exc {A A' : Addr → Prop} {σ : L2.St} {H H' : Hp} {x : Xc} {Q Q' : List V → Hp → Prop} (s : Same H H') (h : outL G W A σ H (.exc x) Q) : outL G W A' σ H' (.exc x) Q' := fun cls dx H2 s2 r => h cls dx H2 (same_tr s s2) r
theorem outL_up {A A' : Addr → Prop} {σ : L2.St} {H H' : Hp} {r : R (List D)} {Q : List V → Hp → Prop} (s : Same H H') (hA : ∀ q, A' q → fr A H q) (h : outL G W A σ H r Q) : outL G W A' σ H' r Q := by
  cases r with
  | ok d => exact fun vs H2 s2 hv => h vs H2 (same_tr s s2) (hv.mono (fun q z => fr_up s hA z) (Same.refl _))
  | exc x => exact outL_exc s h
  | stk => exact h
/-- one value, then a list -/
theorem seq1L {a : Ex} {A : Addr → Prop} {O : Ow} {σ : L2.St} {H : Hp} {ρ : Env} {g : D → R (List D)} {B : Addr → Prop} {Q : List V → Hp → Prop} {R : V → Hp → Prop} (er : ER G ex A₀ H₀ A O σ H ρ) (h : outL G W B σ H ((ev T a ρ).bind g) Q)
    (k : ∀ x v H1, ev T a ρ = .ok x → Same H H1 → Has G (fr (wi A O (roots a)) H) H1 v x → ER G ex A₀ H₀ (fr A H) O σ H1 ρ → outL G W (fr B H) σ H1 (g x) Q → R v H1) : tD G T W ex A₀ H₀ a σ H R := by
  refine ⟨A, O, ρ, er, ?_⟩
  cases e : ev T a ρ with
  | stk => rw [e] at h; exact h
  | exc x => rw [e] at h; exact outDL_exc (Same.refl H) h
  | ok x =>
    rw [e] at h
    exact fun v H1 s1 hv _ => k x v H1 e s1 hv (er.go s1) (outL_up s1 (fun _ z => z) h)
/-- values, then the rest -/
theorem seqL {es : Exs} {A : Addr → Prop} {O : Ow} {σ : L2.St} {H : Hp} {ρ : Env} {f : Bool} {g : List D → R D} {B : Addr → Prop} {Q : VK} {R : List V → Hp → Prop} (er : ER G ex A₀ H₀ A O σ H ρ) (h : outD G W B σ f H ((evs T es ρ).bind g) Q)
    (k : ∀ ds vs H1, evs T es ρ = .ok ds → Same H H1 → HasL G (fr (wi A O (rootsS es)) H) H1 vs ds → ER G ex A₀ H₀ (fr A H) O σ H1 ρ → outD G W (fr B H) σ f H1 (g ds) Q → R vs H1) : tDs G T W ex A₀ H₀ es σ H R := by
  refine ⟨A, O, ρ, er, ?_⟩
  cases e : evs T es ρ with
  | stk => rw [e] at h; exact h
  | exc x => rw [e] at h; exact outLD_exc (Same.refl H) h
  | ok x =>
    rw [e] at h
    exact fun vs H1 s1 hv => k x vs H1 e s1 hv (er.go s1) (outD_up s1 (fun _ z => z) h)
theorem seqLL {es : Exs} {A : Addr → Prop} {O : Ow} {σ : L2.St} {H : Hp} {ρ : Env} {g : List D → R (List D)} {B : Addr → Prop} {Q : List V → Hp → Prop} {R : List V → Hp → Prop} (er : ER G ex A₀ H₀ A O σ H ρ) (h : outL G W B σ H ((evs T es ρ).bind g) Q)
    (k : ∀ ds vs H1, evs T es ρ = .ok ds → Same H H1 → HasL G (fr (wi A O (rootsS es)) H) H1 vs ds → ER G ex A₀ H₀ (fr A H) O σ H1 ρ → outL G W (fr B H) σ H1 (g ds) Q → R vs H1) : tDs G T W ex A₀ H₀ es σ H R := by
  refine ⟨A, O, ρ, er, ?_⟩
  cases e : evs T es ρ with
  | stk => rw [e] at h; exact h
  | exc x => rw [e] at h; exact outL_exc (Same.refl H) h
  | ok x =>
    rw [e] at h
    exact fun vs H1 s1 hv => k x vs H1 e s1 hv (er.go s1) (outL_up s1 (fun _ z => z) h)
def notStar : Expr → Bool
  | .Starred _ _ => false
  | _ => true
def noStars : List Expr → Bool
  | [] => true
  | e :: es => notStar e && noStars es
theorem star_no {e : Expr} (h : notStar e = true) (es : List Expr) (env : PySem.Env) : starEach (e :: es) env = (false, eval e env) :: starEach es env := by
  cases e <;> first
    | rfl
    | cases h
theorem stars_no : ∀ {es : List Expr}, noStars es = true → ∀ (pos : Pos) (env : PySem.Env), (backTo pos (starEach es env)).any (·.1) = false
  | [], _, _, _ => rfl
  | e :: es, h, pos, env => by
    obtain ⟨h1, h2⟩ := bb h
    rw [star_no h1]
    show (false || (backTo pos (starEach es env)).any (·.1)) = false
    rw [stars_no h2, Bool.or_false]
theorem sa_nil : PA X [] (tDs G T W ex A₀ H₀ .nil) := PA.of pa_nil fun σ H Q ⟨A, O, ρ, er, h⟩ => by
  rw [evs] at h
  exact h [] H (Same.refl H) .nil
theorem sa_cons {i : Ex} {r : Exs} {e : Expr} {es : List Expr} (ha : PE X e (tD G T W ex A₀ H₀ i)) (hr : PA X es (tDs G T W ex A₀ H₀ r)) (hs : notStar e = true) : PA X (e :: es) (tDs G T W ex A₀ H₀ (.cons i r)) := by
  refine PA.of (pa_cons ha hr (star_no hs es _)) fun σ H Q ⟨A, O, ρ, er, h⟩ => ?_
  rw [evs] at h
  refine seq1L er h fun x v H1 _ s1 hv er1 h1 => ?_
  refine seqLL er1 h1 fun xs vs H2 _ s2 hw er2 h2 => ?_
  refine h2 _ H2 (Same.refl H2) (.cons (hv.mono (fun q z => .inl (.inl (fr_wi (fun j hj => List.mem_append_left _ hj) z))) s2) (hw.mono (fun q z => .inl (.inl (fr_fr s1 (B := wi (fr A H) O (rootsS r)) (fun q z => ?_) z))) (Same.refl H2)))
  rcases z with z | ⟨j, hj, k, z⟩
  · exact z.imp (fun z => .inl z) id
  · exact .inl (.inr ⟨j, List.mem_append_right _ hj, k, z⟩)
/-! ### displays -/
theorem se_tup {es : Exs} {xs : List Expr} {n : Nat} {pos : Pos} (h : PA X xs (tDs G T W ex A₀ H₀ es)) : PE X (.Tuple xs n pos) (tD G T W ex A₀ H₀ (.tup es)) := by
  refine PE.of (pe_tup h) fun σ H Q ⟨A, O, ρ, er, h⟩ => ?_
  rw [ev] at h
  refine seqL er h fun ds vs H1 _ s1 hv er1 h1 => ?_
  cases c : decide (ds.length ≤ line) with
  | false => rw [c] at h1; exact h1.elim
  | true =>
    rw [c] at h1
    have h1 : Res G (fr (wi A O (rootsS es)) H) false H1 (.tup ds) Q := h1
    exact ⟨by rw [hv.length, ← line_eq]; exact of_decide_eq_true c, fun p hp => h1.tup hv hp⟩
theorem se_lst {es : Exs} {xs : List Expr} {pos : Pos} (h : PA X xs (tDs G T W ex A₀ H₀ es)) : PE X (.List xs pos) (tD G T W ex A₀ H₀ (.lst es)) := by
  refine PE.of (pe_lst h) fun σ H Q ⟨A, O, ρ, er, h⟩ => ?_
  rw [ev] at h
  refine seqL er h fun ds vs H1 _ s1 hv er1 h1 => ?_
  cases c : decide (ds.length ≤ line) with
  | false => rw [c] at h1; exact h1.elim
  | true =>
    rw [c] at h1
    have h1 : Res G (fr (wi A O (rootsS es)) H) true H1 (.lst ds) Q := h1
    exact ⟨by rw [hv.length, ← line_eq]; exact of_decide_eq_true c, fun p hp => h1.lst hv hp⟩
theorem se_newK {pos : Pos} : PE X (.Dict [] [] pos) (tD G T W ex A₀ H₀ (.newD false)) := by
  refine PE.of pe_dnewK fun σ H Q ⟨A, O, ρ, er, h⟩ => ?_
  rw [ev] at h
  exact fun p hp => h _ _ (same_upd hp) (.dK (.inr hp) (.inl upd_same) rfl .nil) fun _ => ⟨p, rfl, hp, rfl, upd_same⟩
theorem se_newT {pos : Pos} : PE X (.Dict [] [] pos) (tD G T W ex A₀ H₀ (.newD true)) := by
  refine PE.of pe_dnewT fun σ H Q ⟨A, O, ρ, er, h⟩ => ?_
  rw [ev] at h
  exact fun p hp => h _ _ (same_upd hp) (.dT (.inr hp) (.inl upd_same) rfl .nil) fun _ => ⟨p, rfl, hp, rfl, upd_same⟩
/-! ### subscripts, slices, fields -/
def notSlice : Expr → Bool
  | .Slice _ _ _ _ => false
  | _ => true
theorem plain_ix {b : Expr} (h : notSlice b = true) : PlainIx b := fun o i => by
  cases b <;> first
    | rfl
    | cases h
theorem se_idx {a b : Ex} {ea eb : Expr} {pos : Pos} (P : PX G S T X L W ex) (ha : PE X ea (tD G T W ex A₀ H₀ a)) (hb : PE X eb (tD G T W ex A₀ H₀ b)) (hs : notSlice eb = true) : PE X (.Subscript ea eb pos) (tD G T W ex A₀ H₀ (.idx a b)) := by
  refine PE.of (pe_ix (ix_D (G := G) P.hG P.un) ha hb (plain_ix hs)) fun σ H Q ⟨A, O, ρ, er, h⟩ => ?_
  rw [ev] at h
  have h : outD G W (wi A O (roots a)) σ false H ((ev T a ρ).bind fun x => (ev T b ρ).bind fun y => idxD x y) Q := h
  refine seq1 er h fun x v H1 _ s1 hv er1 h1 => ?_
  refine seq1 er1 h1 fun y w H2 _ s2 hw er2 h2 => ?_
  cases e : idxD x y with
  | stk => rw [e] at h2; exact h2.elim
  | exc z => exact (idxD_exc e).elim
  | ok d =>
    rw [e] at h2
    have h2 : Res G (fr (fr (wi A O (roots a)) H) H1) false H2 d Q := h2
    exact ⟨_, _, x, y, d, hv.mono (fun _ z => z) s2, hw, e, fun u hu => h2.here (hu.mono (fun _ z => .inl z) (Same.refl _))⟩
theorem slc_out {r : V → Option Int → Option Int → Hp → VK → Prop} {B : Addr → Prop} {σ : L2.St} {f : Bool} {H : Hp} {x : D} {v : V} {lo hi : Option Int} {Q : VK} {A : Addr → Prop} (hv : Has G A H v x) (hA : ∀ q, A q → fr B H q) (h : outD G W B σ true H (slcD x lo hi) Q) : rSlc G v lo hi H Q := by
  cases e : slcD x lo hi with
  | stk => rw [e] at h; exact h.elim
  | exc z => exact (slcD_exc e).elim
  | ok d =>
    rw [e] at h
    exact ⟨A, x, d, hv, e, Res.up (Same.refl H) hA h⟩
theorem se_slL {a l : Ex} {ea el : Expr} {p pos : Pos} (ha : PE X ea (tD G T W ex A₀ H₀ a)) (hl : PE X el (tD G T W ex A₀ H₀ l)) : PE X (.Subscript ea (.Slice (some el) none none p) pos) (tD G T W ex A₀ H₀ (.slL a l)) := by
  refine PE.of (pe_slice (sl_D (G := G)) ha (po_some hl) po_none) fun σ H Q ⟨A, O, ρ, er, h⟩ => ?_
  rw [ev] at h
  refine seq1 er h fun x v H1 _ s1 hv er1 h1 => ?_
  refine seq1 er1 h1 fun y w H2 _ s2 hw er2 h2 => ?_
  cases hw with
  | int i => exact ⟨i, rfl, slc_out (r := rSlc G) (f := true) (hv.mono (fun _ z => z) s2) (fun q z => .inl (.inl z)) h2⟩
  | _ => exact h2.elim
theorem se_slU {a l : Ex} {ea el : Expr} {p pos : Pos} (ha : PE X ea (tD G T W ex A₀ H₀ a)) (hl : PE X el (tD G T W ex A₀ H₀ l)) : PE X (.Subscript ea (.Slice none (some el) none p) pos) (tD G T W ex A₀ H₀ (.slU a l)) := by
  refine PE.of (pe_slice (sl_D (G := G)) ha po_none (po_some hl)) fun σ H Q ⟨A, O, ρ, er, h⟩ => ?_
  rw [ev] at h
  refine seq1 er h fun x v H1 _ s1 hv er1 h1 => ?_
  refine seq1 er1 h1 fun y w H2 _ s2 hw er2 h2 => ?_
  cases hw with
  | int i => exact ⟨i, rfl, slc_out (r := rSlc G) (f := true) (hv.mono (fun _ z => z) s2) (fun q z => .inl (.inl z)) h2⟩
  | _ => exact h2.elim
theorem se_slB {a l u : Ex} {ea el eu : Expr} {p pos : Pos} (ha : PE X ea (tD G T W ex A₀ H₀ a)) (hl : PE X el (tD G T W ex A₀ H₀ l)) (hu : PE X eu (tD G T W ex A₀ H₀ u)) : PE X (.Subscript ea (.Slice (some el) (some eu) none p) pos) (tD G T W ex A₀ H₀ (.slB a l u)) := by
  refine PE.of (pe_slice (sl_D (G := G)) ha (po_some hl) (po_some hu)) fun σ H Q ⟨A, O, ρ, er, h⟩ => ?_
  rw [ev] at h
  refine seq1 er h fun x v H1 _ s1 hv er1 h1 => ?_
  refine seq1 er1 h1 fun y w H2 _ s2 hw er2 h2 => ?_
  cases hw with
  | int i =>
    refine ⟨i, rfl, ?_⟩
    refine seq1 er2 h2 fun z t H3 _ s3 ht er3 h3 => ?_
    cases ht with
    | int j => exact ⟨j, rfl, slc_out (r := rSlc G) (f := true) (hv.mono (fun _ z => z) (same_tr s2 s3)) (fun q z => .inl (.inl (.inl z))) h3⟩
    | _ => exact h3.elim
  | _ => exact h2.elim
/-! ### fields -/
def attrOk : Expr → Bool
  | .Call _ _ _ _ => false
  | _ => true
theorem attr_base {o : Expr} (h : attrOk o = true) (f : Str) (env : PySem.Env) (w : Sem Value) : attributeBase o f env w = w := by
  cases o <;> first
    | rfl
    | cases h
theorem lookup_at : ∀ {fs : List (Str × V)} {j : Nat} {f : Str} {v : V}, (fs.map Prod.fst).Nodup → (fs.map Prod.fst)[j]? = some f → (fs.map Prod.snd)[j]? = some v → fs.lookup f = some v
  | [], j, f, v, _, e, _ => by simp at e
  | (g, w) :: fs, 0, f, v, _, e, e2 => by
    simp at e e2
    subst e e2
    simp [List.lookup_cons]
  | (g, w) :: fs, j + 1, f, v, n, e, e2 => by
    rw [List.map_cons, List.nodup_cons] at n
    have e' : (fs.map Prod.fst)[j]? = some f := by simpa using e
    have e2' : (fs.map Prod.snd)[j]? = some v := by simpa using e2
    have ne : f ≠ g := fun z => n.1 (z ▸ List.mem_of_getElem? e')
    rw [List.lookup_cons]
    have b : (f == g) = false := by simp [ne]
    rw [b]
    exact lookup_at n.2 e' e2'
theorem fldD_exc {x : D} {f : Str} {e : Xc} (h : fldD T.fi x f = .exc e) : False := by
  unfold fldD at h
  split at h
  · rcases bind_exc h with h | ⟨_, _, h⟩ <;> exact ofO_exc h
  · cases h
structure FiOk (G : Sg) (T : Tab) : Prop where
  at_ : ∀ c y j, T.fi c y = some j → (G.cf c)[j]? = some y
theorem se_fld {a : Ex} {ea : Expr} {y : Str} {pos : Pos} (P : PX G S T X L W ex) (F : FiOk G T) (ha : PE X ea (tD G T W ex A₀ H₀ a)) (hb : attrOk ea = true) : PE X (.Attribute ea y pos) (tD G T W ex A₀ H₀ (.fld a y)) := by
  refine PE.of (pe_fld ha (attr_base hb _ _ _)) fun σ H Q ⟨A, O, ρ, er, h⟩ => ?_
  rw [ev] at h
  refine seq1 er h fun x v H1 _ s1 hv er1 h1 => ?_
  cases e : fldD T.fi x y with
  | stk => rw [e] at h1; exact h1.elim
  | exc z => exact (fldD_exc e).elim
  | ok d =>
    rw [e] at h1
    cases hv with
    | @obj p C dx fs c ds h0 h1' h2 h3 h4 =>
      obtain ⟨j, e1, e2⟩ := bind_ok (show (R.ofO (T.fi c y)).bind (fun j => R.ofO ds[j]?) = .ok d from e)
      have e1 := F.at_ c y j (ofO_ok e1)
      have e2 := ofO_ok e2
      obtain ⟨w, e3, hw⟩ := h4.get e2
      have hj : j < ds.length := (List.getElem?_eq_some_iff.mp e2).1
      have e4 : (fs.map Prod.fst)[j]? = some y := by rw [h3, List.getElem?_take_of_lt hj]; exact e1
      have hn : (fs.map Prod.fst).Nodup := by rw [h3]; exact (P.cfN c).sublist (List.take_sublist _ _)
      obtain ⟨k1, k2⟩ := P.cls c y (List.mem_of_getElem? e1)
      subst h2
      have h1 : Res G (fr (wi A O (roots a)) H) false H1 d Q := h1
      exact ⟨p, _, dx, fs, w, rfl, h1', k1, k2, lookup_at hn e4 e3, h1.here hw⟩
    | _ => cases e
/-! ### calls -/
theorem outE {F : List D → R D} {A : Addr → Prop} {B : Addr → Prop} {σ : L2.St} {H : Hp} {vs : List V} {ds : List D} {Q : VK} (hv : HasL G A H vs ds) (hA : ∀ q, A q → fr B H q) (h : outD G W B σ false H (F ds) Q) : fnSp G F vs H Q (WE W σ) := by
  refine ⟨A, ds, hv, ?_⟩
  cases e : F ds with
  | stk => rw [e] at h; exact h
  | exc x => rw [e] at h; exact h
  | ok d =>
    rw [e] at h
    exact fun v H' s hv => h v H' s (hv.mono (fun q z => z.elim (fun z => hA q z) .inr) (Same.refl _)) fun e => absurd e Bool.false_ne_true
theorem se_call {g : Nat} {es : Exs} {x : Str} {e : Expr} {xs : List Expr} {p pos : Pos} (P : PX G S T X L W ex) (hc : L.cm = true) (hf : S.fname[g]? = some (some x)) (hg : Gl X x) (hd : (x == ("__debug__" : Str)) = false) (hs : noStars (e :: xs) = true) (ha : PA X (e :: xs) (tDs G T W ex A₀ H₀ es)) :
    PE X (.Call (.Name x p) (e :: xs) [] pos) (tD G T W ex A₀ H₀ (.call g es)) := by
  obtain ⟨fa, fd, ps, k, F, r, hm, hk, hb⟩ := P.fns hc g x hf
  obtain ⟨n1, n2⟩ := bb hs
  refine PE.of (pe_callS F r hg hm hk hb (fun σ => passAt P.tk σ) ha hd (star_no n1 xs _) (stars_no n2 _ _)) fun σ H Q ⟨A, O, ρ, er, h⟩ => ?_
  rw [ev] at h
  refine seqL er h fun ds vs H1 _ s1 hv er1 h1 => ?_
  exact outE hv (fun q z => .inl z) h1
theorem se_call0 {g : Nat} {x : Str} {p pos : Pos} (P : PX G S T X L W ex) (hc : L.cm = true) (hf : S.fname[g]? = some (some x)) (hg : Gl X x) (hd : (x == ("__debug__" : Str)) = false) :
    PE X (.Call (.Name x p) [] [] pos) (tD G T W ex A₀ H₀ (.call g .nil)) := by
  obtain ⟨fa, fd, ps, k, F, r, hm, hk, hb⟩ := P.fns hc g x hf
  refine ⟨fun pins s σ H Q I ⟨A, O, ρ, er, h⟩ => ?_⟩
  rw [ev] at h
  refine wpAny_Call_Name_kw (ld_glob I hg hm ?_ hd)
  refine PySem.W.callWith_K0 I.kIn hk (run_fnS (us := []) F r hb (passAt P.tk σ) I .nil ?_)
  rw [evs] at h
  exact outE (A := A) .nil (fun q z => .inl (.inl z)) h
/-- a new instance -/
theorem run_makeS {CX : CXT} {k : Nat} {f C : Addr} {fd : FuncData} {ps : List Str} {sp : Sp} {E : XK} {pins : List (Addr × Obj)} {σ : L2.St} {H : Hp} {s : Shared} {Q : VK} {us : List Value} {vs : List V} (M : Mk X.K C f) (F : FnOk X.prog X.w X.K X.mg X.base CX k f fd ps sp) (hr : Room (k + 1) X.A) (hb : Binds X.K fd ps [])
    (hx : ∀ (H : Hp) (s : Shared) (e : Value) (s' : Shared), L2.Inv X pins σ H s → CX X.stack H s E e s' → X.xe e s') (I : L2.Inv X pins σ H s) (r : Vals vs us)
    (h : ∀ x dx, H x = none → H dx = none → dx ≠ x → sp (.ref x :: vs) (upd (upd H dx (.own x)) x (.ins C dx [])) (fun v H2 => v = .non ∧ Q (.ref x) H2) E) :
    wpAny (model X.prog X.w) X.A (call (.ref C) us) (EP X pins σ Q) X.xe s := by
  have hq := h (s.heap.objs.size + 1) s.heap.objs.size (I.hok.fresh (Nat.le_succ _)) (I.hok.fresh (Nat.le_refl _)) (Nat.ne_of_lt (Nat.lt_succ_self _))
  have I2 := Inv.made (C := C) I
  have r2 : Vals (V.ref (s.heap.objs.size + 1) :: vs) (Value.ref (s.heap.objs.size + 1) :: us) := .cons rfl r
  have hl : (Value.ref (s.heap.objs.size + 1) :: us).length = ps.length := by
    have e := r2.length
    rw [F.len _ _ _ _ hq] at e
    exact e.symm
  have b := hb _ (Value.ref (s.heap.objs.size + 1) :: us) I2.kIn (by rw [List.append_nil]; exact hl)
  rw [List.append_nil] at b
  refine wpAny_call (make_map (f := f) I.kIn M.makes M.init (beq_iff_eq.mp M.fn) (codeAny_mono (F.run _ X.stack _ _ ⟨Value.ref (s.heap.objs.size + 1) :: us, []⟩ (Value.ref (s.heap.objs.size + 1) :: us) _ _ E (hr.make C us [])
    (I2.env0.make C us []) b r2 hq) fun r s' hq' => ?_))
  cases r with
  | error e => exact hx _ _ e s' I2 hq'
  | ok fl =>
    cases fl with
    | ret u =>
      obtain ⟨v, H', I3, rv, ev, q3⟩ := I2.after hq'
      subst ev
      exact ⟨rv, ⟨V.ref (s.heap.objs.size + 1), H', I3, rfl, q3⟩⟩
    | next => exact False.elim hq'
    | brk => exact False.elim hq'
    | cont => exact False.elim hq'
theorem outM {c : Nat} {F : List D → R D} {A : Addr → Prop} {B : Addr → Prop} {σ : L2.St} {H : Hp} {vs : List V} {ds : List D} {Q : VK} (hv : HasL G A H vs ds) (hA : ∀ q, A q → fr B H q) (h : outD G W B σ false H (F ds) Q) {x dx : Addr} (hx : H x = none) (hdx : H dx = none) (ne : dx ≠ x) :
    mkSp G c F (.ref x :: vs) (upd (upd H dx (.own x)) x (.ins (G.ca c) dx [])) (fun v H2 => v = .non ∧ Q (.ref x) H2) (WE W σ) := by
  refine ⟨A, ds, x, dx, vs, H, rfl, hx, hdx, ne, rfl, hv, ?_⟩
  cases e : F ds with
  | stk => rw [e] at h; exact h
  | exc x => rw [e] at h; exact h
  | ok d =>
    rw [e] at h
    exact fun H' s hv => ⟨rfl, h _ H' s (hv.mono (fun q z => z.elim (fun z => hA q z) .inr) (Same.refl _)) fun e => absurd e Bool.false_ne_true⟩
theorem se_mk {c g : Nat} {es : Exs} {x : Str} {e : Expr} {xs : List Expr} {p pos : Pos} (P : PX G S T X L W ex) (hcm : L.cm = true) (hc : S.cname[c]? = some x) (hi : T.init g = some c) (hg : Gl X x) (hd : (x == ("__debug__" : Str)) = false) (hs : noStars (e :: xs) = true) (ha : PA X (e :: xs) (tDs G T W ex A₀ H₀ es)) :
    PE X (.Call (.Name x p) (e :: xs) [] pos) (tD G T W ex A₀ H₀ (.mk c g es)) := by
  obtain ⟨fI, fd, ps, k, M, F, r, hm, hb⟩ := P.mks hcm c x g hc hi
  obtain ⟨n1, n2⟩ := bb hs
  refine ⟨fun pins s σ H Q I ⟨A, O, ρ, er, h⟩ => ?_⟩
  rw [ev] at h
  have h2 := seqL (R := fun vs H1 => ∃ (ds : List D) (A B : Addr → Prop), HasL G A H1 vs ds ∧ (∀ q, A q → fr B H1 q) ∧ outD G W B σ false H1 (T.fn g ds) Q) er h fun ds vs H1 _ s1 hv er1 h1 => ⟨ds, _, _, hv, fun q z => .inl z, h1⟩
  refine wpAny_Call_Name_kw (ld_glob I hg hm ?_ hd)
  refine PySem.W.callWith_K (h₀ := X.base) I.ok.mod.kin M.kp (thn (ha.run pos pins s σ H _ I h2) fun us s1 ⟨vs, H1, I1, r1, ds, A1, B1, hv, hA, q⟩ => ⟨I1.kIn, ?_⟩) (star_no n1 xs _) (stars_no n2 _ _)
  exact run_makeS M F r hb (fun H s e s' I c => passAt P.tk σ pins H s e s' I c) I1 r1 fun y dy hy hdy ne => outM hv hA q hy hdy ne
/-! ### builtins -/
def bltN : Blt → Str
  | .len => "len"
  | .tupleOf => "tuple"
  | .listOf => "list"
  | .abs => "abs"
  | .intOf => "int"
  | .strOf => "str"
  | .all => "all"
  | .any => "any"
  | .sum => "sum"
  | .min1 => "min"
  | .max1 => "max"
  | .min2 => "min"
  | .max2 => "max"
  | .sorted => "sorted"
theorem bi_froz {b : Blt} {ds : List D} {d : D} (hs : b.scal = true) (e : biD b ds = .ok d) : froz d = true := by
  unfold biD at e
  split at e <;> first
    | exact absurd hs Bool.false_ne_true
    | (cases e; rfl)
    | (obtain ⟨_, _, e⟩ := bind_ok e; cases e; rfl)
    | (have e := (guardR_ok e).2; cases e; rfl)
    | cases e
theorem bi_new {b : Blt} (hs : b.scal = true) : b.new = false := by
  cases b <;> first
    | rfl
    | exact absurd hs Bool.false_ne_true
theorem bi_out {b : Blt} {A B : Addr → Prop} {σ : L2.St} {H : Hp} {vs : List V} {ds : List D} {Q : VK} (hv : HasL G A H vs ds) (hA : b.scal = true ∨ ∀ q, A q → fr B H q) (h : outD G W B σ b.new H (biD b ds) Q) : rBi G b vs H Q := by
  cases e : biD b ds with
  | stk => rw [e] at h; exact h.elim
  | exc x => exact (biD_exc e).elim
  | ok d =>
    rw [e] at h
    refine ⟨A, ds, d, hv, e, ?_⟩
    rcases hA with hs | hA
    · have sd := bi_froz hs e
      intro v H' s hv' o
      exact h v H' s (Has.froz sd hv') fun e => absurd e (by rw [bi_new hs]; exact Bool.false_ne_true)
    · exact Res.up (Same.refl H) hA h
theorem se_bi {b : Blt} {es : Exs} {e : Expr} {xs : List Expr} {p pos : Pos} (P : PX G S T X L W ex) (hc : L.cm = true) (hf : bltN b ∈ S.free) (hg : Gl X (bltN b)) (hs : noStars (e :: xs) = true) (ha : PA X (e :: xs) (tDs G T W ex A₀ H₀ es)) :
    PE X (.Call (.Name (bltN b) p) (e :: xs) [] pos) (tD G T W ex A₀ H₀ (.bi b es)) := by
  obtain ⟨n1, n2⟩ := bb hs
  have hm := P.free _ hf
  have step : ∀ σ H Q, tD G T W ex A₀ H₀ (.bi b es) σ H Q → tCB (rBi G b) (tDs G T W ex A₀ H₀ es) σ H Q := fun σ H Q ⟨A, O, ρ, er, h⟩ => by
    rw [ev] at h
    refine seqL er h fun ds vs H1 _ s1 hv er1 h1 => ?_
    cases hb : b.scal with
    | true => exact bi_out hv (.inl hb) h1
    | false =>
      refine bi_out hv (.inr fun q z => .inl ?_) h1
      show fr (wi A O (roots (.bi b es))) H q
      have e : roots (.bi b es) = rootsS es := by rw [roots, hb]
      rw [e]
      exact z
  have C := call_bi P.hG (P.calm hc) P.un b
  cases b with
  | len => exact PE.of (pe_callB C hg hm boot_len ha (by decide) (by decide) (star_no n1 xs _) (stars_no n2 _ _)) step
  | tupleOf => exact PE.of (pe_callTy C hg hm boot_tuple ha (by decide) (by decide) (star_no n1 xs _) (stars_no n2 _ _)) step
  | listOf => exact PE.of (pe_callTy C hg hm boot_list ha (by decide) (by decide) (star_no n1 xs _) (stars_no n2 _ _)) step
  | abs => exact PE.of (pe_callB C hg hm boot_abs ha (by decide) (by decide) (star_no n1 xs _) (stars_no n2 _ _)) step
  | intOf => exact PE.of (pe_callTy C hg hm boot_int ha (by decide) (by decide) (star_no n1 xs _) (stars_no n2 _ _)) step
  | strOf => exact PE.of (pe_callTy C hg hm boot_str ha (by decide) (by decide) (star_no n1 xs _) (stars_no n2 _ _)) step
  | all => exact PE.of (pe_callB C hg hm boot_all ha (by decide) (by decide) (star_no n1 xs _) (stars_no n2 _ _)) step
  | any => exact PE.of (pe_callB C hg hm boot_any ha (by decide) (by decide) (star_no n1 xs _) (stars_no n2 _ _)) step
  | sum => exact PE.of (pe_callB C hg hm boot_sum ha (by decide) (by decide) (star_no n1 xs _) (stars_no n2 _ _)) step
  | min1 => exact PE.of (pe_callB C hg hm boot_min ha (by decide) (by decide) (star_no n1 xs _) (stars_no n2 _ _)) step
  | max1 => exact PE.of (pe_callB C hg hm boot_max ha (by decide) (by decide) (star_no n1 xs _) (stars_no n2 _ _)) step
  | min2 => exact PE.of (pe_callB C hg hm boot_min ha (by decide) (by decide) (star_no n1 xs _) (stars_no n2 _ _)) step
  | max2 => exact PE.of (pe_callB C hg hm boot_max ha (by decide) (by decide) (star_no n1 xs _) (stars_no n2 _ _)) step
  | sorted => exact PE.of (pe_callB C hg hm boot_sorted ha (by decide) (by decide) (star_no n1 xs _) (stars_no n2 _ _)) step
/-! isinstance -/
def isNm : IsT → Str
  | .int => "int"
  | .bool => "bool"
  | .str => "str"
  | .tuple => "tuple"
  | .list => "list"
  | .dict => "dict"
theorem pe_ty {t : IsT} {p : Pos} (P : PX G S T X L W ex) (hf : isNm t ∈ S.free) (hg : Gl X (isNm t)) : PE X (.Name (isNm t) p) (tC (isV t)) := by
  have hm := P.free _ hf
  cases t with
  | int => exact pe_bltn hg hm boot_int rfl
  | bool => exact pe_bltn hg hm boot_bool rfl
  | str => exact pe_bltn hg hm boot_str rfl
  | tuple => exact pe_bltn hg hm boot_tuple rfl
  | list => exact pe_bltn hg hm boot_list rfl
  | dict => exact pe_bltn hg hm boot_dict rfl
theorem isD_bl {x d : D} {t : IsT} (e : isD x t = .ok d) : ∃ b, d = .bl b := by
  unfold isD at e
  split at e <;> first
    | exact ⟨_, (ok_inj e).symm⟩
    | cases e
theorem se_isi {a : Ex} {t : IsT} {ea : Expr} {p p2 pos : Pos} (P : PX G S T X L W ex) (hf : isNm t ∈ S.free) (hg : Gl X (isNm t)) (hf2 : ("isinstance" : Str) ∈ S.free) (hg2 : Gl X "isinstance") (hs : notStar ea = true) (ha : PE X ea (tD G T W ex A₀ H₀ a)) :
    PE X (.Call (.Name "isinstance" p) [ea, .Name (isNm t) p2] [] pos) (tD G T W ex A₀ H₀ (.isi a t)) := by
  refine PE.of (pe_callB (call_isA (G := G) t) hg2 (P.free _ hf2) boot_isinstance (pa_cons ha (pa_cons (pe_ty P hf hg) pa_nil) (star_no hs _ _)) (by decide) (by decide) (star_no hs _ _)) fun σ H Q ⟨A, O, ρ, er, h⟩ => ?_
  rw [ev] at h
  refine seq1 er h fun x v H1 _ s1 hv er1 h1 => ?_
  cases e : isD x t with
  | stk => rw [e] at h1; exact h1.elim
  | exc z => exact (isD_exc e).elim
  | ok d =>
    rw [e] at h1
    obtain ⟨b, rfl⟩ := isD_bl e
    exact ⟨_, v, x, b, rfl, hv, e, Res.bl h1⟩
end
end PD
end

section
set_option Elab.async false
set_option linter.all false
set_option maxRecDepth 100000
set_option maxHeartbeats 4000000
/-! PD, part 10: targets, what a loop walks, comprehensions. -/
namespace PD
open PySem PySem.Spec PyProof.Rows L2
mutual
def Tg.ns : Tg → List Nat
  | .n i => [i]
  | .t gs => gs.ns
def Tgs.ns : Tgs → List Nat
  | .nil => []
  | .cons g r => g.ns ++ r.ns
end
def Tgs.len : Tgs → Nat
  | .nil => 0
  | .cons _ r => r.len + 1
mutual
theorem bindT_exc : ∀ (g : Tg) {d : D} {ρ : Env} {x : Xc}, bindT g d ρ = .exc x → False
  | .n i, d, ρ, x, h => by
    rw [bindT] at h
    have h := (guardR_exc h).2
    cases h
  | .t gs, d, ρ, x, h => by
    cases d with
    | tup ds => rw [bindT] at h; exact bindTs_exc gs h
    | _ => cases h
theorem bindTs_exc : ∀ (gs : Tgs) {ds : List D} {ρ : Env} {x : Xc}, bindTs gs ds ρ = .exc x → False
  | .nil, [], _, _, h => by cases h
  | .nil, _ :: _, _, _, h => by cases h
  | .cons _ _, [], _, _, h => by cases h
  | .cons g r, d :: ds, ρ, x, h => by
    rw [bindTs] at h
    rcases bind_exc h with h | ⟨ρ1, _, h⟩
    · exact bindT_exc g h
    · exact bindTs_exc r h
end
section
variable {G : Sg} {S : Sx} {T : Tab} {X : Cx} {L : Lo} {W : WX} {ex : ExI} {A₀ : Addr → Prop} {H₀ : Hp}
/-- a target's reading -/
def tG (G : Sg) (ex : ExI) (A₀ : Addr → Prop) (H₀ : Hp) (g : Tg) : TG := fun v σ H Q => ∃ A O ρ d, ER G ex A₀ H₀ A O σ H ρ ∧ Has G A H v d ∧ (match bindT g d ρ with
  | .ok ρ' => ∀ O' σ', ER G ex A₀ H₀ A O' σ' H ρ' → (∀ vs, (∀ j ∈ g.ns, j ∈ vs) → L2.wipe σ' vs = L2.wipe σ vs) → (∀ j k p, O' j k p → O j k p) → Q σ' H
  | _ => False)
theorem PG.of {e : Expr} {t t' : TG} (h : PG X e t) (w : ∀ v σ H Q, t' v σ H Q → t v σ H Q) : PG X e t' := ⟨fun pins s σ H v u Q I r q => h.run pins s σ H v u Q I r (w v σ H Q q)⟩
theorem wipe_get (σ : L2.St) (j : Nat) : ∀ vs : List Nat, (L2.wipe σ vs)[j]? = if j ∈ vs then (σ[j]?).map (fun _ => none) else σ[j]?
  | [] => by simp [L2.wipe]
  | i :: is => by
    rw [L2.wipe]
    have ih := wipe_get σ j is
    by_cases h : i = j
    · subst h
      by_cases hl : i < σ.length
      · have hl2 : i < (L2.wipe σ is).length := by rw [wipe_length]; exact hl
        rw [List.getElem?_set_self hl2, if_pos List.mem_cons_self, List.getElem?_eq_getElem hl]
        rfl
      · rw [List.getElem?_eq_none (by rw [List.length_set, wipe_length]; omega), List.getElem?_eq_none (by omega)]
        simp
    · rw [List.getElem?_set_ne h, ih]
      have hj : j ≠ i := fun z => h z.symm
      by_cases hm : j ∈ is
      · rw [if_pos hm, if_pos (List.mem_cons_of_mem _ hm)]
      · rw [if_neg hm, if_neg (by simp [hm, hj])]
theorem wipe_set {σ : L2.St} {i : Nat} {o : Option V} {vs : List Nat} (h : i ∈ vs) : L2.wipe (σ.set i o) vs = L2.wipe σ vs := by
  apply List.ext_getElem?
  intro j
  rw [wipe_get, wipe_get]
  by_cases hj : i = j
  · subst hj
    rw [if_pos h, if_pos h]
    by_cases hl : i < σ.length
    · rw [List.getElem?_set_self hl, List.getElem?_eq_getElem hl]
      rfl
    · rw [List.getElem?_eq_none (by rw [List.length_set]; omega), List.getElem?_eq_none (by omega)]
  · rw [List.getElem?_set_ne hj]
theorem sg_n {i : Nat} {x : Str} {pos : Pos} (P : PX G S T X L W ex) (hi : X.N[i]? = some x) (hx : Loc X.env.scope x) (hf : X.fn x = true ∨ X.env.scope.names.lookup x = some .local) : PG X (.Name x pos) (tG G ex A₀ H₀ (.n i)) := by
  refine PG.of (pg_name (by rw [P.nm]; exact P.nd) hi hx hf) fun v σ H Q ⟨A, O, ρ, d, er, hv, h⟩ => ?_
  rw [bindT] at h
  cases c : decide (i < ρ.length) with
  | false => rw [c] at h; exact h.elim
  | true =>
    rw [c] at h
    refine h _ _ (er.setSh hv) (fun vs hvs => wipe_set (hvs i List.mem_cons_self)) fun j k p z => ?_
    rcases z with ⟨_, z⟩ | ⟨_, z⟩
    · exact z.elim
    · exact z
/-- the parts of a tuple, one behind another -/
def tGs (G : Sg) (ex : ExI) (A₀ : Addr → Prop) (H₀ : Hp) (gs : Tgs) : TGs := fun vs σ H Q => ∃ A O ρ ds, ER G ex A₀ H₀ A O σ H ρ ∧ HasL G A H vs ds ∧ (match bindTs gs ds ρ with
  | .ok ρ' => ∀ O' σ', ER G ex A₀ H₀ A O' σ' H ρ' → (∀ vs, (∀ j ∈ gs.ns, j ∈ vs) → L2.wipe σ' vs = L2.wipe σ vs) → (∀ j k p, O' j k p → O j k p) → Q σ' H
  | _ => False)
theorem PGs.of {e : List Expr} {t t' : TGs} (h : PGs X e t) (w : ∀ v σ H Q, t' v σ H Q → t v σ H Q) : PGs X e t' := ⟨fun pins s σ H v u Q I r q => h.run pins s σ H v u Q I r (w v σ H Q q)⟩
theorem sgs_nil : PGs X [] (tGs G ex A₀ H₀ .nil) := PGs.of pgs_nil fun vs σ H Q ⟨A, O, ρ, ds, er, hv, h⟩ => by
  cases ds with
  | nil =>
    cases hv
    exact ⟨rfl, h O σ er (fun _ _ => rfl) fun _ _ _ z => z⟩
  | cons d ds => exact h.elim
theorem asg_one {e : Expr} (he : notStar e = true) (es : List Expr) (env : PySem.Env) : (assignEach (e :: es) env).map (·.2) = assign e env :: (assignEach es env).map (·.2) := by
  cases e <;> first
    | rfl
    | cases he
theorem asg_len : ∀ {es : List Expr} (env : PySem.Env), (assignEach es env).length = es.length
  | [], _ => rfl
  | e :: es, env => by
    have ih := asg_len (es := es) env
    cases e <;> simp [assignEach, ih]
theorem asg_star : ∀ {es : List Expr}, noStars es = true → ∀ env : PySem.Env, (assignEach es env).findIdx? (·.1) = none
  | [], _, _ => rfl
  | e :: es, h, env => by
    obtain ⟨h1, h2⟩ := bb h
    have ih := asg_star h2 env
    cases e <;> first
      | exact absurd h1 Bool.false_ne_true
      | (simp [assignEach, List.findIdx?_cons, ih])
theorem sgs_cons {g : Tg} {gs : Tgs} {e : Expr} {es : List Expr} (h1 : PG X e (tG G ex A₀ H₀ g)) (h2 : PGs X es (tGs G ex A₀ H₀ gs)) (he : notStar e = true) : PGs X (e :: es) (tGs G ex A₀ H₀ (.cons g gs)) := by
  refine PGs.of (pgs_cons h1 h2 (asg_one he es _)) fun vs σ H Q ⟨A, O, ρ, ds, er, hv, h⟩ => ?_
  cases ds with
  | nil => exact h.elim
  | cons d ds =>
    cases hv with
    | @cons v vs _ _ k1 k2 =>
      refine ⟨v, vs, rfl, A, O, ρ, d, er, k1, ?_⟩
      rw [bindTs] at h
      cases e : bindT g d ρ with
      | stk => rw [e] at h; exact h
      | exc x => rw [e] at h; exact h
      | ok ρ' =>
        rw [e] at h
        have h : (match bindTs gs ds ρ' with
          | .ok ρ' => ∀ O' σ', ER G ex A₀ H₀ A O' σ' H ρ' → (∀ vs, (∀ j ∈ (Tgs.cons g gs).ns, j ∈ vs) → L2.wipe σ' vs = L2.wipe σ vs) → (∀ j k p, O' j k p → O j k p) → Q σ' H
          | _ => False) := h
        refine fun O' σ' er' w' o' => ⟨A, O', ρ', ds, er', k2, ?_⟩
        cases e2 : bindTs gs ds ρ' with
        | stk => rw [e2] at h; exact h
        | exc x => rw [e2] at h; exact h
        | ok ρ2 =>
          rw [e2] at h
          exact fun O2 σ2 er2 w2 o2 => h O2 σ2 er2 (fun vs hvs => (w2 vs fun j hj => hvs j (List.mem_append_right _ hj)).trans (w' vs fun j hj => hvs j (List.mem_append_left _ hj))) fun j k p z => o' j k p (o2 j k p z)
theorem bindTs_len : ∀ {gs : Tgs} {ds : List D} {ρ ρ' : Env}, bindTs gs ds ρ = .ok ρ' → ds.length = gs.len
  | .nil, [], _, _, _ => rfl
  | .nil, _ :: _, _, _, h => by cases h
  | .cons _ _, [], _, _, h => by cases h
  | .cons g r, d :: ds, ρ, ρ', h => by
    rw [bindTs] at h
    obtain ⟨ρ1, _, h⟩ := bind_ok h
    rw [List.length_cons, bindTs_len h]
    rfl
theorem sg_tup {gs : Tgs} {es : List Expr} {n : Nat} {pos : Pos} (P : PX G S T X L W ex) (hc : L.cm = true) (hs : PGs X es (tGs G ex A₀ H₀ gs)) (hn : gs.len = es.length) (ns : noStars es = true) : PG X (.Tuple es n pos) (tG G ex A₀ H₀ (.t gs)) := by
  refine PG.of (pg_tup (n := gs.len) (P.calm hc) hs (by rw [asg_len, hn]) (asg_star ns _)) fun v σ H Q ⟨A, O, ρ, d, er, hv, h⟩ => ?_
  cases hv with
  | @tup a xs ds h1 h2 =>
    refine ⟨_, _, rfl, .of h1, ?_, A, O, ρ, ds, er, h2, ?_⟩
    · rw [bindT] at h
      cases e : bindTs gs ds ρ with
      | stk => rw [e] at h; exact h.elim
      | exc x => rw [e] at h; exact h.elim
      | ok ρ' => rw [h2.length]; exact bindTs_len e
    · rw [bindT] at h
      exact h
  | _ => exact h.elim
end
end PD
end

section
set_option Elab.async false
set_option linter.all false
set_option maxRecDepth 100000
set_option maxHeartbeats 4000000
/-! PD, part 11: what a loop walks, comprehensions. -/
namespace PD
open PySem PySem.Spec PyProof.Rows L2
abbrev HIt := L2.It
/-- the walk gives these data, one by one, as long as ps stand -/
structure Its (G : Sg) (J : HIt) (ds : List D) (ps : List (V × D)) : Prop where
  go : ∀ A H i d, (∀ p ∈ ps, Has G A H p.1 p.2) → ds[i]? = some d → J.go i H ∧ ∀ x H', J.yld i H x H' → Same H H' ∧ Has G (fr A H) H' x d
  stop : ∀ A H i, (∀ p ∈ ps, Has G A H p.1 p.2) → ds.length ≤ i → J.stop i H
def outI (G : Sg) (W : WX) (A : Addr → Prop) (σ : L2.St) (H : Hp) (r : R (List D)) (Q : HIt → Hp → Prop) : Prop := match r with
  | .ok ds => ∀ J H' ps, Same H H' → Its G J ds ps → (∀ p ∈ ps, Has G (fr A H) H' p.1 p.2) → Q J H'
  | .exc x => ∀ cls dx H', Same H H' → XR G H' x cls dx → W cls dx σ H'
  | .stk => False
section
variable (G : Sg) (T : Tab) (W : WX) (ex : ExI) (A₀ : Addr → Prop) (H₀ : Hp)
def tI (it : It) : TI := fun σ H Q => ∃ A O ρ, ER G ex A₀ H₀ A O σ H ρ ∧ outI G W (wi A O (rootsI it)) σ H (evIt T it ρ) Q
end
section
variable {G : Sg} {S : Sx} {T : Tab} {X : Cx} {L : Lo} {W : WX} {ex : ExI} {A₀ : Addr → Prop} {H₀ : Hp}
theorem PI.of {tg e : Expr} {t t' : TI} (h : PI X tg e t) (w : ∀ σ H Q, t' σ H Q → t σ H Q) : PI X tg e t' := ⟨fun pins s σ H Q I q => h.run pins s σ H Q I (w σ H Q q)⟩
theorem its_lst {K : PySem.W.Frag} {p : Addr} {ds : List D} {J : HIt} (hJ : J = Itl K p) (d : D) (h : ∀ A H, Has G A H (.ref p) d → ∃ xs, SqL K H p xs ∧ HasL G A H xs ds) : Its G J ds [(.ref p, d)] where
  go := fun A H i e hp he => by
    obtain ⟨xs, h1, h3⟩ := h A H (hp _ List.mem_cons_self)
    obtain ⟨v, e1, e2⟩ := h3.get he
    subst hJ
    refine ⟨⟨xs, v, h1, e1⟩, fun x H' ⟨eH, hx⟩ => ?_⟩
    have := hx xs h1
    rw [e1] at this
    cases this
    subst eH
    exact ⟨Same.refl _, e2.here⟩
  stop := fun A H i hp he => by
    obtain ⟨xs, h1, h3⟩ := h A H (hp _ List.mem_cons_self)
    subst hJ
    exact ⟨xs, h1, by rw [h3.length]; exact he⟩
theorem its_tup {K : PySem.W.Frag} {p : Addr} {ds : List D} {J : HIt} (hJ : J = Itt K p) : Its G J ds [(.ref p, .tup ds)] where
  go := fun A H i e hp he => by
    have h := hp _ List.mem_cons_self
    cases h with
    | tup h1 h3 =>
      obtain ⟨v, e1, e2⟩ := h3.get he
      subst hJ
      refine ⟨⟨_, v, .of h1, e1⟩, fun x H' ⟨eH, hx⟩ => ?_⟩
      have := hx _ (.of h1)
      rw [e1] at this
      cases this
      subst eH
      exact ⟨Same.refl _, e2.here⟩
  stop := fun A H i hp he => by
    have h := hp _ List.mem_cons_self
    cases h with
    | tup h1 h3 =>
      subst hJ
      exact ⟨_, .of h1, by rw [h3.length]; exact he⟩
theorem intsD_get : ∀ (n : Nat) (lo : Int) (i : Nat), i < n → (intsD lo n)[i]? = some (.int (lo + i))
  | 0, _, _, h => absurd h (Nat.not_lt_zero _)
  | n + 1, lo, 0, _ => by simp [intsD]
  | n + 1, lo, i + 1, h => by
    rw [intsD, List.getElem?_cons_succ, intsD_get n (lo + 1) i (by omega)]
    congr 2
    omega
theorem intsD_len : ∀ (n : Nat) (lo : Int), (intsD lo n).length = n
  | 0, _ => rfl
  | n + 1, lo => by rw [intsD, List.length_cons, intsD_len n]
theorem its_rng {lo : Int} {n : Nat} : Its G (Itr lo n) (intsD lo n) [] where
  go := fun A H i e _ he => by
    have hi : i < n := by
      have := (List.getElem?_eq_some_iff.mp he).1
      rw [intsD_len] at this
      exact this
    rw [intsD_get n lo i hi] at he
    cases he
    refine ⟨hi, fun x H' ⟨eH, hx⟩ => ?_⟩
    subst eH hx
    exact ⟨Same.refl _, .int _⟩
  stop := fun A H i _ he => by
    rw [intsD_len] at he
    exact he
/-- a list, a tuple, the script -/
def iSeq (K : PySem.W.Frag) (tl : TE) : TI := fun σ H R => tl σ H fun x H1 => ∃ a, x = .ref a ∧ (((∃ xs, SqL K H1 a xs) ∧ R (Itl K a) H1) ∨ ((∃ xs, SqT K H1 a xs) ∧ R (Itt K a) H1))
theorem pi_seq {tg l : Expr} {tl : TE} (hl : PE X l tl) : PI X tg l (iSeq X.K tl) := by
  refine ⟨fun pins s σ H R I h => ?_⟩
  refine thn (hl.run pins s σ H _ I h) fun v s1 ⟨x, H1, I1, r1, q1⟩ => ?_
  obtain ⟨a, e, ⟨⟨xs, hq⟩, q⟩ | ⟨⟨xs, hq⟩, q⟩⟩ := q1
  · subst e
    cases r1
    obtain ⟨its, rv, p, hz⟩ := I1.list hq
    refine wpAny_pyIter_list p.isList ?_
    refine ⟨s1.heap.objs.size, [s1.heap.objs.size], _, _, H1, rfl, I1.kept (t' := s1.toks) fun b o e => Heap.get?_push_of_some _ e, turn_list a _, ⟨_, Heap.get?_push_size _ rfl, rfl, rfl⟩, fun b hb => ?_, q⟩
    have e : b = s1.heap.objs.size := by simpa using hb
    subst e
    exact I1.fpOk (Nat.le_refl _) (I1.hok.fresh (Nat.le_refl _))
  · subst e
    cases r1
    obtain ⟨its, rv, p, hz⟩ := I1.tuple hq
    refine wpAny_pyIter_tuple (show s1.heap.IsTuple a its.toArray from p) ?_
    refine ⟨s1.heap.objs.size, [s1.heap.objs.size], _, _, H1, rfl, I1.kept (t' := s1.toks) fun b o e => Heap.get?_push_of_some _ e, turn_tuple a _, ⟨_, Heap.get?_push_size _ rfl, rfl, rfl⟩, fun b hb => ?_, q⟩
    have e : b = s1.heap.objs.size := by simpa using hb
    subst e
    exact I1.fpOk (Nat.le_refl _) (I1.hok.fresh (Nat.le_refl _))
theorem outDI_exc {A A' : Addr → Prop} {σ : L2.St} {f : Bool} {H H' : Hp} {x : Xc} {Q : HIt → Hp → Prop} {Q' : VK} (s : Same H H') (h : outI G W A σ H (.exc x) Q) : outD G W A' σ f H' (.exc x) Q' := fun cls dx H2 s2 r => h cls dx H2 (same_tr s s2) r
theorem outI_exc {A A' : Addr → Prop} {σ : L2.St} {H H' : Hp} {x : Xc} {Q Q' : HIt → Hp → Prop} (s : Same H H') (h : outI G W A σ H (.exc x) Q) : outI G W A' σ H' (.exc x) Q' := fun cls dx H2 s2 r => h cls dx H2 (same_tr s s2) r
theorem outI_up {A A' : Addr → Prop} {σ : L2.St} {H H' : Hp} {r : R (List D)} {Q : HIt → Hp → Prop} (s : Same H H') (hA : ∀ q, A' q → fr A H q) (h : outI G W A σ H r Q) : outI G W A' σ H' r Q := by
  cases r with
  | ok d => exact fun J H2 ps s2 hv hp => h J H2 ps (same_tr s s2) hv fun p z => (hp p z).mono (fun q z => fr_up s hA z) (Same.refl _)
  | exc x => exact outI_exc s h
  | stk => exact h
theorem seq1I {a : Ex} {A : Addr → Prop} {O : Ow} {σ : L2.St} {H : Hp} {ρ : Env} {g : D → R (List D)} {B : Addr → Prop} {Q : HIt → Hp → Prop} {R : V → Hp → Prop} (er : ER G ex A₀ H₀ A O σ H ρ) (h : outI G W B σ H ((ev T a ρ).bind g) Q)
    (k : ∀ x v H1, ev T a ρ = .ok x → Same H H1 → Has G (fr (wi A O (roots a)) H) H1 v x → ER G ex A₀ H₀ (fr A H) O σ H1 ρ → outI G W (fr B H) σ H1 (g x) Q → R v H1) : tD G T W ex A₀ H₀ a σ H R := by
  refine ⟨A, O, ρ, er, ?_⟩
  cases e : ev T a ρ with
  | stk => rw [e] at h; exact h
  | exc x => rw [e] at h; exact outDI_exc (Same.refl H) h
  | ok x =>
    rw [e] at h
    exact fun v H1 s1 hv _ => k x v H1 e s1 hv (er.go s1) (outI_up s1 (fun _ z => z) h)
theorem si_e {a : Ex} {tg e : Expr} (hG : X.K = G.K) (ha : PE X e (tD G T W ex A₀ H₀ a)) : PI X tg e (tI G T W ex A₀ H₀ (.e a)) := by
  refine PI.of (pi_seq ha) fun σ H Q ⟨A, O, ρ, er, h⟩ => ?_
  rw [evIt] at h
  have h : outI G W (wi A O (roots a)) σ H ((ev T a ρ).bind itemsD) Q := h
  refine seq1I er h fun x v H1 _ s1 hv er1 h1 => ?_
  cases hv with
  | @tup p xs ds k1 k2 =>
    refine ⟨p, rfl, .inr ⟨⟨_, .of k1⟩, ?_⟩⟩
    exact h1 _ H1 [(.ref p, .tup ds)] (Same.refl H1) (its_tup rfl) fun q hq => by
      rw [List.mem_singleton] at hq
      subst hq
      exact .tup k1 (k2.mono (fun _ z => .inl z) (Same.refl _))
  | @lst p xs ds k0 k1 k2 =>
    refine ⟨p, rfl, .inl ⟨⟨_, .of k1⟩, ?_⟩⟩
    exact h1 _ H1 [(.ref p, .lst ds)] (Same.refl H1) (its_lst rfl (.lst ds) fun A H h => by
      cases h with
      | lst j0 j1 j2 => exact ⟨_, .of j1, j2⟩) fun q hq => by
      rw [List.mem_singleton] at hq
      subst hq
      exact .lst (.inl k0) k1 (k2.mono (fun _ z => .inl z) (Same.refl _))
  | @scr p xs ds k1 k2 =>
    refine ⟨p, rfl, .inl ⟨⟨_, k1.sq hG⟩, ?_⟩⟩
    exact h1 _ H1 [(.ref p, .scr ds)] (Same.refl H1) (its_lst rfl (.scr ds) fun A H h => by
      cases h with
      | scr j1 j2 => exact ⟨_, j1.sq hG, j2⟩) fun q hq => by
      rw [List.mem_singleton] at hq
      subst hq
      exact .scr k1 (k2.mono (fun _ z => .inl z) (Same.refl _))
  | _ => exact (show False from h1).elim
theorem smallI_ok {i : Int} (h : smallI i = true) : -(2 ^ 62) ≤ i ∧ i < 2 ^ 62 := ⟨of_decide_eq_true (bb h).1, of_decide_eq_true (bb h).2⟩
theorem si_r1 {a : Ex} {tg e : Expr} {p pos : Pos} (P : PX G S T X L W ex) (hf : ("range" : Str) ∈ S.free) (hg : Gl X "range") (hs : notStar e = true) (ha : PE X e (tD G T W ex A₀ H₀ a)) : PI X tg (.Call (.Name "range" p) [e] [] pos) (tI G T W ex A₀ H₀ (.r1 a)) := by
  refine PI.of (pi_range1 hg (P.free _ hf) (pa_cons ha pa_nil (star_no hs _ _)) (star_no hs _ _)) fun σ H Q ⟨A, O, ρ, er, h⟩ => ?_
  rw [evIt] at h
  refine seq1I er h fun x v H1 _ s1 hv er1 h1 => ?_
  cases hv with
  | int j =>
    have h1 : outI G W _ σ H1 (guardR (smallI j) (.ok (intsD 0 j.toNat))) Q := h1
    cases c : smallI j with
    | false => rw [c] at h1; exact h1.elim
    | true =>
      rw [c] at h1
      obtain ⟨c1, c2⟩ := smallI_ok c
      exact ⟨j, rfl, c1, c2, h1 _ H1 [] (Same.refl H1) its_rng fun q hq => absurd hq (by simp)⟩
  | _ => exact h1.elim
theorem si_r2 {a b : Ex} {tg e e2 : Expr} {p pos : Pos} (P : PX G S T X L W ex) (hf : ("range" : Str) ∈ S.free) (hg : Gl X "range") (hs : notStar e = true) (hs2 : notStar e2 = true) (ha : PE X e (tD G T W ex A₀ H₀ a)) (hb : PE X e2 (tD G T W ex A₀ H₀ b)) :
    PI X tg (.Call (.Name "range" p) [e, e2] [] pos) (tI G T W ex A₀ H₀ (.r2 a b)) := by
  refine PI.of (pi_range2 hg (P.free _ hf) (pa_cons ha (pa_cons hb pa_nil (star_no hs2 _ _)) (star_no hs _ _)) (by rw [star_no hs, star_no hs2]; rfl) (star_no hs2 _ _)) fun σ H Q ⟨A, O, ρ, er, h⟩ => ?_
  rw [evIt] at h
  refine seq1I er h fun x v H1 _ s1 hv er1 h1 => ?_
  refine seq1I er1 h1 fun y w H2 _ s2 hw er2 h2 => ?_
  cases hv with
  | int i =>
    cases hw with
    | int j =>
      have h2 : outI G W _ σ H2 (guardR (smallI i && smallI j) (.ok (intsD i (j - i).toNat))) Q := h2
      cases c : smallI i && smallI j with
      | false => rw [c] at h2; exact h2.elim
      | true =>
        rw [c] at h2
        obtain ⟨c1, c2⟩ := smallI_ok (bb c).1
        obtain ⟨c3, c4⟩ := smallI_ok (bb c).2
        exact ⟨i, j, rfl, ⟨c1, c2, c3, c4⟩, h2 _ H2 [] (Same.refl H2) its_rng fun q hq => absurd hq (by simp)⟩
    | _ => exact h2.elim
  | _ => exact h2.elim
/-- what walks, then the rest -/
theorem seqI {it : It} {A : Addr → Prop} {O : Ow} {σ : L2.St} {H : Hp} {ρ : Env} {f : Bool} {g : List D → R D} {B : Addr → Prop} {Q : VK} {R : HIt → Hp → Prop} (er : ER G ex A₀ H₀ A O σ H ρ) (h : outD G W B σ f H ((evIt T it ρ).bind g) Q)
    (k : ∀ ds J H1 ps, evIt T it ρ = .ok ds → Same H H1 → Its G J ds ps → (∀ p ∈ ps, Has G (fr (wi A O (rootsI it)) H) H1 p.1 p.2) → ER G ex A₀ H₀ (fr A H) O σ H1 ρ → outD G W (fr B H) σ f H1 (g ds) Q → R J H1) : tI G T W ex A₀ H₀ it σ H R := by
  refine ⟨A, O, ρ, er, ?_⟩
  cases e : evIt T it ρ with
  | stk => rw [e] at h; exact h
  | exc x => rw [e] at h; exact fun cls dx H2 s2 r => h cls dx H2 s2 r
  | ok x =>
    rw [e] at h
    exact fun J H1 ps s1 hJ hp => k x J H1 ps e s1 hJ hp (er.go s1) (outD_up s1 (fun _ z => z) h)
/-! ### comprehensions -/
def noW : WX := fun _ _ _ _ => False
def Lo.blk (L : Lo) (scope : Scope) : Lo := ⟨relS scope L.sc, fun x => scope.names.lookup x == some .cell, L.cm⟩
theorem PX.blk (P : PX G S T X L W ex) (hc : L.cm = true) (s : Shared) (H : Hp) (scope : Scope) (C : Addr) (cl : List (Str × Addr)) (fp : List Addr) : PX G S T (X.blk s H scope (compEnvC scope cl C X.env) fp) (L.blk scope) noW ex where
  hG := P.hG
  calm := P.calm
  fnE := rfl
  un := P.un
  nm := P.nm
  nd := P.nd
  esc := by
    show relS scope X.env.scope = relS scope L.sc
    rw [P.esc]
  tk := takes0
  fns := P.fns
  mks := P.mks
  gi := P.gi
  gs := P.gs
  free := P.free
  cls := P.cls
  cfS := P.cfS
  cfN := P.cfN
  exn := P.exn
  exm := P.exm
  enE := P.enE
  ini := P.ini
  kit := P.kit
  kitV := P.kitV
  isx := fun z => absurd z (by rw [show (L.blk scope).cm = true from hc]; exact fun h => nomatch h)
/-- the tests of a comprehension: none, one -/
def tAll (G : Sg) (T : Tab) (W : WX) (ex : ExI) (A₀ : Addr → Prop) (H₀ : Hp) (es : Exs) : TT := fun σ H Q => ∃ A O ρ, ER G ex A₀ H₀ A O σ H ρ ∧ outB G W σ H (evAll T es ρ) Q
theorem PTs.of {e : List Expr} {t t' : TT} (h : PTs X e t) (w : ∀ σ H Q, t' σ H Q → t σ H Q) : PTs X e t' := ⟨fun pins s σ H Q I q => h.run pins s σ H Q I (w σ H Q q)⟩
theorem sts_nil : PTs X [] (tAll G T W ex A₀ H₀ .nil) := PTs.of pts_nil fun σ H Q ⟨A, O, ρ, er, h⟩ => by
  rw [evAll] at h
  exact h H (Same.refl H)
theorem sts_one {i : Ex} {e : Expr} (h : PT X e (tDB G T W ex A₀ H₀ i)) : PTs X [e] (tAll G T W ex A₀ H₀ (.cons i .nil)) := PTs.of (pts_one h) fun σ H Q ⟨A, O, ρ, er, h⟩ => by
  refine ⟨A, O, ρ, er, ?_⟩
  rw [evAll, ← bind_assoc] at h
  cases e : (ev T i ρ).bind truR with
  | stk => rw [e] at h; exact h
  | exc x => rw [e] at h; exact h
  | ok b =>
    rw [e] at h
    cases b with
    | true =>
      have h : outB G W σ H (evAll T .nil ρ) Q := h
      rw [evAll] at h
      exact h
    | false => exact h
/-- what one turn of a comprehension gives -/
def turnF (T : Tab) (g : Tg) (ifs : Exs) (e : Ex) (ρ : Env) (x : D) : R (List D) := (bindT g x ρ).bind fun ρ => (evAll T ifs ρ).bind fun k => match k with
    | true => (ev T e ρ).bind fun y => .ok [y]
    | false => .ok []
theorem collect_cons {f : D → R (List D)} {x : D} {xs ys : List D} (h : collect f (x :: xs) = .ok ys) : ∃ y1 y2, f x = .ok y1 ∧ collect f xs = .ok y2 ∧ ys = y1 ++ y2 := by
  rw [collect] at h
  obtain ⟨y1, h1, h⟩ := bind_ok h
  obtain ⟨y2, h2, h⟩ := bind_ok h
  exact ⟨y1, y2, h1, h2, (ok_inj h).symm⟩
theorem drop_cons {xs : List D} {i : Nat} {x : D} (h : xs[i]? = some x) : xs.drop i = x :: xs.drop (i + 1) := by
  obtain ⟨hi, e⟩ := List.getElem?_eq_some_iff.mp h
  rw [List.drop_eq_getElem_cons hi, e]
theorem wipe_wipe (σ : L2.St) (vs : List Nat) : L2.wipe (L2.wipe σ vs) vs = L2.wipe σ vs := by
  apply List.ext_getElem?
  intro j
  rw [wipe_get, wipe_get]
  split
  · cases σ[j]? <;> rfl
  · rfl
theorem lc_w (own : List (Str × Nat)) {g : Tg} {it : It} {ifs : Exs} {e : Ex} (hn : ∀ j ∈ g.ns, j ∈ own.map (·.2)) {σ : L2.St} {H : Hp} {Q : VK} (h : tD G T W ex A₀ H₀ (.lc (own.map (·.2)) g it ifs e) σ H Q) :
    tLc (tI G T W ex A₀ H₀ it) (tG G ex A₀ H₀ g) (tAll G T noW ex A₀ H₀ ifs) (tD G T noW ex A₀ H₀ e) (own.map (·.2)) σ H Q := by
  obtain ⟨A, O, ρ, er, h⟩ := h
  rw [ev] at h
  refine seqI er h fun xs J H1 ps _ s1 hJ hp er1 h1 D hD => ?_
  generalize hvs : own.map (·.2) = vs at h1 hn
  have h1 : outD G W (fr (wi A O (roots (.lc vs g it ifs e))) H) σ true H1 ((noExc (collect (turnF T g ifs e (wipeE (unown ρ (rootsI it)) vs)) xs)).bind fun ys => guardR (decide (ys.length ≤ line)) (.ok (.lst ys))) Q := h1
  cases ec : collect (turnF T g ifs e (wipeE (unown ρ (rootsI it)) vs)) xs with
  | stk => rw [ec] at h1; exact h1.elim
  | exc x => rw [ec] at h1; exact h1.elim
  | ok ys =>
    rw [ec] at h1
    have h1 : outD G W (fr (wi A O (roots (.lc vs g it ifs e))) H) σ true H1 (guardR (decide (ys.length ≤ line)) (.ok (.lst ys))) Q := h1
    cases c : decide (ys.length ≤ line) with
    | false => rw [c] at h1; exact h1.elim
    | true =>
      rw [c] at h1
      have h1 : Res G (fr (wi A O (roots (.lc vs g it ifs e))) H) true H1 (.lst ys) Q := h1
      have hlen := of_decide_eq_true c
      -- the names' values without the source's own
      have er2 := ((er1.un (rootsI it)).wipe vs)
      generalize hρ : wipeE (unown ρ (rootsI it)) vs = ρ' at er2 ec
      -- what all stands on
      let B : Addr → Prop := fun q => ((fr A H q ∨ ow O (rootsI it) q) ∨ H1 q = none) ∧ q ≠ D
      let O' : Ow := fun j k p => O j k p ∧ j ∉ rootsI it
      have nD : ¬ B D := fun z => z.2 rfl
      have ownD : ∀ j k, ¬ O j k D := fun j k z => by
        have := (er1.own j k D z).2.1
        rw [hD] at this
        cases this
      have D0 : H₀ D = none := same_none er1.same hD
      have bk : ∀ {Hc : Hp}, Same H1 Hc → (Hc D).isSome = true → ∀ q, fr B Hc q → B q := fun {Hc} s hs q z => by
        rcases z with z | z
        · exact z
        · refine ⟨.inr (same_none s z), fun e => ?_⟩
          subst e
          rw [z] at hs
          cases hs
      -- the invariant
      refine ⟨fun i m Hc => i + m = xs.length ∧ Same H1 Hc ∧ ER G ex A₀ H₀ B O' (L2.wipe σ vs) Hc ρ' ∧ (∀ p ∈ ps, Has G B Hc p.1 p.2) ∧ ∃ acc y1 y2, Hc D = some (.lst acc) ∧ HasL G (fun q => fr (fr (wi A O (roots (.lc vs g it ifs e))) H) H1 q ∧ q ≠ D) Hc acc y1 ∧
        collect (turnF T g ifs e ρ') (xs.drop i) = .ok y2 ∧ ys = y1 ++ y2, ⟨xs.length, by omega, ?_, ?_, ?_, [], [], ys, upd_same, .nil, ec, rfl⟩, ?_⟩
      · exact same_upd hD
      · have er3 : ER G ex A₀ H₀ B O' (L2.wipe σ vs) H1 ρ' := er2.move (Same.refl H1) (fun q z zs => ⟨.inl z, fun e => by subst e; rw [hD] at zs; cases zs⟩) fun q z => z.1
        exact er3.move (same_upd hD) (fun q z _ => z) fun q z => .inl z
      · intro p hp'
        refine (hp p hp').to (same_upd hD) fun q z zs => ⟨.inl ?_, fun e => by subst e; rw [hD] at zs; cases zs⟩
        rcases z with (z | z) | z
        · exact .inl (.inl z)
        · exact .inr z
        · exact .inl (.inr z)
      · rintro i m Hc ⟨hm, sc, erc, hpc, acc, y1, y2, hacc, hh, hcol, hy⟩
        cases hx : xs[i]? with
        | none =>
          have hi : xs.length ≤ i := List.getElem?_eq_none_iff.mp hx
          refine .inl ⟨hJ.stop B Hc i hpc hi, ?_⟩
          rw [List.drop_eq_nil_of_le hi] at hcol
          cases hcol
          rw [List.append_nil] at hy
          subst hy
          exact h1 _ Hc sc (.lst (.inr hD) hacc (hh.mono (fun q z => z.1) (Same.refl _))) fun _ => ⟨D, acc, rfl, hD, hacc, hh⟩
        | some x =>
          obtain ⟨g1, g2⟩ := hJ.go B Hc i x hpc hx
          rw [drop_cons hx] at hcol
          obtain ⟨ya, yb, c1, c2, rfl⟩ := collect_cons hcol
          have hi : i < xs.length := (List.getElem?_eq_some_iff.mp hx).1
          -- what is to be reached
          refine .inr ⟨g1, fun H' => Same H1 H' ∧ ER G ex A₀ H₀ B O' (L2.wipe σ vs) H' ρ' ∧ (∀ p ∈ ps, Has G B H' p.1 p.2) ∧ ∃ acc, H' D = some (.lst acc) ∧ HasL G (fun q => fr (fr (wi A O (roots (.lc vs g it ifs e))) H) H1 q ∧ q ≠ D) H' acc (y1 ++ ya),
            fun H' ⟨k1, k2, k3, acc', k4, k5⟩ => ⟨m - 1, by omega, by omega, k1, k2, k3, acc', y1 ++ ya, yb, k4, k5, c2, by rw [hy, List.append_assoc]⟩, fun v H2 hy2 => ?_⟩
          obtain ⟨s2, hv⟩ := g2 v H2 hy2
          have sc2 := same_tr sc s2
          have hD2 : H2 D = some (.lst acc) := s2 _ _ hacc
          have er4 : ER G ex A₀ H₀ B O' (L2.wipe σ vs) H2 ρ' := erc.move s2 (fun q z _ => z) fun q z => .inl z
          have hv2 : Has G B H2 v x := hv.mono (bk sc (by rw [hacc]; rfl)) (Same.refl _)
          obtain ⟨ρ2, b1, c1⟩ := bind_ok c1
          refine ⟨B, O', ρ', x, er4, hv2, ?_⟩
          rw [b1]
          intro O2 σ2 er5 w5 o5
          refine ⟨by rw [w5 vs hn, wipe_wipe], ?_⟩
          obtain ⟨k, b2, c1⟩ := bind_ok c1
          refine ⟨B, O2, ρ2, er5, ?_⟩
          rw [b2]
          intro H3 s3
          have sc3 := same_tr sc2 s3
          have hD3 : H3 D = some (.lst acc) := s3 _ _ hD2
          have hp3 : ∀ p ∈ ps, Has G B H3 p.1 p.2 := fun p z => (hpc p z).mono (fun _ z => z) (same_tr s2 s3)
          have er6 : ER G ex A₀ H₀ B O' (L2.wipe σ vs) H3 ρ' := erc.move (same_tr s2 s3) (fun q z _ => z) fun q z => .inl z
          cases k with
          | false =>
            cases c1
            rw [if_neg Bool.false_ne_true, List.append_nil]
            exact ⟨sc3, er6, hp3, acc, hD3, hh.mono (fun _ z => z) (same_tr s2 s3)⟩
          | true =>
            obtain ⟨y, b3, c1⟩ := bind_ok c1
            cases c1
            rw [if_pos rfl]
            have er7 : ER G ex A₀ H₀ B O2 σ2 H3 ρ2 := er5.move s3 (fun q z _ => z) fun q z => .inl z
            refine ⟨B, O2, ρ2, er7, ?_⟩
            rw [b3]
            intro w H4 s4 hw _
            have hD4 : H4 D = some (.lst acc) := s4 _ _ hD3
            have sc4 := same_tr sc3 s4
            have sA := same_tr (same_tr s2 s3) s4
            have mu : Mut (H4 D) := by rw [hD4]; exact trivial
            have nx : ∀ fs, H4 D ≠ some (.xd fs) := fun fs z => by rw [hD4] at z; cases z
            have hl := hh.length
            refine ⟨acc, hD4, ?_, ?_, ?_, ?_, acc ++ [w], upd_same, ?_⟩
            · rw [hl, ← line_eq]
              have := congrArg List.length hy
              rw [List.length_append, List.length_append, List.length_singleton] at this
              omega
            · exact fun b x e => by
                rw [upd_ne (ne_of_none e hD)]
                exact sc4 b x e
            · have er8 : ER G ex A₀ H₀ B O' (L2.wipe σ vs) H4 ρ' := erc.move sA (fun q z _ => z) fun q z => .inl z
              exact er8.updF mu nx nD (fun j k z => ownD j k z.1) D0
            · exact fun p z => ((hpc p z).mono (fun _ z => z) sA).upd mu nD
            · refine HasL.append ((hh.mono (fun _ z => z) sA).upd mu fun z => z.2 rfl) (HasL.one (Has.upd mu (fun z => z.2 rfl) (hw.mono (fun q z => ?_) (Same.refl _))))
              have zB : ∀ q, B q → fr (fr (wi A O (roots (.lc vs g it ifs e))) H) H1 q ∧ q ≠ D := fun q z => by
                refine ⟨?_, z.2⟩
                rcases z.1 with (z | ⟨j, hj, k, z⟩) | z
                · exact .inl (z.imp (fun z => .inl z) id)
                · exact .inl (.inl (.inr ⟨j, List.mem_append_left _ hj, k, z⟩))
                · exact .inr z
              rcases z with (z | ⟨j, hj, k, z⟩) | z
              · exact zB q z
              · have zO := o5 j k q z
                refine ⟨.inl (.inl (.inr ⟨j, List.mem_append_right _ hj, k, zO.1⟩)), fun e => ?_⟩
                subst e
                exact ownD j k zO.1
              · exact zB q (bk sc3 (by rw [hD3]; rfl) q (.inr z))
theorem se_lc {own : List (Str × Nat)} {g : Tg} {it : It} {ifs : Exs} {e : Ex} {elt tg iter : Expr} {xifs : List Expr} {scope : Scope} {pos : Pos} (P : PX G S T X L W ex) (hc : L.cm = true) (hi : PI X tg iter (tI G T W ex A₀ H₀ it)) (ok : BlkOk X.N X.env.scope scope own)
    (hg : ∀ (s : Shared) (H : Hp) (C : Addr) (cl : List (Str × Addr)) (fp : List Addr), PG (X.blk s H scope (compEnvC scope cl C X.env) fp) tg (tG G ex A₀ H₀ g))
    (ht : ∀ (s : Shared) (H : Hp) (C : Addr) (cl : List (Str × Addr)) (fp : List Addr), PTs (X.blk s H scope (compEnvC scope cl C X.env) fp) xifs (tAll G T noW ex A₀ H₀ ifs))
    (he : ∀ (s : Shared) (H : Hp) (C : Addr) (cl : List (Str × Addr)) (fp : List Addr), PE (X.blk s H scope (compEnvC scope cl C X.env) fp) elt (tD G T noW ex A₀ H₀ e))
    (hs : ∀ x, foldedSetIterable iter X.env x = pure x) (hn : ∀ j ∈ g.ns, j ∈ own.map (·.2)) : PE X (.ListComp elt [⟨tg, iter, xifs, 0⟩] scope pos) (tD G T W ex A₀ H₀ (.lc (own.map (·.2)) g it ifs e)) :=
  PE.of (pe_lc (P.calm hc) (by rw [P.nm]; exact P.nd) hi ok hg ht he hs) fun σ H Q h => lc_w own hn h
/-- what one turn of the outer clause gives -/
def turn2 (T : Tab) (own2 : List Nat) (g : Tg) (ifs : Exs) (it2 : It) (g2 : Tg) (ifs2 : Exs) (e : Ex) (ρ : Env) (x : D) : R (List D) := (bindT g x ρ).bind fun ρ => (evAll T ifs ρ).bind fun k => match k with
    | true => (evIt T it2 ρ).bind fun xs2 => collect (turnF T g2 ifs2 e (wipeE (unown ρ (rootsI it2)) own2)) xs2
    | false => .ok []
theorem lc2_w (own : List (Str × Nat)) {vs1 : List Nat} {g g2 : Tg} {it it2 : It} {ifs ifs2 : Exs} {e : Ex} (hn : ∀ j ∈ g.ns, j ∈ own.map (·.2)) (hn1 : ∀ j ∈ g2.ns, j ∈ vs1) {σ : L2.St} {H : Hp} {Q : VK} (h : tD G T W ex A₀ H₀ (.lc2 (own.map (·.2)) vs1 g it ifs g2 it2 ifs2 e) σ H Q) :
    tLc2 (tI G T W ex A₀ H₀ it) (tG G ex A₀ H₀ g) (tAll G T noW ex A₀ H₀ ifs) (tI G T noW ex A₀ H₀ it2) (tG G ex A₀ H₀ g2) (tAll G T noW ex A₀ H₀ ifs2) (tD G T noW ex A₀ H₀ e) (own.map (·.2)) vs1 σ H Q := by
  obtain ⟨A, O, ρ, er, h⟩ := h
  rw [ev] at h
  refine seqI er h fun xs J H1 ps _ s1 hJ hp er1 h1 D hD => ?_
  generalize hvs : own.map (·.2) = vs at h1 hn
  have h1 : outD G W (fr (wi A O (roots (.lc2 vs vs1 g it ifs g2 it2 ifs2 e))) H) σ true H1 ((noExc (collect (turn2 T vs1 g ifs it2 g2 ifs2 e (wipeE (unown ρ (rootsI it)) vs)) xs)).bind fun ys => guardR (decide (ys.length ≤ line)) (.ok (.lst ys))) Q := h1
  cases ec : collect (turn2 T vs1 g ifs it2 g2 ifs2 e (wipeE (unown ρ (rootsI it)) vs)) xs with
  | stk => rw [ec] at h1; exact h1.elim
  | exc x => rw [ec] at h1; exact h1.elim
  | ok ys =>
    rw [ec] at h1
    have h1 : outD G W (fr (wi A O (roots (.lc2 vs vs1 g it ifs g2 it2 ifs2 e))) H) σ true H1 (guardR (decide (ys.length ≤ line)) (.ok (.lst ys))) Q := h1
    cases c : decide (ys.length ≤ line) with
    | false => rw [c] at h1; exact h1.elim
    | true =>
      rw [c] at h1
      have h1 : Res G (fr (wi A O (roots (.lc2 vs vs1 g it ifs g2 it2 ifs2 e))) H) true H1 (.lst ys) Q := h1
      have hlen := of_decide_eq_true c
      have er2 := ((er1.un (rootsI it)).wipe vs)
      generalize hρ : wipeE (unown ρ (rootsI it)) vs = ρ' at er2 ec
      let B : Addr → Prop := fun q => ((fr A H q ∨ ow O (rootsI it) q) ∨ H1 q = none) ∧ q ≠ D
      let O' : Ow := fun j k p => O j k p ∧ j ∉ rootsI it
      let SS : Addr → Prop := fun q => fr (fr (wi A O (roots (.lc2 vs vs1 g it ifs g2 it2 ifs2 e))) H) H1 q ∧ q ≠ D
      have nD : ¬ B D := fun z => z.2 rfl
      have ownD : ∀ j k, ¬ O j k D := fun j k z => by
        have := (er1.own j k D z).2.1
        rw [hD] at this
        cases this
      have D0 : H₀ D = none := same_none er1.same hD
      have bk : ∀ {Hc : Hp}, Same H1 Hc → (Hc D).isSome = true → ∀ q, Hc q = none → B q := fun {Hc} s hs q z => by
        refine ⟨.inr (same_none s z), fun e => ?_⟩
        subst e
        rw [z] at hs
        cases hs
      have zB : ∀ q, B q → SS q := fun q z => by
        refine ⟨?_, z.2⟩
        rcases z.1 with (z | ⟨j, hj, k, z⟩) | z
        · exact .inl (z.imp (fun z => .inl z) id)
        · exact .inl (.inl (.inr ⟨j, List.mem_append_left _ hj, k, z⟩))
        · exact .inr z
      -- the store of an element
      have put : ∀ {H4 : Hp} {acc : List V} {w : V} {zs : List PD.D} {y : PD.D}, Same H1 H4 → H4 D = some (.lst acc) → HasL G SS H4 acc zs → Has G SS H4 w y → (zs.length < ys.length) →
          acc.length < sizeLine ∧ Same H1 (upd H4 D (.lst (acc ++ [w]))) ∧ HasL G SS (upd H4 D (.lst (acc ++ [w]))) (acc ++ [w]) (zs ++ [y]) := fun {H4 acc w zs y} s4 hD4 hh hw hl => by
        have mu : Mut (H4 D) := by rw [hD4]; exact trivial
        refine ⟨?_, ?_, HasL.append (hh.upd mu fun z => z.2 rfl) (HasL.one (Has.upd mu (fun z => z.2 rfl) hw))⟩
        · rw [hh.length, ← line_eq]
          omega
        · exact fun b x e => by
            rw [upd_ne (ne_of_none e hD)]
            exact s4 b x e
      have kp : ∀ {H4 : Hp} {acc : List V} {o : HO} {A2 : Addr → Prop} {O2 : Ow} {σ2 : L2.St} {ρ2 : Env}, H4 D = some (.lst acc) → ¬ A2 D → (∀ j k, ¬ O2 j k D) → ER G ex A₀ H₀ A2 O2 σ2 H4 ρ2 → ER G ex A₀ H₀ A2 O2 σ2 (upd H4 D o) ρ2 := fun {H4 acc o A2 O2 σ2 ρ2} hD4 nA nO er => by
        refine er.updF (by rw [hD4]; exact trivial) (fun fs z => by rw [hD4] at z; cases z) nA nO D0
      refine ⟨fun i m Hc => i + m = xs.length ∧ Same H1 Hc ∧ ER G ex A₀ H₀ B O' (L2.wipe σ vs) Hc ρ' ∧ (∀ p ∈ ps, Has G B Hc p.1 p.2) ∧ ∃ acc y1 y2, Hc D = some (.lst acc) ∧ HasL G SS Hc acc y1 ∧
        collect (turn2 T vs1 g ifs it2 g2 ifs2 e ρ') (xs.drop i) = .ok y2 ∧ ys = y1 ++ y2, ⟨xs.length, by omega, ?_, ?_, ?_, [], [], ys, upd_same, .nil, ec, rfl⟩, ?_⟩
      · exact same_upd hD
      · have er3 : ER G ex A₀ H₀ B O' (L2.wipe σ vs) H1 ρ' := er2.move (Same.refl H1) (fun q z zs => ⟨.inl z, fun e => by subst e; rw [hD] at zs; cases zs⟩) fun q z => z.1
        exact er3.move (same_upd hD) (fun q z _ => z) fun q z => .inl z
      · intro p hp'
        refine (hp p hp').to (same_upd hD) fun q z zs => ⟨.inl ?_, fun e => by subst e; rw [hD] at zs; cases zs⟩
        rcases z with (z | z) | z
        · exact .inl (.inl z)
        · exact .inr z
        · exact .inl (.inr z)
      · rintro i m Hc ⟨hm, sc, erc, hpc, acc, y1, y2, hacc, hh, hcol, hy⟩
        cases hx : xs[i]? with
        | none =>
          have hi : xs.length ≤ i := List.getElem?_eq_none_iff.mp hx
          refine .inl ⟨hJ.stop B Hc i hpc hi, ?_⟩
          rw [List.drop_eq_nil_of_le hi] at hcol
          cases hcol
          rw [List.append_nil] at hy
          subst hy
          exact h1 _ Hc sc (.lst (.inr hD) hacc (hh.mono (fun q z => z.1) (Same.refl _))) fun _ => ⟨D, acc, rfl, hD, hacc, hh⟩
        | some x =>
          obtain ⟨g1, g2'⟩ := hJ.go B Hc i x hpc hx
          rw [drop_cons hx] at hcol
          obtain ⟨ya, yb, c1, c2, rfl⟩ := collect_cons hcol
          have hi : i < xs.length := (List.getElem?_eq_some_iff.mp hx).1
          refine .inr ⟨g1, fun H' => Same H1 H' ∧ ER G ex A₀ H₀ B O' (L2.wipe σ vs) H' ρ' ∧ (∀ p ∈ ps, Has G B H' p.1 p.2) ∧ ∃ acc, H' D = some (.lst acc) ∧ HasL G SS H' acc (y1 ++ ya),
            fun H' ⟨k1, k2, k3, acc', k4, k5⟩ => ⟨m - 1, by omega, by omega, k1, k2, k3, acc', y1 ++ ya, yb, k4, k5, c2, by rw [hy, List.append_assoc]⟩, fun v H2 hy2 => ?_⟩
          obtain ⟨s2, hv⟩ := g2' v H2 hy2
          have sc2 := same_tr sc s2
          have hD2 : H2 D = some (.lst acc) := s2 _ _ hacc
          have er4 : ER G ex A₀ H₀ B O' (L2.wipe σ vs) H2 ρ' := erc.move s2 (fun q z _ => z) fun q z => .inl z
          have hv2 : Has G B H2 v x := hv.mono (fun q z => z.elim id fun z => bk sc (by rw [hacc]; rfl) q z) (Same.refl _)
          obtain ⟨ρ2, b1, c1⟩ := bind_ok c1
          refine ⟨B, O', ρ', x, er4, hv2, ?_⟩
          rw [b1]
          intro O2 σ2 er5 w5 o5
          refine ⟨by rw [w5 vs hn, wipe_wipe], ?_⟩
          obtain ⟨k, b2, c1⟩ := bind_ok c1
          refine ⟨B, O2, ρ2, er5, ?_⟩
          rw [b2]
          intro H3 s3
          have sc3 := same_tr sc2 s3
          have hD3 : H3 D = some (.lst acc) := s3 _ _ hD2
          have hp3 : ∀ p ∈ ps, Has G B H3 p.1 p.2 := fun p z => (hpc p z).mono (fun _ z => z) (same_tr s2 s3)
          have er6 : ER G ex A₀ H₀ B O' (L2.wipe σ vs) H3 ρ' := erc.move (same_tr s2 s3) (fun q z _ => z) fun q z => .inl z
          cases k with
          | false =>
            cases c1
            rw [if_neg Bool.false_ne_true, List.append_nil]
            exact ⟨sc3, er6, hp3, acc, hD3, hh.mono (fun _ z => z) (same_tr s2 s3)⟩
          | true =>
            obtain ⟨xs2, b3, c1⟩ := bind_ok c1
            rw [if_pos rfl]
            have er7 : ER G ex A₀ H₀ B O2 σ2 H3 ρ2 := er5.move s3 (fun q z _ => z) fun q z => .inl z
            refine ⟨B, O2, ρ2, er7, ?_⟩
            rw [b3]
            intro J1 H4 ps1 s4 hJ1 hp1
            have sc4 := same_tr sc3 s4
            have hD4 : H4 D = some (.lst acc) := s4 _ _ hD3
            -- the inner names' values
            have er8 := (er7.un (rootsI it2)).wipe vs1
            generalize hρ2 : wipeE (unown ρ2 (rootsI it2)) vs1 = ρ3 at er8 c1
            let B1 : Addr → Prop := fun q => B q ∨ ow O2 (rootsI it2) q
            let O3 : Ow := fun j k p => O2 j k p ∧ j ∉ rootsI it2
            have nO2 : ∀ j k, ¬ O2 j k D := fun j k z => ownD j k (o5 j k D z).1
            have nD1 : ¬ B1 D := fun z => z.elim nD fun ⟨j, _, k, z⟩ => nO2 j k z
            have zB1 : ∀ q, B1 q → SS q := fun q z => by
              rcases z with z | ⟨j, hj, k, z⟩
              · exact zB q z
              · have zO := (o5 j k q z).1
                exact ⟨.inl (.inl (.inr ⟨j, List.mem_append_right _ (List.mem_append_left _ hj), k, zO⟩)), fun e => by subst e; exact ownD j k zO⟩
            have er9 : ER G ex A₀ H₀ B1 O3 (L2.wipe σ2 vs1) H4 ρ3 := er8.move s4 (fun q z _ => z) fun q z => .inl z
            have er10 : ER G ex A₀ H₀ B O' (L2.wipe σ vs) H4 ρ' := er6.move s4 (fun q z _ => z) fun q z => .inl z
            refine ⟨fun j k Hd => j + k = xs2.length ∧ Same H1 Hd ∧ ER G ex A₀ H₀ B O' (L2.wipe σ vs) Hd ρ' ∧ (∀ p ∈ ps, Has G B Hd p.1 p.2) ∧ ER G ex A₀ H₀ B1 O3 (L2.wipe σ2 vs1) Hd ρ3 ∧ (∀ p ∈ ps1, Has G B1 Hd p.1 p.2) ∧
              ∃ acc z1 z2, Hd D = some (.lst acc) ∧ HasL G SS Hd acc (y1 ++ z1) ∧ collect (turnF T g2 ifs2 e ρ3) (xs2.drop j) = .ok z2 ∧ ya = z1 ++ z2, ⟨xs2.length, by omega, sc4, er10, fun p z => (hp3 p z).mono (fun _ z => z) s4, er9, fun p z => (hp1 p z).mono (fun q z => ?_) (Same.refl _), acc, [], ya, hD4, ?_, c1, rfl⟩, ?_⟩
            · rcases z with z | z
              · exact z
              · exact .inl (bk sc3 (by rw [hD3]; rfl) q z)
            · rw [List.append_nil]
              exact hh.mono (fun _ z => z) (same_tr (same_tr s2 s3) s4)
            · rintro j k Hd ⟨hjk, sd, erd, hpd, erd2, hpd2, accd, z1, z2, haccd, hhd, hcold, hyd⟩
              cases hx2 : xs2[j]? with
              | none =>
                have hj : xs2.length ≤ j := List.getElem?_eq_none_iff.mp hx2
                refine .inl ⟨hJ1.stop B1 Hd j hpd2 hj, sd, erd, hpd, accd, haccd, ?_⟩
                rw [List.drop_eq_nil_of_le hj] at hcold
                cases hcold
                rw [List.append_nil] at hyd
                subst hyd
                exact hhd
              | some x2 =>
                obtain ⟨g3, g4⟩ := hJ1.go B1 Hd j x2 hpd2 hx2
                rw [drop_cons hx2] at hcold
                obtain ⟨za, zb, d1, d2, rfl⟩ := collect_cons hcold
                have hj : j < xs2.length := (List.getElem?_eq_some_iff.mp hx2).1
                refine .inr ⟨g3, fun H' => Same H1 H' ∧ ER G ex A₀ H₀ B O' (L2.wipe σ vs) H' ρ' ∧ (∀ p ∈ ps, Has G B H' p.1 p.2) ∧ ER G ex A₀ H₀ B1 O3 (L2.wipe σ2 vs1) H' ρ3 ∧ (∀ p ∈ ps1, Has G B1 H' p.1 p.2) ∧ ∃ acc, H' D = some (.lst acc) ∧ HasL G SS H' acc (y1 ++ (z1 ++ za)),
                  fun H' ⟨k1, k2, k3, k4, k5, acc', k6, k7⟩ => ⟨k - 1, by omega, by omega, k1, k2, k3, k4, k5, acc', z1 ++ za, zb, k6, k7, d2, by rw [hyd, List.append_assoc]⟩, fun v2 H5 hy5 => ?_⟩
                obtain ⟨s5, hv5⟩ := g4 v2 H5 hy5
                have sd5 := same_tr sd s5
                have hD5 : H5 D = some (.lst accd) := s5 _ _ haccd
                have er11 : ER G ex A₀ H₀ B1 O3 (L2.wipe σ2 vs1) H5 ρ3 := erd2.move s5 (fun q z _ => z) fun q z => .inl z
                obtain ⟨ρ4, b4, d1⟩ := bind_ok d1
                refine ⟨B1, O3, ρ3, x2, er11, hv5.mono (fun q z => z.elim id fun z => .inl (bk sd (by rw [haccd]; rfl) q z)) (Same.refl _), ?_⟩
                rw [b4]
                intro O4 σ3 er12 w12 o12
                refine ⟨by rw [w12 vs1 hn1, wipe_wipe], ?_⟩
                obtain ⟨kk, b5, d1⟩ := bind_ok d1
                refine ⟨B1, O4, ρ4, er12, ?_⟩
                rw [b5]
                intro H6 s6
                have sd6 := same_tr sd5 s6
                have hD6 : H6 D = some (.lst accd) := s6 _ _ hD5
                have s56 := same_tr s5 s6
                cases kk with
                | false =>
                  cases d1
                  rw [if_neg Bool.false_ne_true, List.append_nil]
                  exact ⟨sd6, erd.move s56 (fun q z _ => z) fun q z => .inl z, fun p z => (hpd p z).mono (fun _ z => z) s56, erd2.move s56 (fun q z _ => z) fun q z => .inl z, fun p z => (hpd2 p z).mono (fun _ z => z) s56, accd, hD6, hhd.mono (fun _ z => z) s56⟩
                | true =>
                  obtain ⟨y, b6, d1⟩ := bind_ok d1
                  cases d1
                  rw [if_pos rfl]
                  refine ⟨B1, O4, ρ4, er12.move s6 (fun q z _ => z) fun q z => .inl z, ?_⟩
                  rw [b6]
                  intro w H7 s7 hw _
                  have sd7 := same_tr sd6 s7
                  have hD7 : H7 D = some (.lst accd) := s7 _ _ hD6
                  have s57 := same_tr s56 s7
                  have hw2 : Has G SS H7 w y := hw.mono (fun q z => by
                    rcases z with (z | ⟨j, hj, k, z⟩) | z
                    · exact zB1 q z
                    · have zO := (o5 j k q (o12 j k q z).1).1
                      exact ⟨.inl (.inl (.inr ⟨j, List.mem_append_right _ (List.mem_append_right _ hj), k, zO⟩)), fun e => by subst e; exact ownD j k zO⟩
                    · exact zB q (bk sd6 (by rw [hD6]; rfl) q z)) (Same.refl _)
                  have hl2 := congrArg List.length hy
                  have hl3 := congrArg List.length hyd
                  simp only [List.length_append, List.length_singleton] at hl2 hl3
                  obtain ⟨p1, p2, p3⟩ := put sd7 hD7 (hhd.mono (fun _ z => z) s57) hw2 (by rw [List.length_append]; omega)
                  have mu : Mut (H7 D) := by rw [hD7]; exact trivial
                  refine ⟨accd, hD7, p1, p2, kp hD7 nD (fun j k z => ownD j k z.1) (erd.move s57 (fun q z _ => z) fun q z => .inl z), fun p z => ((hpd p z).mono (fun _ z => z) s57).upd mu nD, kp hD7 nD1 (fun j k z => nO2 j k z.1) (erd2.move s57 (fun q z _ => z) fun q z => .inl z), fun p z => ((hpd2 p z).mono (fun _ z => z) s57).upd mu nD1, accd ++ [w], upd_same, ?_⟩
                  rw [← List.append_assoc]
                  exact p3
theorem se_lc2 {own : List (Str × Nat)} {vs1 : List Nat} {g g2 : Tg} {it it2 : It} {ifs ifs2 : Exs} {e : Ex} {elt tg iter tg1 iter1 : Expr} {xifs xifs1 : List Expr} {scope : Scope} {pos : Pos} (P : PX G S T X L W ex) (hc : L.cm = true) (hi : PI X tg iter (tI G T W ex A₀ H₀ it)) (ok : BlkOk X.N X.env.scope scope own) (hv : ∀ i ∈ vs1, i ∈ own.map (·.2))
    (hg : ∀ (s : Shared) (H : Hp) (C : Addr) (cl : List (Str × Addr)) (fp : List Addr), PG (X.blk s H scope (compEnvC scope cl C X.env) fp) tg (tG G ex A₀ H₀ g))
    (ht : ∀ (s : Shared) (H : Hp) (C : Addr) (cl : List (Str × Addr)) (fp : List Addr), PTs (X.blk s H scope (compEnvC scope cl C X.env) fp) xifs (tAll G T noW ex A₀ H₀ ifs))
    (hi1 : ∀ (s : Shared) (H : Hp) (C : Addr) (cl : List (Str × Addr)) (fp : List Addr), PI (X.blk s H scope (compEnvC scope cl C X.env) fp) tg1 iter1 (tI G T noW ex A₀ H₀ it2))
    (hg1 : ∀ (s : Shared) (H : Hp) (C : Addr) (cl : List (Str × Addr)) (fp : List Addr), PG (X.blk s H scope (compEnvC scope cl C X.env) fp) tg1 (tG G ex A₀ H₀ g2))
    (ht1 : ∀ (s : Shared) (H : Hp) (C : Addr) (cl : List (Str × Addr)) (fp : List Addr), PTs (X.blk s H scope (compEnvC scope cl C X.env) fp) xifs1 (tAll G T noW ex A₀ H₀ ifs2))
    (he : ∀ (s : Shared) (H : Hp) (C : Addr) (cl : List (Str × Addr)) (fp : List Addr), PE (X.blk s H scope (compEnvC scope cl C X.env) fp) elt (tD G T noW ex A₀ H₀ e))
    (hs : ∀ x, foldedSetIterable iter X.env x = pure x) (hs1 : ∀ env x, foldedSetIterable iter1 env x = pure x) (hn : ∀ j ∈ g.ns, j ∈ own.map (·.2)) (hn1 : ∀ j ∈ g2.ns, j ∈ vs1) :
    PE X (.ListComp elt [⟨tg, iter, xifs, 0⟩, ⟨tg1, iter1, xifs1, 0⟩] scope pos) (tD G T W ex A₀ H₀ (.lc2 (own.map (·.2)) vs1 g it ifs g2 it2 ifs2 e)) :=
  PE.of (pe_lc2 (P.calm hc) (by rw [P.nm]; exact P.nd) hi ok hv hg ht hi1 hg1 ht1 he hs hs1) fun σ H Q h => lc2_w own hn hn1 h
end
end PD
end

section
set_option Elab.async false
set_option linter.all false
set_option maxRecDepth 100000
set_option maxHeartbeats 2000000
/-! PD, part 11b: list(range(..)), tuple(range(..)). -/
namespace PD
open PySem PySem.Spec PyProof.Rows L2
section
variable {G : Sg} {S : Sx} {T : Tab} {X : Cx} {L : Lo} {W : WX} {ex : ExI} {A₀ : Addr → Prop} {H₀ : Hp}
theorem hasL_rng {A : Addr → Prop} {H : Hp} : ∀ (n : Nat) (lo : Int), HasL G A H ((List.range n).map fun i => V.int (lo + (i : Nat))) (intsD lo n)
  | 0, lo => .nil
  | n + 1, lo => by
    rw [List.range_succ_eq_map, List.map_cons, List.map_map]
    have e : (fun i => V.int (lo + (i : Nat))) ∘ Nat.succ = fun i : Nat => V.int ((lo + 1) + (i : Nat)) := by
      funext i
      show V.int (lo + ((i + 1 : Nat) : Int)) = V.int ((lo + 1) + (i : Nat))
      rw [show lo + ((i + 1 : Nat) : Int) = (lo + 1) + (i : Nat) by omega]
    rw [e, intsD]
    refine .cons ?_ (hasL_rng n (lo + 1))
    rw [Int.natCast_zero, Int.add_zero]
    exact .int lo
theorem rng_ok {a b : Int} (h1 : smallI a = true) (h2 : smallI b = true) (h3 : (intsD a (b - a).toNat).length ≤ line) : RgOk a b := by
  obtain ⟨a1, a2⟩ := bb h1
  obtain ⟨b1, b2⟩ := bb h2
  rw [intsD_len] at h3
  exact ⟨of_decide_eq_true a1, of_decide_eq_true a2, of_decide_eq_true b1, of_decide_eq_true b2, h3⟩
theorem se_lR1 {a : Ex} {ea : Expr} {p p2 pos pos2 : Pos} (P : PX G S T X L W ex) (hc : L.cm = true) (hf : ("list" : Str) ∈ S.free) (hg : Gl X "list") (hf2 : ("range" : Str) ∈ S.free) (hg2 : Gl X "range") (hs : notStar ea = true) (ha : PE X ea (tD G T W ex A₀ H₀ a)) :
    PE X (.Call (.Name "list" p) [.Call (.Name "range" p2) [ea] [] pos2] [] pos) (tD G T W ex A₀ H₀ (.lR (.r1 a))) := by
  refine PE.of (pe_listRg (P.calm hc) hg (P.free _ hf) (prg_1 hg2 (P.free _ hf2) ha (star_no hs [] _))) fun σ H Q ⟨A, O, ρ, er, h⟩ => ?_
  rw [ev, evIt, bind_assoc] at h
  refine seq1 er h fun x v H1 _ s hv er1 h1 => ?_
  cases hv with
  | int i =>
    have h1 : outD G W _ σ true H1 ((guardR (smallI i) (.ok (intsD 0 i.toNat))).bind fun xs => guardR (decide (xs.length ≤ line)) (.ok (.lst xs))) Q := h1
    refine ⟨i, rfl, ?_⟩
    cases e : smallI i with
    | false => rw [e] at h1; exact h1.elim
    | true =>
      rw [e] at h1
      have h1 : outD G W _ σ true H1 (guardR (decide ((intsD 0 i.toNat).length ≤ line)) (.ok (.lst (intsD 0 i.toNat)))) Q := h1
      cases c : decide ((intsD 0 i.toNat).length ≤ line) with
      | false => rw [c] at h1; exact h1.elim
      | true =>
        rw [c] at h1
        have h1 : Res G (fr (wi A O (roots (.lR (.r1 a)))) H) true H1 (.lst (intsD 0 i.toNat)) Q := h1
        have ez : i - 0 = i := Int.sub_zero i
        refine ⟨rng_ok rfl e (by rw [ez]; exact of_decide_eq_true c), fun q hq => ?_⟩
        refine h1.lst ?_ hq
        unfold rgV
        rw [ez]
        exact hasL_rng _ _
  | _ => exact h1.elim
theorem se_tR1 {a : Ex} {ea : Expr} {p p2 pos pos2 : Pos} (P : PX G S T X L W ex) (hc : L.cm = true) (hf : ("tuple" : Str) ∈ S.free) (hg : Gl X "tuple") (hf2 : ("range" : Str) ∈ S.free) (hg2 : Gl X "range") (hs : notStar ea = true) (ha : PE X ea (tD G T W ex A₀ H₀ a)) :
    PE X (.Call (.Name "tuple" p) [.Call (.Name "range" p2) [ea] [] pos2] [] pos) (tD G T W ex A₀ H₀ (.tR (.r1 a))) := by
  refine PE.of (pe_tupRg (P.calm hc) hg (P.free _ hf) (prg_1 hg2 (P.free _ hf2) ha (star_no hs [] _))) fun σ H Q ⟨A, O, ρ, er, h⟩ => ?_
  rw [ev, evIt, bind_assoc] at h
  refine seq1 er h fun x v H1 _ s hv er1 h1 => ?_
  cases hv with
  | int i =>
    have h1 : outD G W _ σ _ H1 ((guardR (smallI i) (.ok (intsD 0 i.toNat))).bind fun xs => guardR (decide (xs.length ≤ line)) (.ok (.tup xs))) Q := h1
    refine ⟨i, rfl, ?_⟩
    cases e : smallI i with
    | false => rw [e] at h1; exact h1.elim
    | true =>
      rw [e] at h1
      have h1 : outD G W _ σ _ H1 (guardR (decide ((intsD 0 i.toNat).length ≤ line)) (.ok (.tup (intsD 0 i.toNat)))) Q := h1
      cases c : decide ((intsD 0 i.toNat).length ≤ line) with
      | false => rw [c] at h1; exact h1.elim
      | true =>
        rw [c] at h1
        have h1 : Res G (fr (wi A O (roots (.tR (.r1 a)))) H) _ H1 (.tup (intsD 0 i.toNat)) Q := h1
        have ez : i - 0 = i := Int.sub_zero i
        refine ⟨rng_ok rfl e (by rw [ez]; exact of_decide_eq_true c), fun q hq => ?_⟩
        refine h1.tup ?_ hq
        unfold rgV
        rw [ez]
        exact hasL_rng _ _
  | _ => exact h1.elim
end
end PD
end

section
set_option Elab.async false
set_option linter.all false
set_option maxRecDepth 100000
set_option maxHeartbeats 2000000
/-! PD, part 11c: enumerate, zip. -/
namespace PD
open PySem PySem.Spec PyProof.Rows L2
/-! ### enumerate over a tuple -/
theorem tup_at {h h' : Heap} {l : Addr} {its : Array Value} (p : h.IsTuple l its) (k : ∀ o, h.get? l = some o → h'.get? l = some o) : h'.IsTuple l its :=
  let ⟨o, a, b⟩ := p
  ⟨o, k o a, b⟩
theorem drT {prog : Program} {w : World} {A : Around} (hh : A.handled = none) (it l : Addr) (ne : l ≠ it) (its : Array Value) :
    Draws prog w A it [it, l] its.size (fun i x => its[i]? = some x) (fun i h => h.IsTupleIter it l i ∧ h.IsTuple l its) where
  live := fun _ _ st => let ⟨o, a, _⟩ := st.1; ⟨o, a⟩
  frame := fun _ _ _ st k => ⟨st.1.at fun o q => k it (by simp) o q, tup_at st.2 fun o q => k l (by simp) o q⟩
  item := fun i s Q E hi st q => RZ.nextOf_tuple_item st.1 st.2 (Array.getElem?_eq_getElem hi) fun h' a b =>
    q _ h' s.toks (Array.getElem?_eq_getElem hi) ⟨a, tup_at st.2 fun o z => (b.2 l ne).trans z⟩ b
  done := fun s Q E st q => RZ.nextOf_tuple_end hh st.1 st.2 (by simp) q
def IteT (K : PySem.W.Frag) (a : Addr) : HIt where
  go := fun i H => ∃ (xs : List V) (x : V), SqT K H a xs ∧ xs[i]? = some x
  yld := fun i H v H' => ∃ T x, v = .ref T ∧ H T = none ∧ H' = upd H T (.tup [.int (i : Nat), x]) ∧ ∀ xs, SqT K H a xs → xs[i]? = some x
  stop := fun i H => ∃ xs : List V, SqT K H a xs ∧ xs.length ≤ i
theorem en_ne_tup {h : Heap} {e it a : Addr} {i : Int} {old : Value} {its : Array Value} (he : IsEnum h e it i old) (p : h.IsTuple a its) : a ≠ e := fun z => by
  obtain ⟨o, h1, h2, _⟩ := p
  rw [z, he] at h1
  cases h1
  exact absurd (Value.type.inj h2) (by decide)
theorem ti_ne_tup {h : Heap} {it a l : Addr} {i : Nat} {its : Array Value} (hi : h.IsTupleIter it l i) (p : h.IsTuple a its) : a ≠ it := fun z => by
  obtain ⟨o, h1, h2, _⟩ := p
  obtain ⟨o', k1, k2, _⟩ := hi
  rw [z, k1] at h1
  cases h1
  rw [k2] at h2
  exact absurd (Value.type.inj h2) (by decide)
theorem turn_enT {P : Program} {w : World} {K : PySem.W.Frag} {elts : List Expr} {kk : Nat} {tpos : Pos} (a e it : Addr) :
    Turn P w K (.Tuple elts kk tpos) (IteT K a) [e, it] e (fun i h => (∃ old, IsEnum h e it ((i : Nat) : Int) old) ∧ h.IsTupleIter it a i ∧ e ≠ it) where
  mem := List.mem_cons_self
  obj := fun i h st b hb => by
    obtain ⟨⟨old, he⟩, ⟨o, ho, _, hd⟩, _⟩ := st
    rcases List.mem_cons.mp hb with rfl | hb
    · exact ⟨_, he, fun _ q => nomatch q⟩
    · rw [List.mem_singleton.mp hb]
      exact ⟨o, ho, fun v q => by rw [hd] at q; cases q⟩
  keep := fun i h h' st k => ⟨st.1.imp fun _ he => k e (by simp) _ he, st.2.1.at fun o q => k it (by simp) o q, st.2.2⟩
  item := by
    intro X hP hw hK hc i pins s σ H E I hf st hg
    subst hP hw hK
    obtain ⟨⟨old, he⟩, hit, hne⟩ := st
    obtain ⟨xs, x, hq, hx⟩ := hg
    obtain ⟨its, rv, p, _⟩ := I.tuple hq
    obtain ⟨u, hu, ru⟩ := rv.get hx
    have p' : s.heap.IsTuple a its.toArray := p
    have hae := en_ne_tup he p'
    have hai := ti_ne_tup hit p'
    have hel := Heap.lt_size he
    have hil : it < s.heap.objs.size := let ⟨_, q, _⟩ := hit; Heap.lt_size q
    have hui : its.toArray[i]? = some u := by simpa using hu
    have hlt : i < its.toArray.size := (Array.getElem?_eq_some_iff.mp hui).1
    refine wpAny_pyNext_enum_itemD (drT (prog := X.prog) (w := X.w) (A := X.A.in1) (I.ok.hd hc) it a hai its.toArray) he ⟨hit, p'⟩ hlt hne (by simp [hne, hae.symm]) fun y h1 tk hy ho st1 hT hsz hk => ?_
    have : y = u := Option.some.inj (hy.symm.trans hui)
    subst this
    refine ⟨_, rfl, wpAny_letOwnedTupleGo_enum (s := { s with heap := h1, toks := tk + 1 }) ho fun h2 he2 sb => ?_⟩
    have hT2 := (sb.2 _ (Nat.ne_of_gt hel)).trans hT
    have new : ObjOk X.prog X.w (upd H s.heap.objs.size (.tup [.int (i : Nat), x])) h2 s.heap.objs.size (.tup [.int (i : Nat), x]) :=
      ⟨show 2 ≤ sizeLine by decide, [.int i tk, y], .cons ⟨tk, rfl⟩ (.cons ru .nil), ⟨_, hT2, rfl, _, rfl⟩⟩
    have I2 : Inv X pins σ (upd H s.heap.objs.size (.tup [.int (i : Nat), x])) { s with heap := h2, toks := tk + 1 } := by
      refine I.turnedNew (ch := [e, it]) (fun b o hb q => ?_) hf (Nat.le_refl _) new
      have b1 : b ≠ e := fun z => hb (by simp [z])
      have b2 : b ≠ it := fun z => hb (by simp [z])
      exact (sb.2 b b1).trans (hk b o b1 b2 q)
    refine ⟨.ref s.heap.objs.size, _, I2, rfl, ⟨_, x, rfl, I.hok.fresh (Nat.le_refl _), rfl, fun ys hy' => ?_⟩, ⟨⟨y, ?_⟩, st1.1.at fun o q => (sb.2 it hne.symm).trans q, hne⟩, fun b hb => ?_⟩
    · rw [I.tuple_inj hy' hq]; exact hx
    · rw [show ((i + 1 : Nat) : Int) = (i : Int) + 1 from rfl]
      exact he2
    · have hb' : b < s.heap.objs.size := by
        rcases List.mem_cons.mp hb with rfl | hb
        · exact hel
        · rw [List.mem_singleton.mp hb]; exact hil
      rw [upd_ne (Nat.ne_of_lt hb')]
      exact (hf b hb).1
  done := by
    intro X hP hw hK hc i pins s σ H E I hf st hg
    subst hP hw hK
    obtain ⟨⟨old, he⟩, hit, hne⟩ := st
    obtain ⟨xs, hq, hx⟩ := hg
    obtain ⟨its, rv, p, _⟩ := I.tuple hq
    have p' : s.heap.IsTuple a its.toArray := p
    obtain ⟨f0, f1, f2, f3, f4, f5⟩ := hf it (by simp)
    have hl := rv.length
    -- the iterator's own end, at any place behind the last
    have hT : s.TypeIs (.ref e) "enumerate" := ⟨_, he, rfl⟩
    have out : its.toArray[i]? = none := by simp; omega
    have D : Draws X.prog X.w X.A.in1 it [it, a] i (fun _ _ => True) (fun j h => j ≤ i ∧ h.IsTupleIter it a i ∧ h.IsTuple a its.toArray ∧ j = i) := {
      live := fun _ _ z => let ⟨o, k, _⟩ := z.2.1; ⟨o, k⟩
      frame := fun _ _ _ z k => ⟨z.1, z.2.1.at fun o q => k it (by simp) o q, tup_at z.2.2.1 fun o q => k a (by simp) o q, z.2.2.2⟩
      item := fun j s Q E hj z => absurd z.2.2.2 (Nat.ne_of_lt hj)
      done := fun s Q E z q => RZ.nextOf_tuple_end (I.ok.hd hc) z.2.1 z.2.2.1 out q }
    exact wpAny_pyNext_enum_endD D he ⟨Nat.le_refl i, hit, p', rfl⟩ fun h' eb => ⟨rfl, I.turned (t' := s.toks) (fun b o hb q => eb b o hb q) f0 f1 f3 f4 f5⟩
  self := fun A i s Q E st h => st.1.elim fun _ he => wpAny_pyIter_enum he h
end PD
namespace PySem
open Sem (wp)
open AutoSeq1 (wpAny_loadPart')
abbrev pdTI (l : Addr) : Obj := { cls := .type "tuple_iterator", data := .fields #[.ref l, .int 0 0] }
abbrev pdEn (i : Addr) : Obj := { cls := .type "enumerate", data := .fields #[.none, .bool false, .ref i, rawInt 0, .none, .none] }
theorem pd_meets (l : Addr) (its : Array Value) (n : Nat) (dct : Option Addr) (sl : Array (Option Value)) :
    Meets (Builtin.«enumerate.__new__» ⟨[.type "enumerate", .ref l], []⟩) (fun _ R s => s.heap.get? l = some { cls := .type "tuple", dict := dct, data := .seq its n, slots := sl } ∧ R (.ok (.ret (.ref (s.heap.push (pdTI l)).objs.size))) { s with heap := (s.heap.push (pdTI l)).push (pdEn s.heap.objs.size) }) :=
  .of_wp fun prog w A R ⟨hp, g, d, tk, os⟩ ⟨hl, h⟩ => by
    have hs := sub_enumerate
    have hT : Heap.IsTuple (Shared.heap ⟨hp, g, d, tk, os⟩) l its := ⟨_, hl, rfl, n, rfl⟩
    wp_walk using wpAny_loadPart' hl
    refine wpAny_stack_any fun _ => wpAny_pure ?_
    split
    · rename_i c _ _ _ _ _
      cases (c == Value.type "enumerate")
      all_goals
        wp_walk using wpAny_loadPart' hl, wpAny_pyIter_tuple hT
        exact ⟨_, rfl, h⟩
    · wp_walk using wpAny_loadPart' hl, wpAny_pyIter_tuple hT
      exact ⟨_, rfl, h⟩
theorem pd_call {prog : Program} {w : World} {A : Around} {E : Value → Shared → Prop} {s : Shared} {l : Addr} {its : Array Value} {Q : Value → Shared → Prop} (p : s.heap.IsTuple l its)
    (h : ∀ h', IsEnum h' (s.heap.objs.size + 1) s.heap.objs.size 0 .none → h'.IsTupleIter s.heap.objs.size l 0 → (∀ b o, s.heap.get? b = some o → h'.get? b = some o) → Q (.ref (s.heap.objs.size + 1)) { s with heap := h' }) :
    wpAny (model prog w) A (call (.type "enumerate") [.ref l]) Q E s := by
  obtain ⟨⟨c, dct, dt, sl⟩, hl, rfl, n, rfl⟩ := p
  refine callType_new F.called_enumerate (by decide) (F.typeCall_enumerate_1 _) (F.newCall_enumerate_1 _) (fun obj => F.args_object_init_2 obj _) F.entry_enumerate_new (pd_meets l its n dct sl) ⟨hl, ?_⟩
  have z : (s.heap.push (pdTI l)).objs.size = s.heap.objs.size + 1 := Heap.size_push ..
  have k : ((s.heap.push (pdTI l)).push (pdEn s.heap.objs.size)).get? (s.heap.objs.size + 1) = some (pdEn s.heap.objs.size) := by
    rw [← z]
    exact Heap.get?_push_size _ rfl
  show _ ∧ _
  rw [z]
  exact ⟨⟨_, k, rfl⟩, h _ k ⟨_, Heap.get?_push_of_some _ (Heap.get?_push_size _ rfl), rfl, rfl⟩ fun b o x => Heap.get?_push_of_some _ (Heap.get?_push_of_some _ x)⟩
end PySem
namespace PD
open PySem PySem.Spec PyProof.Rows L2
def iEnA (K : PySem.W.Frag) (ta : TA) : TI := fun σ H R => ta σ H fun vs H1 => ∃ a xs, vs = [.ref a] ∧ ((SqL K H1 a xs ∧ R (Ite K a) H1) ∨ (SqT K H1 a xs ∧ R (IteT K a) H1))
theorem pi_enA {X : Cx} {e : Expr} {ta : TA} {p pos tpos : Pos} {elts : List Expr} {kk : Nat} (hg : Gl X "enumerate") (hm : X.mg "enumerate" = none) (ha : PA X [e] ta) (hs : starEach [e] X.env = [(false, eval e X.env)]) :
    PI X (.Tuple elts kk tpos) (.Call (.Name "enumerate" p) [e] [] pos) (iEnA X.K ta) := by
  constructor
  intro pins s σ H R I h
  refine Call_ (ld_blt I hg hm boot_enumerate (PyProof.Rows.callWith_type1 (thn (ha.run pos pins s σ H _ I h) ?_) hs rfl))
  rintro us s1 ⟨vs, H1, I1, r1, a, xs, rfl, q⟩
  cases r1 with
  | cons r rr =>
    cases rr
    cases r
    have fp : ∀ b ∈ [s1.heap.objs.size + 1, s1.heap.objs.size], FpOk X pins H1 b := fun b hb => by
      have hle : s1.heap.objs.size ≤ b := by
        rcases List.mem_cons.mp hb with z | z
        · omega
        · have := List.mem_singleton.mp z; omega
      exact I1.fpOk hle (I1.hok.fresh hle)
    rcases q with ⟨hq, q⟩ | ⟨hq, q⟩
    · obtain ⟨its, _, p', _⟩ := I1.list hq
      refine call_enumerate_list p'.isList fun h' he hit _ hk => wpAny_pyIter_enum he ?_
      exact ⟨_, [s1.heap.objs.size + 1, s1.heap.objs.size], _, _, H1, rfl, I1.kept (t' := s1.toks) hk, turn_enum a _ _, ⟨⟨.none, he⟩, hit, Nat.succ_ne_self _⟩, fp, q⟩
    · obtain ⟨its, _, p', _⟩ := I1.tuple hq
      refine pd_call (show s1.heap.IsTuple a its.toArray from p') fun h' he hit hk => wpAny_pyIter_enum he ?_
      exact ⟨_, [s1.heap.objs.size + 1, s1.heap.objs.size], _, _, H1, rfl, I1.kept (t' := s1.toks) hk, turn_enT a _ _, ⟨⟨.none, he⟩, hit, Nat.succ_ne_self _⟩, fp, q⟩
/-! ### the data that they give -/
section
variable {G : Sg} {S : Sx} {T : Tab} {X : Cx} {L : Lo} {W : WX} {ex : ExI} {A₀ : Addr → Prop} {H₀ : Hp}
theorem enumFrom_len : ∀ (xs : List D) (i : Int), (enumFrom i xs).length = xs.length
  | [], _ => rfl
  | x :: xs, i => by rw [enumFrom, List.length_cons, List.length_cons, enumFrom_len xs]
theorem enumFrom_get : ∀ (xs : List D) (lo : Int) (i : Nat), (enumFrom lo xs)[i]? = (xs[i]?).map fun x => .tup [.int (lo + i), x]
  | [], _, _ => by simp [enumFrom]
  | x :: xs, lo, 0 => by simp [enumFrom]
  | x :: xs, lo, i + 1 => by
    rw [enumFrom, List.getElem?_cons_succ, List.getElem?_cons_succ, enumFrom_get xs (lo + 1) i]
    congr 1
    funext x
    rw [show lo + 1 + (i : Int) = lo + ((i + 1 : Nat) : Int) by omega]
theorem new_same {H : Hp} {p : Addr} {o : HO} (h : H p = none) : Same H (upd H p o) := fun b u e => by
  rw [upd_ne (ne_of_none e h)]; exact e
theorem its_enL {K : PySem.W.Frag} {p : Addr} {ds : List D} (d : D) (h : ∀ A H, Has G A H (.ref p) d → ∃ xs, SqL K H p xs ∧ HasL G A H xs ds) : Its G (Ite K p) (enumFrom 0 ds) [(.ref p, d)] where
  go := fun A H i e hp he => by
    obtain ⟨xs, h1, h3⟩ := h A H (hp _ List.mem_cons_self)
    rw [enumFrom_get] at he
    obtain ⟨y, hy, rfl⟩ := Option.map_eq_some_iff.mp he
    obtain ⟨v, e1, e2⟩ := h3.get hy
    refine ⟨⟨xs, v, h1, e1⟩, fun x H' ⟨Z, w, ex, hn, eH, hx⟩ => ?_⟩
    have := hx xs h1
    rw [e1] at this
    cases this
    subst eH ex
    refine ⟨new_same hn, .tup upd_same (.cons ?_ (.cons (e2.here.to (new_same hn) fun _ z _ => z) .nil))⟩
    rw [Int.zero_add]
    exact .int _
  stop := fun A H i hp he => by
    obtain ⟨xs, h1, h3⟩ := h A H (hp _ List.mem_cons_self)
    rw [enumFrom_len] at he
    exact ⟨xs, h1, by rw [h3.length]; exact he⟩
theorem its_enT {K : PySem.W.Frag} {p : Addr} {ds : List D} : Its G (IteT K p) (enumFrom 0 ds) [(.ref p, .tup ds)] where
  go := fun A H i e hp he => by
    have h := hp _ List.mem_cons_self
    cases h with
    | @tup _ xs _ h1 h3 =>
      rw [enumFrom_get] at he
      obtain ⟨y, hy, rfl⟩ := Option.map_eq_some_iff.mp he
      obtain ⟨v, e1, e2⟩ := h3.get hy
      refine ⟨⟨_, v, .of h1, e1⟩, fun x H' ⟨Z, w, ex, hn, eH, hx⟩ => ?_⟩
      have := hx _ (.of h1)
      rw [e1] at this
      cases this
      subst eH ex
      refine ⟨new_same hn, .tup upd_same (.cons ?_ (.cons (e2.here.to (new_same hn) fun _ z _ => z) .nil))⟩
      rw [Int.zero_add]
      exact .int _
  stop := fun A H i hp he => by
    have h := hp _ List.mem_cons_self
    cases h with
    | tup h1 h3 =>
      rw [enumFrom_len] at he
      exact ⟨_, .of h1, by rw [h3.length]; exact he⟩
theorem si_en {a : Ex} {e : Expr} {elts : List Expr} {kk : Nat} {p pos tpos : Pos} (P : PX G S T X L W ex) (hf : ("enumerate" : Str) ∈ S.free) (hg : Gl X "enumerate") (hs : notStar e = true) (ha : PE X e (tD G T W ex A₀ H₀ a)) :
    PI X (.Tuple elts kk tpos) (.Call (.Name "enumerate" p) [e] [] pos) (tI G T W ex A₀ H₀ (.en a)) := by
  refine PI.of (pi_enA hg (P.free _ hf) (pa_cons ha pa_nil (star_no hs _ _)) (star_no hs _ _)) fun σ H Q ⟨A, O, ρ, er, h⟩ => ?_
  rw [evIt] at h
  have h : outI G W (wi A O (roots a)) σ H ((ev T a ρ).bind fun x => (itemsD x).bind fun xs => .ok (enumFrom 0 xs)) Q := h
  refine seq1I er h fun x v H1 _ s1 hv er1 h1 => ?_
  cases hv with
  | @tup p xs ds k1 k2 =>
    refine ⟨p, _, rfl, .inr ⟨.of k1, ?_⟩⟩
    exact h1 _ H1 [(.ref p, .tup ds)] (Same.refl H1) its_enT fun q hq => by
      rw [List.mem_singleton] at hq
      subst hq
      exact .tup k1 (k2.mono (fun _ z => .inl z) (Same.refl _))
  | @lst p xs ds k0 k1 k2 =>
    refine ⟨p, _, rfl, .inl ⟨.of k1, ?_⟩⟩
    exact h1 _ H1 [(.ref p, .lst ds)] (Same.refl H1) (its_enL (.lst ds) fun A H h => by
      cases h with
      | lst j0 j1 j2 => exact ⟨_, .of j1, j2⟩) fun q hq => by
      rw [List.mem_singleton] at hq
      subst hq
      exact .lst (.inl k0) k1 (k2.mono (fun _ z => .inl z) (Same.refl _))
  | @scr p xs ds k1 k2 =>
    refine ⟨p, _, rfl, .inl ⟨k1.sq P.hG, ?_⟩⟩
    exact h1 _ H1 [(.ref p, .scr ds)] (Same.refl H1) (its_enL (.scr ds) fun A H h => by
      cases h with
      | scr j1 j2 => exact ⟨_, j1.sq P.hG, j2⟩) fun q hq => by
      rw [List.mem_singleton] at hq
      subst hq
      exact .scr k1 (k2.mono (fun _ z => .inl z) (Same.refl _))
  | _ => exact (show False from h1).elim
theorem zipD_get : ∀ (xs ys : List D) (i : Nat) (d : D), (zipD xs ys)[i]? = some d → ∃ x y, xs[i]? = some x ∧ ys[i]? = some y ∧ d = .tup [x, y]
  | x :: xs, y :: ys, 0, d, h => by
    rw [zipD, List.getElem?_cons_zero] at h
    exact ⟨x, y, rfl, rfl, (Option.some.inj h).symm⟩
  | x :: xs, y :: ys, i + 1, d, h => by
    rw [zipD, List.getElem?_cons_succ] at h
    rw [List.getElem?_cons_succ, List.getElem?_cons_succ]
    exact zipD_get xs ys i d h
  | [], ys, i, d, h => by simp [zipD] at h
  | x :: xs, [], i, d, h => by simp [zipD] at h
theorem zipD_len : ∀ (xs ys : List D) (i : Nat), (zipD xs ys).length ≤ i → xs.length ≤ i ∨ ys.length ≤ i
  | x :: xs, y :: ys, 0, h => by rw [zipD, List.length_cons] at h; omega
  | x :: xs, y :: ys, i + 1, h => by
    rw [zipD, List.length_cons] at h
    rw [List.length_cons, List.length_cons]
    exact (zipD_len xs ys i (by omega)).imp Nat.succ_le_succ Nat.succ_le_succ
  | [], ys, i, h => .inl (Nat.zero_le i)
  | x :: xs, [], i, h => .inr (Nat.zero_le i)
theorem its_zpL {K : PySem.W.Frag} {p p2 : Addr} {ds es : List D} : Its G (Itz K p p2) (zipD ds es) [(.ref p, .lst ds), (.ref p2, .lst es)] where
  go := fun A H i e hp he => by
    have h := hp _ List.mem_cons_self
    have k := hp (.ref p2, .lst es) (by simp)
    obtain ⟨x, y, hx, hy, rfl⟩ := zipD_get _ _ _ _ he
    cases h with
    | @lst _ xs _ _ h1 h3 =>
      cases k with
      | @lst _ ys _ _ k1 k3 =>
        obtain ⟨v, e1, e2⟩ := h3.get hx
        obtain ⟨w, f1, f2⟩ := k3.get hy
        refine ⟨⟨xs, ys, v, w, .of h1, .of k1, e1, f1⟩, fun z H' ⟨Z, a, b, ex, hn, eH, ha, hb⟩ => ?_⟩
        have a1 := ha xs (.of h1)
        have b1 := hb ys (.of k1)
        rw [e1] at a1
        rw [f1] at b1
        cases a1
        cases b1
        subst eH ex
        exact ⟨new_same hn, .tup upd_same (.cons (e2.here.to (new_same hn) fun _ z _ => z) (.cons (f2.here.to (new_same hn) fun _ z _ => z) .nil))⟩
  stop := fun A H i hp he => by
    have h := hp _ List.mem_cons_self
    have k := hp (.ref p2, .lst es) (by simp)
    cases h with
    | lst _ h1 h3 =>
      cases k with
      | lst _ k1 k3 => exact ⟨_, _, .of h1, .of k1, by rw [h3.length, k3.length]; exact zipD_len _ _ _ he⟩
theorem its_zpT {K : PySem.W.Frag} {p p2 : Addr} {ds es : List D} : Its G (RZ.ItzT K p p2) (zipD ds es) [(.ref p, .tup ds), (.ref p2, .tup es)] where
  go := fun A H i e hp he => by
    have h := hp _ List.mem_cons_self
    have k := hp (.ref p2, .tup es) (by simp)
    obtain ⟨x, y, hx, hy, rfl⟩ := zipD_get _ _ _ _ he
    cases h with
    | @tup _ xs _ h1 h3 =>
      cases k with
      | @tup _ ys _ k1 k3 =>
        obtain ⟨v, e1, e2⟩ := h3.get hx
        obtain ⟨w, f1, f2⟩ := k3.get hy
        refine ⟨⟨xs, ys, v, w, .of h1, .of k1, e1, f1⟩, fun z H' ⟨Z, a, b, ex, hn, eH, ha, hb⟩ => ?_⟩
        have a1 := ha xs (.of h1)
        have b1 := hb ys (.of k1)
        rw [e1] at a1
        rw [f1] at b1
        cases a1
        cases b1
        subst eH ex
        exact ⟨new_same hn, .tup upd_same (.cons (e2.here.to (new_same hn) fun _ z _ => z) (.cons (f2.here.to (new_same hn) fun _ z _ => z) .nil))⟩
  stop := fun A H i hp he => by
    have h := hp _ List.mem_cons_self
    have k := hp (.ref p2, .tup es) (by simp)
    cases h with
    | tup h1 h3 =>
      cases k with
      | tup k1 k3 => exact ⟨_, _, .of h1, .of k1, by rw [h3.length, k3.length]; exact zipD_len _ _ _ he⟩
theorem si_zp {a b : Ex} {e e2 : Expr} {elts : List Expr} {kk : Nat} {p pos tpos : Pos} (P : PX G S T X L W ex) (hf : ("zip" : Str) ∈ S.free) (hg : Gl X "zip") (hs : notStar e = true) (hs2 : notStar e2 = true) (ha : PE X e (tD G T W ex A₀ H₀ a)) (hb : PE X e2 (tD G T W ex A₀ H₀ b)) :
    PI X (.Tuple elts kk tpos) (.Call (.Name "zip" p) [e, e2] [] pos) (tI G T W ex A₀ H₀ (.zp a b)) := by
  refine PI.of (RZ.pi_zipA hg (P.free _ hf) (pa_cons ha (pa_cons hb pa_nil (star_no hs2 _ _)) (star_no hs _ _)) (star_no hs _ _) (by rw [star_no hs2]; rfl)) fun σ H Q ⟨A, O, ρ, er, h⟩ => ?_
  rw [evIt] at h
  have h : outI G W (wi A O (roots a ++ roots b)) σ H ((ev T a ρ).bind fun x => (ev T b ρ).bind fun y => zipOf x y) Q := h
  refine seq1I er h fun x v H1 _ s1 hv er1 h1 => ?_
  refine seq1I er1 h1 fun y w H2 _ s2 hw er2 h2 => ?_
  have up1 : ∀ q, fr (wi A O (roots a)) H q → (H1 q).isSome = true → fr (fr (wi A O (roots a ++ roots b)) H) H1 q := fun q z _ => .inl (by
    rcases z with z | z
    · exact .inl (z.imp id fun ⟨j, hj, k⟩ => ⟨j, List.mem_append_left _ hj, k⟩)
    · exact .inr z)
  have up2 : ∀ q, fr (wi (fr A H) O (roots b)) H1 q → (H2 q).isSome = true → fr (fr (wi A O (roots a ++ roots b)) H) H1 q := fun q z _ => by
    rcases z with z | z
    · rcases z with z | ⟨j, hj, k⟩
      · rcases z with z | z
        · exact .inl (.inl (.inl z))
        · exact .inl (.inr z)
      · exact .inl (.inl (.inr ⟨j, List.mem_append_right _ hj, k⟩))
    · exact .inr z
  have hv2 := hv.to s2 up1
  have hw2 := hw.to (Same.refl H2) up2
  cases hv2 with
  | @tup p1 xs ds k1 k2 =>
    cases hw2 with
    | @tup p2 ys es j1 j2 =>
      refine ⟨p1, p2, xs, ys, rfl, .inr ⟨.of k1, .of j1, ?_⟩⟩
      exact h2 _ H2 [(.ref p1, .tup ds), (.ref p2, .tup es)] (Same.refl H2) its_zpT fun q hq => by
        rcases List.mem_cons.mp hq with rfl | hq
        · exact (Has.tup k1 k2).to (Same.refl H2) fun _ z _ => .inl z
        · rw [List.mem_singleton] at hq
          subst hq
          exact (Has.tup j1 j2).to (Same.refl H2) fun _ z _ => .inl z
    | _ => exact (show False from h2).elim
  | @lst p1 xs ds k0 k1 k2 =>
    cases hw2 with
    | @lst p2 ys es j0 j1 j2 =>
      refine ⟨p1, p2, xs, ys, rfl, .inl ⟨.of k1, .of j1, ?_⟩⟩
      exact h2 _ H2 [(.ref p1, .lst ds), (.ref p2, .lst es)] (Same.refl H2) its_zpL fun q hq => by
        rcases List.mem_cons.mp hq with rfl | hq
        · exact (Has.lst k0 k1 k2).to (Same.refl H2) fun _ z _ => .inl z
        · rw [List.mem_singleton] at hq
          subst hq
          exact (Has.lst j0 j1 j2).to (Same.refl H2) fun _ z _ => .inl z
    | _ => exact (show False from h2).elim
  | _ => exact (show False from h2).elim
end
end PD
end

section
set_option Elab.async false
set_option linter.all false
set_option maxRecDepth 100000
set_option maxHeartbeats 4000000
/-! PD, part 12: statements. -/
namespace PD
open PySem PySem.Spec PyProof.Rows L2
/-- shared data stay as they are -/
def Keep (G : Sg) (A : Addr → Prop) (H : Hp) (A' : Addr → Prop) (H' : Hp) : Prop := ∀ v d, Has G A H v d → Has G A' H' v d
section
variable {G : Sg} {ex : ExI} {A₀ : Addr → Prop} {H₀ : Hp} {A : Addr → Prop} {O : Ow} {σ : L2.St} {H H' : Hp} {ρ : Env}
theorem Keep.refl : Keep G A H A H := fun _ _ h => h
theorem Keep.trans {A1 A2 A3 : Addr → Prop} {H1 H2 H3 : Hp} (a : Keep G A1 H1 A2 H2) (b : Keep G A2 H2 A3 H3) : Keep G A1 H1 A3 H3 := fun v d h => b v d (a v d h)
theorem Keep.of (s : Same H H') {A' : Addr → Prop} (h : ∀ q, A q → (H q).isSome = true → A' q) : Keep G A H A' H' := fun v d x => x.to s h
theorem keepL {A1 A2 : Addr → Prop} {H1 H2 : Hp} (k : Keep G A1 H1 A2 H2) {vs : List V} {ds : List D} (h : HasL G A1 H1 vs ds) : HasL G A2 H2 vs ds :=
  hasL_of h.length fun i v d e1 e2 => by
    obtain ⟨d', e3, h3⟩ := h.getV e1
    rw [e2] at e3
    cases e3
    exact k v d h3
/-- an object of a name's own is written -/
theorem ER.wr {i : Nat} {v : V} {o' : OD} {p : Addr} {ho : HO} {Oi : Nat → Addr → Prop} (er : ER G ex A₀ H₀ A O σ H ρ) (hv : σ[i]? = some (some v)) (hp : ∃ k, O i k p) (mu : Mut (H p)) (nx : ∀ fs, H p ≠ some (.xd fs)) (hs : SlotOk G ex A Oi (upd H p ho) v o')
    (h1 : ∀ k q, Oi k q → O i k q ∨ (¬ A q ∧ (H q).isSome = true ∧ H₀ q = none ∧ ∀ j k', ¬ O j k' q)) (h3 : ∀ k k' q, Oi k q → Oi k' q → k = k') :
    ER G ex A₀ H₀ A (fun j k q => (j = i ∧ Oi k q) ∨ (j ≠ i ∧ O j k q)) σ (upd H p ho) (ρ.set i (some o')) := by
  obtain ⟨k0, hp⟩ := hp
  have nA := (er.own _ _ _ hp).1
  have n0 := (er.own _ _ _ hp).2.2
  have up : ∀ q, (H q).isSome = true → ((upd H p ho) q).isSome = true := fun q z => by
    by_cases e : q = p
    · subst e
      rw [upd_same]
      rfl
    · rw [upd_ne e]
      exact z
  have nOj : ∀ j k, j ≠ i → ¬ O j k p := fun j k hj z => hj (er.uniq _ _ _ _ _ z hp).1
  refine ⟨by rw [List.length_set]; exact er.len, fun j o e => ?_, fun j k q h => ?_, fun j k j' k' q h h' => ?_, er.sub, fun b x e => ?_⟩
  · by_cases h : i = j
    · subst h
      have hl : i < ρ.length := by
        have z := (List.getElem?_eq_some_iff.mp e).1
        rw [List.length_set] at z
        exact z
      rw [List.getElem?_set_self hl] at e
      cases e
      exact ⟨v, hv, hs.to (Same.refl _) (fun _ z _ => z) fun _ _ z => .inl ⟨rfl, z⟩⟩
    · rw [List.getElem?_set_ne h] at e
      obtain ⟨v', e3, e4⟩ := er.slot j o e
      exact ⟨v', e3, (e4.upd mu nx nA fun k => nOj j k fun z => h z.symm).to (Same.refl _) (fun _ z _ => z) fun _ _ z => .inr ⟨fun q => h q.symm, z⟩⟩
  · rcases h with ⟨rfl, h⟩ | ⟨_, h⟩
    · rcases h1 k q h with z | ⟨a, b, c, _⟩
      · obtain ⟨a, b, c⟩ := er.own _ _ _ z
        exact ⟨a, up q b, c⟩
      · exact ⟨a, up q b, c⟩
    · obtain ⟨a, b, c⟩ := er.own _ _ _ h
      exact ⟨a, up q b, c⟩
  · rcases h with ⟨e1, h⟩ | ⟨e1, h⟩ <;> rcases h' with ⟨e2, h'⟩ | ⟨e2, h'⟩
    · exact ⟨e1.trans e2.symm, h3 k k' q h h'⟩
    · rcases h1 k q h with z | ⟨_, _, _, z⟩
      · exact absurd (er.uniq _ _ _ _ _ z h').1.symm e2
      · exact absurd h' (z _ _)
    · rcases h1 k' q h' with z | ⟨_, _, _, z⟩
      · exact absurd (er.uniq _ _ _ _ _ z h).1.symm e1
      · exact absurd h (z _ _)
    · exact er.uniq _ _ _ _ _ h h'
  · rw [upd_ne (fun z => by subst z; rw [n0] at e; cases e)]
    exact er.same b x e
theorem Keep.wr {p : Addr} {ho : HO} (mu : Mut (H p)) (nA : ¬ A p) : Keep G A H A (upd H p ho) := fun v d h => h.upd mu nA
/-- behind the value of e: what it stands on is no name's own -/
theorem ER.keep {rs : List Nat} {x : D} {v : V} {f : Bool} (er : ER G ex A₀ H₀ A O σ H ρ) (s : Same H H') (hv : Has G (fr (wi A O rs) H) H' v x) (P : Addr → Prop) (hP : ∀ q, P q → (H q).isSome = true → False) :
    ∃ B O', ER G ex A₀ H₀ B O' σ H' (keepR ρ rs x) ∧ Keep G A H B H' ∧ (∀ q, fr (wi A O rs) H q → ¬ P q → B q ∨ froz x = true) ∧ (∀ q, P q → ¬ B q) ∧ (∀ j k q, O' j k q → O j k q) := by
  unfold keepR
  cases fx : froz x with
  | true =>
    refine ⟨fun q => fr A H q ∧ ¬ P q, O, er.move s (fun q z zs => ⟨.inl z, fun p => hP q p zs⟩) fun q z => z.1, Keep.of s fun q z zs => ⟨.inl z, fun p => hP q p zs⟩, fun _ _ _ => .inr rfl, fun q p z => z.2 p, fun _ _ _ z => z⟩
  | false =>
    refine ⟨fun q => fr (wi A O rs) H q ∧ ¬ P q, _, (er.un rs).move s (fun q z zs => ⟨.inl z, fun p => hP q p zs⟩) fun q z => z.1, Keep.of s fun q z zs => ⟨.inl (.inl z), fun p => hP q p zs⟩, fun q z n => .inl ⟨z, n⟩, fun q p z => z.2 p, fun _ _ _ z => z.1⟩
/-- .. the value is shared data -/
theorem ER.keepV {rs : List Nat} {x : D} {v : V} (er : ER G ex A₀ H₀ A O σ H ρ) (s : Same H H') (hv : Has G (fr (wi A O rs) H) H' v x) : ∃ B O', ER G ex A₀ H₀ B O' σ H' (keepR ρ rs x) ∧ Keep G A H B H' ∧ Has G B H' v x ∧ (∀ j k q, O' j k q → O j k q) := by
  obtain ⟨B, O', h1, h2, h3, _, h5⟩ := er.keep (f := false) s hv (fun _ => False) fun _ z _ => z
  refine ⟨B, O', h1, h2, ?_, h5⟩
  cases fx : froz x with
  | true => exact Has.froz fx hv
  | false => exact hv.mono (fun q z => (h3 q z fun z => z).elim id fun z => absurd z (by rw [fx]; exact Bool.false_ne_true)) (Same.refl _)
end

/-! ### what comes of a statement -/
def outS (G : Sg) (W : WX) (ex : ExI) (A₀ : Addr → Prop) (H₀ : Hp) (q : Bool) (A : Addr → Prop) (σ : L2.St) (H : Hp) (r : R Fl) (Z : Ends) : Prop := match r with
  | .ok (.nx ρ') => ∀ A' O' σ' H', ER G ex A₀ H₀ A' O' σ' H' ρ' → Keep G A H A' H' → Z.nx σ' H'
  | .ok (.bk ρ') => ∀ A' O' σ' H', ER G ex A₀ H₀ A' O' σ' H' ρ' → Keep G A H A' H' → Z.bk σ' H'
  | .ok (.ct ρ') => ∀ A' O' σ' H', ER G ex A₀ H₀ A' O' σ' H' ρ' → Keep G A H A' H' → Z.ct σ' H'
  | .ok (.rt d ρ') => ∀ v A' O' σ' H', ER G ex A₀ H₀ A' O' σ' H' ρ' → Keep G A H A' H' → Has G A' H' v d → Z.rt v H'
  | .exc x => ∀ cls dx σ' H', Same H₀ H' → (q = true → σ' = σ ∧ Same H H') → XR G H' x cls dx → W cls dx σ' H'
  | .stk => False
def tS (G : Sg) (T : Tab) (W : WX) (ex : ExI) (A₀ : Addr → Prop) (H₀ : Hp) (q : Bool) (st : St) : TS := fun Z σ H => ∃ A O ρ, ER G ex A₀ H₀ A O σ H ρ ∧ outS G W ex A₀ H₀ q A σ H (rn T st ρ) Z
def tSs (G : Sg) (T : Tab) (W : WX) (ex : ExI) (A₀ : Addr → Prop) (H₀ : Hp) (q : Bool) (st : Sts) : TS := fun Z σ H => ∃ A O ρ, ER G ex A₀ H₀ A O σ H ρ ∧ outS G W ex A₀ H₀ q A σ H (rns T st ρ) Z
/-- in a def's body -/
structure PY (G : Sg) (S : Sx) (T : Tab) (X : Cx) (L : Lo) (W : WX) (ex : ExI) : Prop where
  px : PX G S T X L W ex
  pass : L.cm = true → PassesOwn (model X.prog X.w) X.A X.env X.xe
  hE : ∀ k, k < S.ename.length → ExcC X.K (G.ea k)
  hs : L.cm = true → X.stack = X.env :: X.outer
  hf : L.cm = true → X.env.frame = some X.env.locals
section
variable {G : Sg} {S : Sx} {T : Tab} {X : Cx} {L : Lo} {W : WX} {ex : ExI} {A₀ : Addr → Prop} {H₀ : Hp} {q : Bool}
theorem PS.of {e : Stmt} {t t' : TS} (h : PS X e t) (w : ∀ Z σ H, t' Z σ H → t Z σ H) : PS X e t' := ⟨fun pins s σ H Z I q => h.run pins s σ H Z I (w Z σ H q)⟩
theorem PSs.of {e : List Stmt} {t t' : TS} (h : PSs X e t) (w : ∀ Z σ H, t' Z σ H → t Z σ H) : PSs X e t' := ⟨fun pins s σ H Z I q => h.run pins s σ H Z I (w Z σ H q)⟩
/-- an expression at a statement's head -/
theorem seqE {a : Ex} {A : Addr → Prop} {O : Ow} {σ : L2.St} {H : Hp} {ρ : Env} {g : D → R Fl} {Z : Ends} {R : V → Hp → Prop} (er : ER G ex A₀ H₀ A O σ H ρ) (h : outS G W ex A₀ H₀ q A σ H ((ev T a ρ).bind g) Z)
    (k : ∀ x v H1, ev T a ρ = .ok x → Same H H1 → Has G (fr (wi A O (roots a)) H) H1 v x → (frs a = true → Own1 G (wi A O (roots a)) H H1 v x) → outS G W ex A₀ H₀ q A σ H (g x) Z → R v H1) : tD G T W ex A₀ H₀ a σ H R := by
  refine ⟨A, O, ρ, er, ?_⟩
  cases e : ev T a ρ with
  | stk => rw [e] at h; exact h
  | exc x =>
    rw [e] at h
    exact fun cls dx H2 s2 r => h cls dx σ H2 (same_tr er.same s2) (fun _ => ⟨rfl, s2⟩) r
  | ok x =>
    rw [e] at h
    exact fun v H1 s1 hv o => k x v H1 e s1 hv o h
/-- leaving the start aside -/
theorem outS_up {A A1 : Addr → Prop} {σ σ1 : L2.St} {H H1 : Hp} {r : R Fl} {Z : Ends} (k : Keep G A H A1 H1) (hq : q = true → σ1 = σ ∧ Same H H1) (h : outS G W ex A₀ H₀ q A σ H r Z) : outS G W ex A₀ H₀ q A1 σ1 H1 r Z := by
  cases r with
  | stk => exact h
  | exc x => exact fun cls dx σ' H' s hs xr => h cls dx σ' H' s (fun z => ⟨(hs z).1.trans (hq z).1, same_tr (hq z).2 (hs z).2⟩) xr
  | ok f =>
    cases f with
    | nx ρ => exact fun A' O' σ' H' er kk => h A' O' σ' H' er (k.trans kk)
    | bk ρ => exact fun A' O' σ' H' er kk => h A' O' σ' H' er (k.trans kk)
    | ct ρ => exact fun A' O' σ' H' er kk => h A' O' σ' H' er (k.trans kk)
    | rt d ρ => exact fun v A' O' σ' H' er kk hv => h v A' O' σ' H' er (k.trans kk) hv
/-! name = value -/
theorem asg_step {i : Nat} {e : Ex} {Z : Ends} {σ : L2.St} {H : Hp} (h : tS G T W ex A₀ H₀ q (.asg (.n i) e) Z σ H) : tAsg (tD G T W ex A₀ H₀ e) (gName i) Z σ H := by
  obtain ⟨A, O, ρ, er, h⟩ := h
  rw [rn] at h
  refine seqE er h fun x v H1 _ s1 hv ho h1 => ?_
  cases c : decide (i < ρ.length) with
  | false => rw [c] at h1; exact h1.elim
  | true =>
    rw [c] at h1
    have hi := of_decide_eq_true c
    have h1 : ∀ A' O' σ' H', ER G ex A₀ H₀ A' O' σ' H' ((keepN (frs e) ρ (roots e) x).set i (some (.f (ownO (frs e) x)))) → Keep G A H A' H' → Z.nx σ' H' := h1
    have sh_ : ownO (frs e) x = .sh x → keepN (frs e) ρ (roots e) x = keepR ρ (roots e) x → Z.nx (σ.set i (some v)) H1 := fun eo eK => by
      rw [eo, eK] at h1
      obtain ⟨B, O', er2, k2, hv2, _⟩ := er.keepV s1 hv
      exact h1 _ _ _ _ (er2.setSh hv2) k2
    cases ef : frs e with
    | false => exact sh_ (by rw [ef]; rfl) (by rw [ef]; rfl)
    | true =>
      cases x with
      | lst ds =>
        obtain ⟨p, xs, rfl, hp, hl, hh⟩ := ho ef
        rw [ef] at h1
        cases hz : frozs ds with
        | false =>
          have eK : keepN true ρ (roots e) (.lst ds) = keepR ρ (roots e) (.lst ds) := by
            show keepRs ρ (roots e) ds = keepR ρ (roots e) (.lst ds)
            unfold keepRs keepR
            rw [hz]; rfl
          rw [eK] at h1
          obtain ⟨B, O', er2, k2, b1, b2, b3⟩ := er.keep (f := true) s1 hv (fun q => q = p) fun q z zs => by
            subst z
            rw [hp] at zs
            cases zs
          refine h1 _ _ _ _ (er2.set (o := .f (.ol ds)) (Oi := fun k q => k = 0 ∧ q = p) ⟨p, xs, rfl, ⟨rfl, rfl⟩, hl, hh.mono (fun q z => ?_) (Same.refl _)⟩ (fun k q z => ?_) (fun k q j k' z hj zz => ?_) fun k k' q z z' => by rw [z.1, z'.1]) k2
          · exact (b1 q z.1 z.2).elim id fun z => by rw [froz] at z; cases z
          · obtain ⟨_, rfl⟩ := z
            exact ⟨b2 q rfl, by rw [hl]; rfl, same_none er.same hp⟩
          · obtain ⟨_, rfl⟩ := z
            have := (er.own _ _ _ (b3 _ _ _ zz)).2.1
            rw [hp] at this
            cases this
        | true =>
          have eK : keepN true ρ (roots e) (.lst ds) = ρ := by
            show keepRs ρ (roots e) ds = ρ
            unfold keepRs
            rw [hz]
          rw [eK] at h1
          have np : ∀ q, (H q).isSome = true → q ≠ p := fun q zs e => by
            subst e
            rw [hp] at zs
            cases zs
          have er2 := er.move s1 (B := fun q => fr A H q ∧ q ≠ p) (fun q z zs => ⟨.inl z, np q zs⟩) fun q z => z.1
          refine h1 _ _ _ _ (er2.set (o := .f (.ol ds)) (Oi := fun k q => k = 0 ∧ q = p) ⟨p, xs, rfl, ⟨rfl, rfl⟩, hl, HasL.froz hz hh⟩ (fun k q z => ?_) (fun k q j k' z hj zz => ?_) fun k k' q z z' => by rw [z.1, z'.1]) (Keep.of s1 fun q z zs => ⟨.inl z, np q zs⟩)
          · obtain ⟨_, rfl⟩ := z
            exact ⟨fun z => z.2 rfl, by rw [hl]; rfl, same_none er.same hp⟩
          · obtain ⟨_, rfl⟩ := z
            have := (er.own _ _ _ zz).2.1
            rw [hp] at this
            cases this
      | dct t kvs =>
        obtain ⟨p, rfl, hp, rfl, hl⟩ := ho ef
        obtain ⟨B, O', er2, k2, b1, b2, b3⟩ := er.keep (f := true) s1 hv (fun q => q = p) fun q z zs => by
          subst z
          rw [hp] at zs
          cases zs
        rw [ef] at h1
        refine h1 _ _ _ _ (er2.set (o := .f (.od t [])) (Oi := fun k q => k = 0 ∧ q = p) ⟨p, rfl, ⟨rfl, rfl⟩, ?_⟩ (fun k q z => ?_) (fun k q j k' z hj zz => ?_) fun k k' q z z' => by rw [z.1, z'.1]) k2
        · cases t with
          | true => exact ⟨[], hl, rfl, .nil⟩
          | false => exact ⟨[], hl, rfl, .nil⟩
        · obtain ⟨_, rfl⟩ := z
          exact ⟨b2 q rfl, by rw [hl]; rfl, same_none er.same hp⟩
        · obtain ⟨_, rfl⟩ := z
          have := (er.own _ _ _ (b3 _ _ _ zz)).2.1
          rw [hp] at this
          cases this
      | _ => exact sh_ (by rw [ef]; rfl) (by rw [ef]; rfl)
def notComp : Expr → Bool
  | .ListComp _ _ _ _ => false
  | .SetComp _ _ _ _ => false
  | .DictComp _ _ _ _ _ => false
  | _ => true
theorem swaps_no {e : Expr} (h : notComp e = true) (t : Option Expr) (l : Nat) (env : PySem.Env) : swapsWith e t l env = pure false := by
  cases e <;> first
    | exact absurd h Bool.false_ne_true
    | rfl
theorem ss_set {i : Nat} {x : Str} {e : Ex} {ee : Expr} {p pos : Pos} (P : PX G S T X L W ex) (hi : X.N[i]? = some x) (hx : Loc X.env.scope x) (hf : X.fn x = true ∨ X.env.scope.names.lookup x = some .local) (he : PE X ee (tD G T W ex A₀ H₀ e)) (hs : swapsWith ee (some (.Name x p)) pos.line X.env = pure false) :
    PS X (.Assign [.Name x p] ee pos) (tS G T W ex A₀ H₀ q (.asg (.n i) e)) := PS.of (ps_set (by rw [P.nm]; exact P.nd) hi hx he hs hf) fun _ _ _ h => asg_step h
end
end PD
end

section
set_option Elab.async false
set_option linter.all false
set_option maxRecDepth 100000
set_option maxHeartbeats 4000000
/-! PD, part 13: statements: stores, tests, loops, ends. -/
namespace PD
open PySem PySem.Spec PyProof.Rows L2
section
variable {G : Sg} {S : Sx} {T : Tab} {X : Cx} {L : Lo} {W : WX} {ex : ExI} {A₀ : Addr → Prop} {H₀ : Hp} {q : Bool}
/-! (a, b) = value -/
theorem asgT_step {gs : Tgs} {e : Ex} {Z : Ends} {σ : L2.St} {H : Hp} (h : tS G T W ex A₀ H₀ q (.asg (.t gs) e) Z σ H) : tAsg (tD G T W ex A₀ H₀ e) (tG G ex A₀ H₀ (.t gs)) Z σ H := by
  obtain ⟨A, O, ρ, er, h⟩ := h
  rw [rn] at h
  · refine seqE er h fun x v H1 _ s1 hv ho h1 => ?_
    obtain ⟨B, O', er2, k2, hv2, _⟩ := er.keepV s1 hv
    refine ⟨B, O', _, x, er2, hv2, ?_⟩
    cases eb : bindT (.t gs) x (keepR ρ (roots e) x) with
    | stk => rw [eb] at h1; exact h1
    | exc z => rw [eb] at h1; exact (bindT_exc _ eb).elim
    | ok ρ' =>
      rw [eb] at h1
      exact fun O2 σ2 er3 _ _ => h1 _ _ _ _ er3 k2
  · intro i z
    cases z
theorem swaps_sole {t : Expr} {e : Expr} (h : notComp e = true) (l : Nat) (env : PySem.Env) : swapsWithSole [t] e l env = pure false := swaps_no h (some t) l env
theorem swaps_other {e : Expr} {t : Expr} (h : (match t with
    | .Name _ _ => false
    | _ => true) = true) (l : Nat) (env : PySem.Env) : swapsWith e (some t) l env = pure false := by
  cases t <;> first
    | exact absurd h Bool.false_ne_true
    | (cases e <;> rfl)
def notTup : Expr → Bool
  | .Tuple _ _ _ => false
  | _ => true
theorem swapped_no {ts : List Expr} {n : Nat} {p : Pos} {e : Expr} (h : notTup e = true) (env : PySem.Env) : swappedStores [.Tuple ts n p] e env = pure none := by
  cases e <;> first
    | exact absurd h Bool.false_ne_true
    | rfl
theorem ss_asgT {gs : Tgs} {e : Ex} {ts : List Expr} {n : Nat} {p pos : Pos} {ee : Expr} (hg : PG X (.Tuple ts n p) (tG G ex A₀ H₀ (.t gs))) (he : PE X ee (tD G T W ex A₀ H₀ e)) (h1 : notComp ee = true) (h2 : notTup ee = true) :
    PS X (.Assign [.Tuple ts n p] ee pos) (tS G T W ex A₀ H₀ q (.asg (.t gs) e)) := PS.of (ps_asg he hg (swaps_sole h1 _ _) (swapped_no h2 _) rfl) fun _ _ _ h => asgT_step h
/-! name = [..], stored within -/
theorem ss_setLc {own : List (Str × Nat)} {i : Nat} {y : Str} {g : Tg} {it : It} {ifs : Exs} {e : Ex} {elt tg iter : Expr} {xifs : List Expr} {scope : Scope} {py pos spos : Pos} (P : PX G S T X L W ex) (hc : L.cm = true) (hy : X.N[i]? = some y) (hyl : X.env.scope.names.lookup y = some .local)
    (hsw : swapsWith (.ListComp elt [⟨tg, iter, xifs, 0⟩] scope pos) (some (.Name y py)) spos.line X.env = pure true) (hi : PI X tg iter (tI G T W ex A₀ H₀ it)) (ok : BlkOk X.N X.env.scope scope own)
    (hg : ∀ (s : Shared) (H : Hp) (C : Addr) (cl : List (Str × Addr)) (fp : List Addr), PG (X.blk s H scope (compEnvC scope cl C X.env) fp) tg (tG G ex A₀ H₀ g))
    (ht : ∀ (s : Shared) (H : Hp) (C : Addr) (cl : List (Str × Addr)) (fp : List Addr), PTs (X.blk s H scope (compEnvC scope cl C X.env) fp) xifs (tAll G T noW ex A₀ H₀ ifs))
    (he : ∀ (s : Shared) (H : Hp) (C : Addr) (cl : List (Str × Addr)) (fp : List Addr), PE (X.blk s H scope (compEnvC scope cl C X.env) fp) elt (tD G T noW ex A₀ H₀ e))
    (hs : ∀ x, foldedSetIterable iter X.env x = pure x) (hn : ∀ j ∈ g.ns, j ∈ own.map (·.2)) : PS X (.Assign [.Name y py] (.ListComp elt [⟨tg, iter, xifs, 0⟩] scope pos) spos) (tS G T W ex A₀ H₀ q (.asg (.n i) (.lc (own.map (·.2)) g it ifs e))) :=
  PS.of (ps_setLc (P.calm hc) (by rw [P.nm]; exact P.nd) hy hyl hsw hi ok hg ht he hs) fun _ _ _ h => lc_w own hn (asg_step h)
theorem ss_setLc2 {own : List (Str × Nat)} {vs1 : List Nat} {i : Nat} {y : Str} {g g2 : Tg} {it it2 : It} {ifs ifs2 : Exs} {e : Ex} {elt tg iter tg1 iter1 : Expr} {xifs xifs1 : List Expr} {scope : Scope} {py pos spos : Pos} (P : PX G S T X L W ex) (hc : L.cm = true) (hy : X.N[i]? = some y) (hyl : X.env.scope.names.lookup y = some .local)
    (hsw : swapsWith (.ListComp elt [⟨tg, iter, xifs, 0⟩, ⟨tg1, iter1, xifs1, 0⟩] scope pos) (some (.Name y py)) spos.line X.env = pure true) (hi : PI X tg iter (tI G T W ex A₀ H₀ it)) (ok : BlkOk X.N X.env.scope scope own) (hv : ∀ i ∈ vs1, i ∈ own.map (·.2))
    (hg : ∀ (s : Shared) (H : Hp) (C : Addr) (cl : List (Str × Addr)) (fp : List Addr), PG (X.blk s H scope (compEnvC scope cl C X.env) fp) tg (tG G ex A₀ H₀ g))
    (ht : ∀ (s : Shared) (H : Hp) (C : Addr) (cl : List (Str × Addr)) (fp : List Addr), PTs (X.blk s H scope (compEnvC scope cl C X.env) fp) xifs (tAll G T noW ex A₀ H₀ ifs))
    (hi1 : ∀ (s : Shared) (H : Hp) (C : Addr) (cl : List (Str × Addr)) (fp : List Addr), PI (X.blk s H scope (compEnvC scope cl C X.env) fp) tg1 iter1 (tI G T noW ex A₀ H₀ it2))
    (hg1 : ∀ (s : Shared) (H : Hp) (C : Addr) (cl : List (Str × Addr)) (fp : List Addr), PG (X.blk s H scope (compEnvC scope cl C X.env) fp) tg1 (tG G ex A₀ H₀ g2))
    (ht1 : ∀ (s : Shared) (H : Hp) (C : Addr) (cl : List (Str × Addr)) (fp : List Addr), PTs (X.blk s H scope (compEnvC scope cl C X.env) fp) xifs1 (tAll G T noW ex A₀ H₀ ifs2))
    (he : ∀ (s : Shared) (H : Hp) (C : Addr) (cl : List (Str × Addr)) (fp : List Addr), PE (X.blk s H scope (compEnvC scope cl C X.env) fp) elt (tD G T noW ex A₀ H₀ e))
    (hs : ∀ x, foldedSetIterable iter X.env x = pure x) (hs1 : ∀ env x, foldedSetIterable iter1 env x = pure x) (hn : ∀ j ∈ g.ns, j ∈ own.map (·.2)) (hn1 : ∀ j ∈ g2.ns, j ∈ vs1) :
    PS X (.Assign [.Name y py] (.ListComp elt [⟨tg, iter, xifs, 0⟩, ⟨tg1, iter1, xifs1, 0⟩] scope pos) spos) (tS G T W ex A₀ H₀ q (.asg (.n i) (.lc2 (own.map (·.2)) vs1 g it ifs g2 it2 ifs2 e))) :=
  PS.of (ps_setLc2 (P.calm hc) (by rw [P.nm]; exact P.nd) hy hyl hsw hi ok hv hg ht hi1 hg1 ht1 he hs hs1) fun _ _ _ h => lc2_w own hn hn1 (asg_step h)
/-! a, b = x, y -/
theorem Res.mono {A : Addr → Prop} {f : Bool} {H : Hp} {d : D} {Q Q' : VK} (h : Res G A f H d Q) (k : ∀ v H', Q v H' → Q' v H') : Res G A f H d Q' := fun v H' s hv o => k v H' (h v H' s hv o)
theorem ss_par {i j : Nat} {a b : Ex} {x y : Str} {ea eb : Expr} {px py pt pt2 pos : Pos} {kt k2 : Nat} (P : PX G S T X L W ex) (hc : L.cm = true) (hi : X.N[i]? = some x) (hj : X.N[j]? = some y) (hij : i ≠ j) (hx : X.env.scope.names.lookup x = some .local) (hy : X.env.scope.names.lookup y = some .local)
    (ha : PE X ea (tD G T W ex A₀ H₀ a)) (hb : PE X eb (tD G T W ex A₀ H₀ b)) (h1 : notStar ea = true) (h2 : notStar eb = true) (hw : swappedStores [.Tuple [.Name x px, .Name y py] kt pt] (.Tuple [ea, eb] k2 pt2) X.env = pure (some [x, y])) :
    PS X (.Assign [.Tuple [.Name x px, .Name y py] kt pt] (.Tuple [ea, eb] k2 pt2) pos) (tS G T W ex A₀ H₀ q (.par i j a b)) := by
  refine PS.of (ps_par (P.calm hc) (by rw [P.nm]; exact P.nd) hi hj hij hx hy (pa_cons ha (pa_cons hb pa_nil (star_no h2 _ _)) (star_no h1 _ _)) hw) fun Z σ H ⟨A, O, ρ, er, h⟩ => ?_
  rw [rn] at h
  refine seqE er h fun u v H1 _ s1 hv _ h1 => ?_
  refine seqE (er.go s1) (outS_up (Keep.of s1 fun q z _ => .inl z) (fun _ => ⟨rfl, s1⟩) h1) fun u' v' H2 _ s2 hv' _ h2 => ?_
  refine ⟨v, v', rfl, ?_⟩
  cases c : decide (i < ρ.length) && decide (j < ρ.length) && (froz u && froz u') with
  | false => rw [c] at h2; exact h2.elim
  | true =>
    rw [c] at h2
    obtain ⟨c1, c2⟩ := bb c
    obtain ⟨c3, c4⟩ := bb c2
    have er2 := (er.go s1).go s2
    exact h2 _ _ _ _ ((er2.setSh (Has.froz c3 (hv.mono (fun _ z => z) s2))).setSh (Has.froz c4 hv')) (Keep.of s2 fun q z _ => .inl z)
/-! if, the ends -/
theorem seqET {a : Ex} {A : Addr → Prop} {O : Ow} {σ : L2.St} {H : Hp} {ρ : Env} {g : Bool → R Fl} {Z : Ends} {R : Bool → Hp → Prop} (er : ER G ex A₀ H₀ A O σ H ρ) (h : outS G W ex A₀ H₀ q A σ H (((ev T a ρ).bind truR).bind g) Z)
    (k : ∀ x H1, Same H H1 → ER G ex A₀ H₀ (fr A H) O σ H1 ρ → outS G W ex A₀ H₀ q (fr A H) σ H1 (g x) Z → R x H1) : tDB G T W ex A₀ H₀ a σ H R := by
  refine ⟨A, O, ρ, er, ?_⟩
  cases e : (ev T a ρ).bind truR with
  | stk => rw [e] at h; exact h
  | exc x =>
    rw [e] at h
    exact fun cls dx H2 s2 r => h cls dx σ H2 (same_tr er.same s2) (fun _ => ⟨rfl, s2⟩) r
  | ok x =>
    rw [e] at h
    exact fun H1 s1 => k x H1 s1 (er.go s1) (outS_up (Keep.of s1 fun q z _ => .inl z) (fun _ => ⟨rfl, s1⟩) h)
theorem ss_if {c : Ex} {a b : Sts} {ec : Expr} {sa sb : List Stmt} {pos : Pos} (hc : PT X ec (tDB G T W ex A₀ H₀ c)) (ha : PSs X sa (tSs G T W ex A₀ H₀ q a)) (hb : PSs X sb (tSs G T W ex A₀ H₀ q b)) : PS X (.If ec sa sb pos) (tS G T W ex A₀ H₀ q (.ife c a b)) := by
  refine PS.of (ps_if hc ha hb) fun Z σ H ⟨A, O, ρ, er, h⟩ => ?_
  rw [rn, ← bind_assoc] at h
  refine seqET er h fun x H1 s er1 h1 => ?_
  cases x with
  | true =>
    rw [if_pos rfl]
    exact ⟨_, O, ρ, er1, h1⟩
  | false =>
    rw [if_neg Bool.false_ne_true]
    exact ⟨_, O, ρ, er1, h1⟩
theorem ss_ret {e : Ex} {ee : Expr} {pos : Pos} (he : PE X ee (tD G T W ex A₀ H₀ e)) : PS X (.Return (some ee) pos) (tS G T W ex A₀ H₀ q (.ret e)) := by
  refine PS.of (ps_ret he) fun Z σ H ⟨A, O, ρ, er, h⟩ => ?_
  rw [rn] at h
  refine seqE er h fun x v H1 _ s1 hv _ h1 => ?_
  obtain ⟨B, O', er2, k2, hv2, _⟩ := er.keepV s1 hv
  exact h1 v _ _ _ _ er2 k2 hv2
theorem ss_retN {pos : Pos} : PS X (.Return none pos) (tS G T W ex A₀ H₀ q .retN) := PS.of ps_retN fun Z σ H ⟨A, O, ρ, er, h⟩ => by
  rw [rn] at h
  exact h .non _ _ _ _ er Keep.refl .non
theorem ss_pas {pos : Pos} : PS X (.Pass pos) (tS G T W ex A₀ H₀ q .pas) := PS.of ps_pass fun Z σ H ⟨A, O, ρ, er, h⟩ => by
  rw [rn] at h
  exact h _ _ _ _ er Keep.refl
theorem ss_brk {pos : Pos} : PS X (.Break pos) (tS G T W ex A₀ H₀ q .brk) := PS.of ps_break fun Z σ H ⟨A, O, ρ, er, h⟩ => by
  rw [rn] at h
  exact h _ _ _ _ er Keep.refl
theorem ss_cnt {pos : Pos} : PS X (.Continue pos) (tS G T W ex A₀ H₀ q .cnt) := PS.of ps_continue fun Z σ H ⟨A, O, ρ, er, h⟩ => by
  rw [rn] at h
  exact h _ _ _ _ er Keep.refl
theorem ss_nev {st : Stmt} : PS X st (tS G T W ex A₀ H₀ q .nev) := PS.of ps_never fun Z σ H ⟨A, O, ρ, er, h⟩ => by
  rw [rn] at h
  exact h
theorem ss_exp {e : Ex} {ee : Expr} {pos : Pos} (he : PE X ee (tD G T W ex A₀ H₀ e)) (hs : notComp ee = true) : PS X (.Expr ee pos) (tS G T W ex A₀ H₀ q (.exp e)) := by
  refine PS.of (ps_expr he (swaps_no hs _ _ _)) fun Z σ H ⟨A, O, ρ, er, h⟩ => ?_
  rw [rn] at h
  refine seqE er h fun x v H1 _ s1 hv _ h1 => ?_
  exact h1 _ _ _ _ (er.go s1) (Keep.of s1 fun q z _ => .inl z)
/-! blocks -/
theorem ss_nil : PSs X [] (tSs G T W ex A₀ H₀ q .nil) := PSs.of pss_nil fun Z σ H ⟨A, O, ρ, er, h⟩ => by
  rw [rns] at h
  exact h _ _ _ _ er Keep.refl
theorem ss_one {st : St} {s : Stmt} (h1 : PS X s (tS G T W ex A₀ H₀ q st)) : PSs X [s] (tSs G T W ex A₀ H₀ q (.cons st .nil)) := PSs.of (pss_one h1) fun Z σ H ⟨A, O, ρ, er, h⟩ => by
  refine ⟨A, O, ρ, er, ?_⟩
  rw [rns] at h
  cases e : rn T st ρ with
  | stk => rw [e] at h; exact h
  | exc x => rw [e] at h; exact h
  | ok f =>
    rw [e] at h
    cases f with
    | nx ρ1 =>
      have h : outS G W ex A₀ H₀ q A σ H (rns T .nil ρ1) Z := h
      rw [rns] at h
      exact h
    | rt d ρ1 => exact h
    | bk ρ1 => exact h
    | ct ρ1 => exact h
theorem ss_cons {st : St} {r : Sts} {s : Stmt} {ss : List Stmt} (h1 : PS X s (tS G T W ex A₀ H₀ false st)) (h2 : PSs X ss (tSs G T W ex A₀ H₀ false r)) : PSs X (s :: ss) (tSs G T W ex A₀ H₀ false (.cons st r)) := PSs.of (pss_cons h1 h2) fun Z σ H ⟨A, O, ρ, er, h⟩ => by
  refine ⟨A, O, ρ, er, ?_⟩
  rw [rns] at h
  cases e : rn T st ρ with
  | stk => rw [e] at h; exact h
  | exc x => rw [e] at h; exact h
  | ok f =>
    rw [e] at h
    cases f with
    | nx ρ1 =>
      have h : outS G W ex A₀ H₀ false A σ H (rns T r ρ1) Z := h
      exact fun A' O' σ' H' er' k => ⟨A', O', ρ1, er', outS_up k (fun z => absurd z Bool.false_ne_true) h⟩
    | rt d ρ1 => exact h
    | bk ρ1 => exact h
    | ct ρ1 => exact h
/-! while -/
theorem ss_whl {c : Ex} {b : Sts} {ec : Expr} {sb : List Stmt} {pos : Pos} (P : PY G S T X L W ex) (hcm : L.cm = true) (hc : PT X ec (tDB G T W ex A₀ H₀ c)) (hb : PSs X sb (tSs G T W ex A₀ H₀ false b)) : PS X (.While ec sb [] pos) (tS G T W ex A₀ H₀ false (.whl c b)) := by
  refine PS.of (ps_while (P.pass hcm) hc hb) fun Z σ H ⟨A, O, ρ, er, h⟩ => ?_
  rw [rn] at h
  refine ⟨fun m σ1 H1 => ∃ A1 O1 ρ1, ER G ex A₀ H₀ A1 O1 σ1 H1 ρ1 ∧ outS G W ex A₀ H₀ false A1 σ1 H1 (loopW (fun ρ => (ev T c ρ).bind truR) (fun ρ => rns T b ρ) m ρ1) Z, ⟨T.fuel, A, O, ρ, er, h⟩, ?_⟩
  rintro m σ1 H1 ⟨A1, O1, ρ1, er1, h1⟩
  cases m with
  | zero => exact h1.elim
  | succ m =>
    rw [loopW] at h1
    refine seqET er1 h1 fun x H2 s2 er2 h2 => ?_
    cases x with
    | false =>
      rw [if_neg Bool.false_ne_true]
      exact h2 _ _ _ _ er2 Keep.refl
    | true =>
      rw [if_pos rfl]
      have h2 : outS G W ex A₀ H₀ false (fr A1 H1) σ1 H2 ((rns T b ρ1).bind fun r => match r with
        | .nx ρ => loopW (fun ρ => (ev T c ρ).bind truR) (fun ρ => rns T b ρ) m ρ
        | .ct ρ => loopW (fun ρ => (ev T c ρ).bind truR) (fun ρ => rns T b ρ) m ρ
        | .bk ρ => .ok (.nx ρ)
        | .rt d ρ => .ok (.rt d ρ)) Z := h2
      refine ⟨fun σ' H' => ∃ A' O' ρ', ER G ex A₀ H₀ A' O' σ' H' ρ' ∧ outS G W ex A₀ H₀ false A' σ' H' (loopW (fun ρ => (ev T c ρ).bind truR) (fun ρ => rns T b ρ) m ρ') Z, fun σ' H' z => ⟨m, Nat.lt_succ_self m, z⟩, _, O1, ρ1, er2, ?_⟩
      cases e : rns T b ρ1 with
      | stk => rw [e] at h2; exact h2
      | exc x => rw [e] at h2; exact h2
      | ok f =>
        rw [e] at h2
        cases f with
        | nx ρ3 => exact fun A' O' σ' H' er' k => ⟨A', O', ρ3, er', outS_up k (fun z => absurd z Bool.false_ne_true) h2⟩
        | ct ρ3 => exact fun A' O' σ' H' er' k => ⟨A', O', ρ3, er', outS_up k (fun z => absurd z Bool.false_ne_true) h2⟩
        | bk ρ3 => exact h2
        | rt d ρ3 => exact h2
/-! for -/
theorem ss_fr {g : Tg} {it : It} {b : Sts} {tg iter : Expr} {sb : List Stmt} {pos : Pos} (P : PY G S T X L W ex) (hc : L.cm = true) (hi : PI X tg iter (tI G T W ex A₀ H₀ it)) (hg : PG X tg (tG G ex A₀ H₀ g)) (hb : PSs X sb (tSs G T W ex A₀ H₀ false b)) (hs : ∀ x, foldedSetIterable iter X.env x = pure x) :
    PS X (.For tg iter sb [] pos) (tS G T W ex A₀ H₀ false (.fr g it b)) := by
  refine PS.of (ps_for (P.pass hc) (P.px.calm hc) hi hg hb hs) fun Z σ H ⟨A, O, ρ, er, h⟩ => ?_
  rw [rn] at h
  refine ⟨A, O, ρ, er, ?_⟩
  cases ei : evIt T it ρ with
  | stk => rw [ei] at h; exact h
  | exc x =>
    rw [ei] at h
    exact fun cls dx H2 s2 r => h cls dx σ H2 (same_tr er.same s2) (fun z => absurd z Bool.false_ne_true) r
  | ok xs =>
    rw [ei] at h
    intro J H1 ps s1 hJ hp
    have h : outS G W ex A₀ H₀ false A σ H (loopF (fun x ρ => (bindT g x ρ).bind fun ρ => rns T b ρ) xs (unown ρ (rootsI it))) Z := h
    -- the source is no name's own
    have er1 : ER G ex A₀ H₀ (fr (wi A O (rootsI it)) H) (fun j k p => O j k p ∧ j ∉ rootsI it) σ H1 (unown ρ (rootsI it)) := (er.un (rootsI it)).go s1
    have h1 := outS_up (σ1 := σ) (H1 := H1) (A1 := fr (wi A O (rootsI it)) H) (Keep.of s1 fun q z _ => .inl (.inl z)) (fun z => absurd z Bool.false_ne_true) h
    refine ⟨fun i m σ' H' => i + m = xs.length ∧ ∃ A' O' ρ', ER G ex A₀ H₀ A' O' σ' H' ρ' ∧ (∀ p ∈ ps, Has G A' H' p.1 p.2) ∧ outS G W ex A₀ H₀ false A' σ' H' (loopF (fun x ρ => (bindT g x ρ).bind fun ρ => rns T b ρ) (xs.drop i) ρ') Z, ⟨xs.length, by omega, _, _, _, er1, hp, h1⟩, ?_⟩
    rintro i m σ' H' ⟨hm, A', O', ρ', er', hp', h'⟩
    cases hx : xs[i]? with
    | none =>
      have hi : xs.length ≤ i := List.getElem?_eq_none_iff.mp hx
      rw [List.drop_eq_nil_of_le hi, loopF] at h'
      exact .inl ⟨hJ.stop A' H' i hp' hi, h' _ _ _ _ er' Keep.refl⟩
    | some x =>
      obtain ⟨g1, g2⟩ := hJ.go A' H' i x hp' hx
      have hi : i < xs.length := (List.getElem?_eq_some_iff.mp hx).1
      rw [drop_cons hx, loopF, bind_assoc] at h'
      refine .inr ⟨g1, fun σ2 H2 => ∃ A2 O2 ρ2, ER G ex A₀ H₀ A2 O2 σ2 H2 ρ2 ∧ (∀ p ∈ ps, Has G A2 H2 p.1 p.2) ∧ outS G W ex A₀ H₀ false A2 σ2 H2 (loopF (fun x ρ => (bindT g x ρ).bind fun ρ => rns T b ρ) (xs.drop (i + 1)) ρ2) Z,
        fun σ2 H2 ⟨A2, O2, ρ2, k1, k2, k3⟩ => ⟨m - 1, by omega, by omega, A2, O2, ρ2, k1, k2, k3⟩, fun v H2 hy => ?_⟩
      obtain ⟨s2, hv⟩ := g2 v H2 hy
      have k2 : Keep G A' H' (fr A' H') H2 := Keep.of s2 fun q z _ => .inl z
      refine ⟨_, O', ρ', x, er'.go s2, hv, ?_⟩
      cases eb : bindT g x ρ' with
      | stk => rw [eb] at h'; exact h'
      | exc z => exact (bindT_exc _ eb).elim
      | ok ρ2 =>
        rw [eb] at h'
        intro O2 σ2 er2 _ _
        have h' : outS G W ex A₀ H₀ false A' σ' H' ((rns T b ρ2).bind fun r => match r with
          | .nx ρ => loopF (fun x ρ => (bindT g x ρ).bind fun ρ => rns T b ρ) (xs.drop (i + 1)) ρ
          | .ct ρ => loopF (fun x ρ => (bindT g x ρ).bind fun ρ => rns T b ρ) (xs.drop (i + 1)) ρ
          | .bk ρ => .ok (.nx ρ)
          | .rt d ρ => .ok (.rt d ρ)) Z := h'
        refine ⟨_, O2, ρ2, er2, ?_⟩
        cases e : rns T b ρ2 with
        | stk => rw [e] at h'; exact h'
        | exc z =>
          rw [e] at h'
          exact fun cls dx σ3 H3 s3 hs xr => h' cls dx σ3 H3 s3 (fun z => absurd z Bool.false_ne_true) xr
        | ok f =>
          rw [e] at h'
          cases f with
          | nx ρ3 => exact fun A3 O3 σ3 H3 er3 k => ⟨A3, O3, ρ3, er3, fun p z => k _ _ (k2 _ _ (hp' p z)), outS_up (k2.trans k) (fun z => absurd z Bool.false_ne_true) h'⟩
          | ct ρ3 => exact fun A3 O3 σ3 H3 er3 k => ⟨A3, O3, ρ3, er3, fun p z => k _ _ (k2 _ _ (hp' p z)), outS_up (k2.trans k) (fun z => absurd z Bool.false_ne_true) h'⟩
          | bk ρ3 => exact fun A3 O3 σ3 H3 er3 k => h' A3 O3 σ3 H3 er3 (k2.trans k)
          | rt d ρ3 => exact fun v A3 O3 σ3 H3 er3 k hv => h' v A3 O3 σ3 H3 er3 (k2.trans k) hv
end
end PD
end

section
set_option Elab.async false
set_option linter.all false
set_option maxRecDepth 100000
set_option maxHeartbeats 4000000
/-! PD, part 14: statements: writes, errors. -/
namespace PD
open PySem PySem.Spec PyProof.Rows L2
theorem slotE_some {ρ : Env} {i : Nat} {o : OD} (h : slotE ρ i = some o) : ρ[i]? = some (some o) := by
  unfold slotE at h
  cases e : ρ[i]? with
  | none => rw [e] at h; cases h
  | some o' => rw [e] at h; rw [show o' = some o from h]
section
variable {G : Sg} {S : Sx} {T : Tab} {X : Cx} {L : Lo} {W : WX} {ex : ExI} {A₀ : Addr → Prop} {H₀ : Hp} {q : Bool}
theorem attr_name {x f : Str} {p : Pos} (env : PySem.Env) (w : Sem Value) : attributeBase (.Name x p) f env w = w := rfl
/-! xs.append(e) -/
theorem ss_app {i : Nat} {x : Str} {e : Ex} {ee : Expr} {p apos cpos pos : Pos} (P : PX G S T X L W ex) (hi : X.N[i]? = some x) (hv : Vis X.env.scope x) (hd : (x == ("__debug__" : Str)) = false) (hcd : (x == ("__classdict__" : Str)) = false)
    (he : PE X ee (tD G T W ex A₀ H₀ e)) (hs : notStar ee = true) (hl : (apos.endLine == cpos.line) = true) : PS X (.Expr (.Call (.Attribute (.Name x p) "append" apos) [ee] [] cpos) pos) (tS G T W ex A₀ H₀ q (.app i e)) := by
  refine PS.of (ps_expr (pe_bm PySem.F.plainAttrs_list PySem.F.slot_list_append PySem.F.type_list_append mt_append (pe_var hi hv hd hcd) (pa_cons he pa_nil (star_no hs _ _)) rfl (by rw [star_no hs]; rfl) hl (star_no hs _ _) rfl) rfl) fun Z σ H ⟨A, O, ρ, er, h⟩ => ?_
  rw [rn] at h
  split at h
  · rename_i ds e0
    obtain ⟨v, e1, p, xs, rfl, h0, h1, h2⟩ := er.slot i _ (slotE_some e0)
    refine ⟨_, e1, .inl ⟨rfl, xs, .of h1⟩, ?_⟩
    refine seqE er h fun u w H1 _ s1 hw _ h3 => ?_
    obtain ⟨B, O', er2, k2, hw2, hO⟩ := er.keepV s1 hw
    unfold appO at h3
    split at h3
    · rename_i ds2 e2
      obtain ⟨v2, e3, p2, xs2, rfl, j0, j1, j2⟩ := er2.slot i _ (slotE_some e2)
      rw [e1] at e3
      cases e3
      cases c : decide (ds2.length + [u].length ≤ line) with
      | false => rw [c] at h3; exact h3.elim
      | true =>
        rw [c] at h3
        have hz := of_decide_eq_true c
        rw [List.length_singleton] at hz
        have mu : Mut (H1 p) := by rw [j1]; exact trivial
        refine ⟨p, xs2, w, rfl, rfl, j1, by rw [j2.length, ← line_eq]; omega, ?_⟩
        have nB := (er2.own _ _ _ j0).1
        exact h3 _ _ _ _ (er2.wr (Oi := O' i) e1 ⟨0, j0⟩ mu (fun fs z => by rw [j1] at z; cases z) ⟨p, _, rfl, j0, upd_same, (j2.append (HasL.one hw2)).upd mu nB⟩ (fun k q z => .inl z) fun k k' q z z' => (er2.uniq _ _ _ _ _ z z').2) (k2.trans (Keep.wr mu nB))
    · exact h3.elim
  · exact h.elim
/-! self.f = e -/
theorem putF_app {f : Str} {v : V} : ∀ {fl : List (Str × V)}, f ∉ fl.map Prod.fst → putF f v fl = fl ++ [(f, v)]
  | [], _ => rfl
  | (g, x) :: r, h => by
    rw [List.map_cons, List.mem_cons, not_or] at h
    rw [putF, if_neg (fun z => h.1 z.symm), putF_app h.2]
    rfl
theorem putF_set {f : Str} {v : V} : ∀ {fl : List (Str × V)} {j : Nat}, (fl.map Prod.fst).Nodup → (fl.map Prod.fst)[j]? = some f → (putF f v fl).map Prod.fst = fl.map Prod.fst ∧ (putF f v fl).map Prod.snd = (fl.map Prod.snd).set j v
  | [], j, _, e => by simp at e
  | (g, x) :: r, 0, _, e => by
    simp at e
    subst e
    rw [putF, if_pos rfl]
    exact ⟨rfl, rfl⟩
  | (g, x) :: r, j + 1, n, e => by
    rw [List.map_cons, List.nodup_cons] at n
    have e' : (r.map Prod.fst)[j]? = some f := by simpa using e
    have ne : g ≠ f := fun z => n.1 (z ▸ List.mem_of_getElem? e')
    obtain ⟨i1, i2⟩ := putF_set (v := v) n.2 e'
    rw [putF, if_neg ne]
    exact ⟨by rw [List.map_cons, List.map_cons, i1], by rw [List.map_cons, List.map_cons, i2]; rfl⟩
/-- a field of one's own is put -/
theorem put_fld {c : Nat} {f : Str} {j : Nat} {v : V} {fl : List (Str × V)} {n : Nat} (hN : (G.cf c).Nodup) (hj : (G.cf c)[j]? = some f) (hk : fl.map Prod.fst = (G.cf c).take n) (hl : (fl.map Prod.snd).length = n) (hn : j ≤ n) :
    (putF f v fl).map Prod.fst = (G.cf c).take (max n (j + 1)) ∧ (putF f v fl).map Prod.snd = (match decide (j < n) with
      | true => (fl.map Prod.snd).set j v
      | false => fl.map Prod.snd ++ [v]) := by
  have hjc : j < (G.cf c).length := (List.getElem?_eq_some_iff.mp hj).1
  cases d : decide (j < n) with
  | true =>
    have d := of_decide_eq_true d
    obtain ⟨i1, i2⟩ := putF_set (v := v) (f := f) (fl := fl) (j := j) (by rw [hk]; exact hN.sublist (List.take_sublist _ _)) (by rw [hk, List.getElem?_take_of_lt d]; exact hj)
    exact ⟨by rw [i1, hk, Nat.max_eq_left (by omega)], i2⟩
  | false =>
    have d := of_decide_eq_false d
    have e : j = n := by omega
    subst e
    have nm : f ∉ fl.map Prod.fst := by
      rw [hk]
      intro z
      obtain ⟨i, hi, e⟩ := List.mem_iff_getElem?.mp z |>.elim fun i e => (⟨i, (by
        have := (List.getElem?_eq_some_iff.mp e).1
        rw [List.length_take] at this
        omega : i < j), e⟩ : ∃ i, ∃ _ : i < j, ((G.cf c).take j)[i]? = some f)
      rw [List.getElem?_take_of_lt hi] at e
      have := nodup_ix hN e hj
      omega
    rw [putF_app nm]
    refine ⟨?_, by rw [List.map_append]; rfl⟩
    rw [List.map_append, hk, Nat.max_eq_right (by omega), List.take_succ, hj]
    rfl
theorem fset_len {fs : List OF} {j : Nat} {o : OF} (h : j ≤ fs.length) : (setF fs j o).length = max fs.length (j + 1) := by
  unfold setF
  cases d : decide (j < fs.length) with
  | true =>
    have d := of_decide_eq_true d
    show (fs.set j o).length = _
    rw [List.length_set]
    omega
  | false =>
    have d := of_decide_eq_false d
    show (fs ++ [o]).length = _
    rw [List.length_append, List.length_singleton]
    omega
theorem fset_get {α : Type} {fs : List OF} {ws : List α} {j i : Nat} {o o' : OF} {w w' : α} (hl : ws.length = fs.length) (hj : j ≤ fs.length) (e1 : (setF fs j o)[i]? = some o')
    (e2 : (match decide (j < fs.length) with
      | true => ws.set j w
      | false => ws ++ [w])[i]? = some w') : (i = j ∧ o' = o ∧ w' = w) ∨ (i ≠ j ∧ fs[i]? = some o' ∧ ws[i]? = some w') := by
  unfold setF at e1
  cases d : decide (j < fs.length) with
  | true =>
    rw [d] at e1 e2
    have d := of_decide_eq_true d
    have e1 : (fs.set j o)[i]? = some o' := e1
    have e2 : (ws.set j w)[i]? = some w' := e2
    by_cases h : j = i
    · subst h
      rw [List.getElem?_set_self d] at e1
      rw [List.getElem?_set_self (by omega)] at e2
      cases e1
      cases e2
      exact .inl ⟨rfl, rfl, rfl⟩
    · rw [List.getElem?_set_ne h] at e1 e2
      exact .inr ⟨fun z => h z.symm, e1, e2⟩
  | false =>
    rw [d] at e1 e2
    have d := of_decide_eq_false d
    have e1 : (fs ++ [o])[i]? = some o' := e1
    have e2 : (ws ++ [w])[i]? = some w' := e2
    by_cases h : i = j
    · subst h
      have en : i = fs.length := by omega
      rw [en, List.getElem?_append_right (Nat.le_refl _), Nat.sub_self] at e1
      rw [List.getElem?_append_right (by omega), show i - ws.length = 0 by omega] at e2
      cases e1
      cases e2
      exact .inl ⟨rfl, rfl, rfl⟩
    · have hlt : i < fs.length := by
        have := (List.getElem?_eq_some_iff.mp e1).1
        rw [List.length_append, List.length_singleton] at this
        omega
      rw [List.getElem?_append_left hlt] at e1
      rw [List.getElem?_append_left (by omega)] at e2
      exact .inr ⟨h, e1, e2⟩
def fldQ (X : Cx) (y : Str) (v : V) (Z : Ends) (σ : L2.St) : VK := fun x H2 => ∃ a C dx fs, x = .ref a ∧ H2 a = some (.ins C dx fs) ∧ Cls X.K C ∧ NoAttr X.K C y ∧ fs.length < 1000 ∧ Z.nx σ (upd H2 a (.ins C dx (putF y v fs)))
theorem fset_step {y : Str} {e : Ex} {Z : Ends} {σ : L2.St} {H : Hp} (P : PX G S T X L W ex) (F : FiOk G T) (h : tS G T W ex A₀ H₀ q (.fset y e) Z σ H) : sFld X.K (tVar 0) (tD G T W ex A₀ H₀ e) y Z σ H := by
  obtain ⟨A, O, ρ, er, h⟩ := h
  rw [rn] at h
  refine seqE er h fun x v H1 _ s1 hv ho h1 => ?_
  split at h1
  · rename_i c fs e0
    obtain ⟨j, ej, h1⟩ : ∃ j, T.fi c y = some j ∧ outS G W ex A₀ H₀ q A σ H (guardR (decide (j ≤ fs.length) && decide (fs.length < 100)) (.ok (.nx ((keepR ρ (roots e) x).set 0 (some (.oo c (setF fs j (ownO (frs e) x)))))))) Z := by
      cases ej : T.fi c y with
      | none => rw [ej] at h1; exact h1.elim
      | some j => rw [ej] at h1; exact ⟨j, rfl, h1⟩
    cases cc : decide (j ≤ fs.length) && decide (fs.length < 100) with
    | false => rw [cc] at h1; exact h1.elim
    | true =>
      rw [cc] at h1
      obtain ⟨c1, c2⟩ := bb cc
      have c1 := of_decide_eq_true c1
      have c2 := of_decide_eq_true c2
      have hjc := F.at_ c y j ej
      obtain ⟨k1, k2⟩ := P.cls c y (List.mem_of_getElem? hjc)
      have h1 : ∀ A' O' σ' H', ER G ex A₀ H₀ A' O' σ' H' ((keepR ρ (roots e) x).set 0 (some (.oo c (setF fs j (ownO (frs e) x))))) → Keep G A H A' H' → Z.nx σ' H' := h1
      -- whichever it is that is stored
      have fin : ∀ (B : Addr → Prop) (O' : Ow) (Pn : Addr → Prop), ER G ex A₀ H₀ B O' σ H1 (keepR ρ (roots e) x) → Keep G A H B H1 → (∀ H2 p, Mut (H1 p) → ¬ B p → ¬ Pn p → FldOk G B Pn (upd H1 p H2) v (ownO (frs e) x)) →
          (∀ q, Pn q → ¬ B q ∧ (H1 q).isSome = true ∧ H₀ q = none ∧ ∀ j k', ¬ O' j k' q) → tVar 0 σ H1 (fldQ X y v Z σ) := fun B O' Pn er2 kk hf hP => by
        obtain ⟨v0, e1, p, dx, fl, ⟨rfl, hsf⟩, j0, j1, j2, j3, j4⟩ := er2.slot 0 _ (slotE_some e0)
        have mu : Mut (H1 p) := by rw [j1]; exact trivial
        have nB := (er2.own _ _ _ j0).1
        have nP : ¬ Pn p := fun z => (hP p z).2.2.2 _ _ j0
        obtain ⟨q1, q2⟩ := put_fld (v := v) (P.cfN c) hjc j2 j3 c1
        refine ⟨_, e1, p, _, dx, fl, rfl, j1, k1, k2, by rw [List.length_map] at j3; omega, ?_⟩
        refine h1 _ _ _ _ (er2.wr (i := 0) (o' := .oo c (setF fs j (ownO (frs e) x))) (Oi := fun k q => (k = j + 1 ∧ Pn q) ∨ (k ≠ j + 1 ∧ O' 0 k q)) e1 ⟨0, j0⟩ mu (fun fs z => by rw [j1] at z; cases z) ⟨p, dx, putF y v fl, ⟨rfl, hsf⟩, .inr ⟨by omega, j0⟩, upd_same, by rw [q1, fset_len c1], ?_, ?_⟩ (fun k q z => ?_) fun k k' q z z' => ?_) (kk.trans (Keep.wr mu nB))
        · rw [q2, fset_len c1]
          cases d : decide (j < fs.length) with
          | true =>
            have d := of_decide_eq_true d
            show (List.set _ _ _).length = _
            rw [List.length_set, j3]
            omega
          | false =>
            have d := of_decide_eq_false d
            show (_ ++ [v]).length = _
            rw [List.length_append, List.length_singleton, j3]
            omega
        · intro i o w z1 z2
          rw [q2] at z2
          rcases fset_get j3 c1 z1 z2 with ⟨rfl, rfl, rfl⟩ | ⟨hij, g1, g2⟩
          · exact (hf _ p mu nB nP).to (Same.refl _) (fun _ z _ => z) fun _ z => .inl ⟨rfl, z⟩
          · exact ((j4 i o w g1 g2).upd mu nB fun z => by have := (er2.uniq _ _ _ _ _ z j0).2; omega).to (Same.refl _) (fun _ z _ => z) fun _ z => .inr ⟨by omega, z⟩
        · rcases z with ⟨_, z⟩ | ⟨_, z⟩
          · exact .inr (hP q z)
          · exact .inl z
        · rcases z with ⟨e1, z⟩ | ⟨e1, z⟩ <;> rcases z' with ⟨e2, z'⟩ | ⟨e2, z'⟩
          · omega
          · exact absurd z' ((hP q z).2.2.2 _ _)
          · exact absurd z ((hP q z').2.2.2 _ _)
          · exact (er2.uniq _ _ _ _ _ z z').2
      have sh_ : ownO (frs e) x = .sh x → tVar 0 σ H1 (fldQ X y v Z σ) := fun eo => by
        obtain ⟨B, O', er2, k2, hv2, _⟩ := er.keepV s1 hv
        exact fin B O' (fun _ => False) er2 k2 (fun H2 p mu nB _ => by rw [eo]; exact Has.upd mu nB hv2) fun _ z => z.elim
      cases ef : frs e with
      | false => exact sh_ (by rw [ef]; rfl)
      | true =>
        cases x with
        | lst ds =>
          obtain ⟨p, xs, rfl, hp, hl, hh⟩ := ho ef
          obtain ⟨B, O', er2, k2, b1, b2, b3⟩ := er.keep (f := true) s1 hv (fun q => q = p) fun q z zs => by
            subst z
            rw [hp] at zs
            cases zs
          refine fin B O' (fun q => q = p) er2 k2 (fun H2 p' mu nB nP => ?_) fun q z => ?_
          · rw [ef]
            exact FldOk.upd (o := .ol ds) mu nB nP ⟨p, xs, rfl, rfl, hl, hh.mono (fun q z => (b1 q z.1 z.2).elim id fun z => by rw [froz] at z; cases z) (Same.refl _)⟩
          · subst z
            exact ⟨b2 _ rfl, by rw [hl]; rfl, same_none er.same hp, fun j k' zz => by
              have := (er.own _ _ _ (b3 _ _ _ zz)).2.1
              rw [hp] at this
              cases this⟩
        | dct t kvs =>
          obtain ⟨p, rfl, hp, rfl, hl⟩ := ho ef
          obtain ⟨B, O', er2, k2, b1, b2, b3⟩ := er.keep (f := true) s1 hv (fun q => q = p) fun q z zs => by
            subst z
            rw [hp] at zs
            cases zs
          refine fin B O' (fun q => q = p) er2 k2 (fun H2 p' mu nB nP => ?_) fun q z => ?_
          · rw [ef]
            refine FldOk.upd (o := .od t []) mu nB nP ⟨p, rfl, rfl, ?_⟩
            cases t with
            | true => exact ⟨[], hl, rfl, .nil⟩
            | false => exact ⟨[], hl, rfl, .nil⟩
          · subst z
            exact ⟨b2 _ rfl, by rw [hl]; rfl, same_none er.same hp, fun j k' zz => by
              have := (er.own _ _ _ (b3 _ _ _ zz)).2.1
              rw [hp] at this
              cases this⟩
        | _ => exact sh_ (by rw [ef]; rfl)
  · exact h1.elim
theorem ss_fset {x y : Str} {e : Ex} {ee : Expr} {p p' pos : Pos} (P : PX G S T X L W ex) (F : FiOk G T) (hi : X.N[0]? = some x) (hv : Vis X.env.scope x) (hd : (x == ("__debug__" : Str)) = false) (hcd : (x == ("__classdict__" : Str)) = false) (he : PE X ee (tD G T W ex A₀ H₀ e)) :
    PS X (.Assign [.Attribute (.Name x p) y p'] ee pos) (tS G T W ex A₀ H₀ q (.fset y e)) := PS.of (ps_fld (pe_var hi hv hd hcd) he (swaps_other rfl _ _)) fun _ _ _ h => fset_step P F h
/-! o[k] = e -/
theorem putK_rel {κ : Type} [DecidableEq κ] {f : κ → D} {B : Addr → Prop} {H : Hp} (inj : ∀ a b, eqD (f a) (f b) = decide (a = b)) (k : κ) {v : V} {d : D} (hv : Has G B H v d) {kvs : List (κ × V)} {ds : List (D × D)} (h1 : ds.map Prod.fst = kvs.map (fun p => f p.1)) (h2 : HasL G B H (kvs.map Prod.snd) (ds.map Prod.snd)) :
    (PD.putK ds (f k) d).map Prod.fst = (L2.putK kvs k v).map (fun p => f p.1) ∧ HasL G B H ((L2.putK kvs k v).map Prod.snd) ((PD.putK ds (f k) d).map Prod.snd) := by
  have an : ∀ {kvs : List (κ × V)} {ds : List (D × D)}, ds.map Prod.fst = kvs.map (fun p => f p.1) → (ds.any fun p => eqD p.1 (f k)) = kvs.any fun p => decide (p.1 = k) := by
    intro kvs
    induction kvs with
    | nil =>
      intro ds h
      cases ds with
      | nil => rfl
      | cons => simp at h
    | cons p kvs ih =>
      intro ds h
      cases ds with
      | nil => simp at h
      | cons q ds =>
        rw [List.map_cons, List.map_cons] at h
        injection h with e1 e2
        rw [List.any_cons, List.any_cons, ih e2, e1, inj]
  have mp : ∀ {kvs : List (κ × V)} {ds : List (D × D)}, ds.map Prod.fst = kvs.map (fun p => f p.1) → HasL G B H (kvs.map Prod.snd) (ds.map Prod.snd) →
      (ds.map fun p => if eqD p.1 (f k) then (p.1, d) else p).map Prod.fst = (kvs.map fun kv => if kv.1 = k then (kv.1, v) else kv).map (fun p => f p.1) ∧ HasL G B H ((kvs.map fun kv => if kv.1 = k then (kv.1, v) else kv).map Prod.snd) ((ds.map fun p => if eqD p.1 (f k) then (p.1, d) else p).map Prod.snd) := by
    intro kvs
    induction kvs with
    | nil =>
      intro ds h h'
      cases ds with
      | nil => exact ⟨rfl, .nil⟩
      | cons => simp at h
    | cons p kvs ih =>
      intro ds h h'
      cases ds with
      | nil => simp at h
      | cons q ds =>
        rw [List.map_cons, List.map_cons] at h h'
        injection h with e1 e2
        cases h' with
        | cons g1 g2 =>
          obtain ⟨i1, i2⟩ := ih e2 g2
          simp only [List.map_cons]
          rw [e1, inj]
          by_cases z : p.1 = k
          · rw [decide_eq_true z, if_pos rfl, if_pos z]
            exact ⟨by rw [i1], .cons hv i2⟩
          · rw [decide_eq_false z, if_neg Bool.false_ne_true, if_neg z]
            exact ⟨by rw [i1, e1], .cons g1 i2⟩
  unfold PD.putK L2.putK
  rw [an h1]
  by_cases z : (kvs.any fun p => decide (p.1 = k)) = true
  · rw [if_pos z, if_pos z]
    exact mp h1 h2
  · rw [if_neg z, if_neg z]
    refine ⟨by rw [List.map_append, List.map_append, h1]; rfl, ?_⟩
    rw [List.map_append, List.map_append]
    exact h2.append (HasL.one hv)
def rSetU : TSet := fun o i v H Q => rSetL o i v H Q ∨ rSetD o i v H Q
theorem set_any (hu : X.A.units + 64 < cLine) : PSet X rSetU := by
  intro pins s σ H o i v ov iv u Q I ro ri rv h
  rcases h with h | h
  · exact set_list pins s σ H o i v ov iv u Q I ro ri rv h
  · exact set_dict (by omega) pins s σ H o i v ov iv u Q I ro ri rv h
theorem subO_exc {o : OF} {k x : D} {e : Xc} (h : subO o k x = .exc e) : False := by
  unfold subO at h
  split at h <;> first
    | cases h
    | (have h := (guardR_exc h).2; cases h)
    | (rcases bind_exc h with h | ⟨_, _, h⟩
       · exact ofO_exc h
       · cases h)
theorem sub_fld {B B' P : Addr → Prop} {H : Hp} {w v yv : V} {o o' : OF} {x y : D} (hf : FldOk G B P H w o) (hv : Has G B H v x) (hy : Has G B' H yv y) (e : subO o y x = .ok o') :
    ∃ p ho, w = .ref p ∧ P p ∧ Mut (H p) ∧ (∀ fs, H p ≠ some (.xd fs)) ∧ (∀ Q : Hp → Prop, Q (upd H p ho) → rSetU w yv v H Q) ∧ (¬ B p → FldOk G B P (upd H p ho) w o') := by
  cases o with
  | sh d => cases e
  | ol ds =>
    have hj : ∃ j, y = .int j := by cases y <;> first | exact ⟨_, rfl⟩ | cases e
    obtain ⟨j, rfl⟩ := hj
    obtain ⟨n, e1, e⟩ := bind_ok e
    cases e
    have e1 := ofO_ok e1
    obtain ⟨p, xs, rfl, h0, h1, h2⟩ := hf
    cases hy
    have mu : Mut (H p) := by rw [h1]; exact trivial
    refine ⟨p, .lst (xs.set n v), rfl, h0, mu, fun fs z => (by rw [h1] at z; cases z), fun Q hq => .inl ⟨p, xs, j, n, rfl, rfl, h1, by rw [h2.length]; exact e1, hq⟩, fun nB => ⟨p, _, rfl, h0, upd_same, (h2.set n hv).upd mu nB⟩⟩
  | od t kvs =>
    have e : guardR (keyOk t y && decide (kvs.length < line)) (.ok (.od t (PD.putK kvs y x))) = .ok o' := e
    obtain ⟨c, e⟩ := guardR_ok e
    cases e
    obtain ⟨c1, c2⟩ := bb c
    have c2 := of_decide_eq_true c2
    obtain ⟨p, rfl, h0, h3⟩ := hf
    cases t with
    | false =>
      obtain ⟨kv, h1, h2, h3⟩ := h3
      obtain ⟨key, e1, e2⟩ := key_int hy c1
      subst e1 e2
      have mu : Mut (H p) := by rw [h1]; exact trivial
      have hn := congrArg List.length h2
      rw [List.length_map, List.length_map] at hn
      obtain ⟨q1, q2⟩ := putK_rel eqD_key key hv h2 h3
      exact ⟨p, .dK (L2.putK kv key v), rfl, h0, mu, fun fs z => (by rw [h1] at z; cases z), fun Q hq => .inr ⟨p, _, rfl, .inl ⟨kv, key, h1, rfl, by rw [← hn, ← line_eq]; exact c2, rfl⟩, hq⟩, fun nB => ⟨p, rfl, h0, _, upd_same, q1, q2.upd mu nB⟩⟩
    | true =>
      obtain ⟨kv, h1, h2, h3⟩ := h3
      obtain ⟨ks, b, e1, e2, e3⟩ := key_tup hy c1
      subst e1 e2
      have mu : Mut (H p) := by rw [h1]; exact trivial
      have hn := congrArg List.length h2
      rw [List.length_map, List.length_map] at hn
      obtain ⟨q1, q2⟩ := putK_rel (f := fun ks : List Key => D.tup (ks.map keyD)) eqD_keyT ks hv h2 h3
      exact ⟨p, .dT (L2.putK kv ks v), rfl, h0, mu, fun fs z => (by rw [h1] at z; cases z), fun Q hq => .inr ⟨p, _, rfl, .inr ⟨kv, ks, b, h1, rfl, e3, by rw [← hn, ← line_eq]; exact c2, rfl⟩, hq⟩, fun nB => ⟨p, rfl, h0, _, upd_same, q1, q2.upd mu nB⟩⟩
theorem asg_sub {o i : Expr} {p : Pos} (h : notSlice i = true) (env : PySem.Env) : ∀ v, assign (.Subscript o i p) env v = (do
      let ov ← holding [v] (eval o env)
      let iv ← holding [v, ov] (eval i env)
      standAt p
      holding [v, ov, iv] (setItem ov iv v)
      release [v, ov, iv] []) := fun v => by
  cases i <;> first
    | exact absurd h Bool.false_ne_true
    | rfl
theorem swapped_sub {o i e : Expr} {p : Pos} (env : PySem.Env) : swappedStores [.Subscript o i p] e env = pure none := by
  cases e <;> rfl
theorem seqE' {a : Ex} {A A' : Addr → Prop} {O : Ow} {σ : L2.St} {H H' : Hp} {ρ : Env} {g : D → R Fl} {Z : Ends} {R : V → Hp → Prop} (er : ER G ex A₀ H₀ A O σ H ρ) (s0 : Same H' H) (h : outS G W ex A₀ H₀ q A' σ H' ((ev T a ρ).bind g) Z)
    (k : ∀ x v H1, ev T a ρ = .ok x → Same H H1 → Has G (fr (wi A O (roots a)) H) H1 v x → (frs a = true → Own1 G (wi A O (roots a)) H H1 v x) → outS G W ex A₀ H₀ q A' σ H' (g x) Z → R v H1) : tD G T W ex A₀ H₀ a σ H R := by
  refine ⟨A, O, ρ, er, ?_⟩
  cases e : ev T a ρ with
  | stk => rw [e] at h; exact h
  | exc x =>
    rw [e] at h
    exact fun cls dx H2 s2 r => h cls dx σ H2 (same_tr er.same s2) (fun _ => ⟨rfl, same_tr s0 s2⟩) r
  | ok x =>
    rw [e] at h
    exact fun v H1 s1 hv o => k x v H1 e s1 hv o h
theorem fsub_step {z : Str} {k e : Ex} {Z : Ends} {σ : L2.St} {H : Hp} (P : PX G S T X L W ex) (F : FiOk G T) (h : tS G T W ex A₀ H₀ q (.fsub z k e) Z σ H) : tAsg (tD G T W ex A₀ H₀ e) (gSub (tFld X.K (tVar 0) z) (tD G T W ex A₀ H₀ k) rSetU) Z σ H := by
  obtain ⟨A, O, ρ, er, h⟩ := h
  rw [rn] at h
  refine seqE er h fun x v H1 _ s1 hv ho h1 => ?_
  obtain ⟨B, O', er2, k2', hv2, hO⟩ := er.keepV s1 hv
  generalize keepR ρ (roots e) x = ρ2 at er2 h1
  split at h1
  · rename_i c fs e0
    obtain ⟨v0, e1, p, dx, fl, ⟨rfl, hsf⟩, j0, j1, j2, j3, j4⟩ := er2.slot 0 _ (slotE_some e0)
    cases ej : T.fi c z with
    | none => rw [ej] at h1; exact h1.elim
    | some j =>
      rw [ej] at h1
      have hjc := F.at_ c z j ej
      obtain ⟨k1, k2⟩ := P.cls c z (List.mem_of_getElem? hjc)
      have h1 : outS G W ex A₀ H₀ q A σ H (match fs[j]? with
        | some o => (ev T k ρ).bind fun y => guardR (froz y) ((subO o y x).bind fun o' => .ok (.nx (ρ2.set 0 (some (.oo c (fs.set j o'))))))
        | none => .stk) Z := h1
      cases eo : fs[j]? with
      | none => rw [eo] at h1; exact h1.elim
      | some o =>
        rw [eo] at h1
        have hj : j < fs.length := (List.getElem?_eq_some_iff.mp eo).1
        obtain ⟨w, hw⟩ : ∃ w, (fl.map Prod.snd)[j]? = some w := ⟨_, List.getElem?_eq_getElem (by omega)⟩
        have hn : (fl.map Prod.fst)[j]? = some z := by rw [j2, List.getElem?_take_of_lt hj]; exact hjc
        refine ⟨.ref p, e1, p, _, dx, fl, w, rfl, j1, k1, k2, lookup_at (by rw [j2]; exact (P.cfN c).sublist (List.take_sublist _ _)) hn hw, ?_⟩
        refine seqE' (er.go s1) s1 h1 fun y yv H2 _ s2 hy _ h2 => ?_
        cases cf : froz y with
        | false => rw [cf] at h2; exact h2.elim
        | true =>
          rw [cf] at h2
          cases es : subO o y x with
          | stk => rw [es] at h2; exact h2.elim
          | exc e => exact (subO_exc es).elim
          | ok o' =>
            rw [es] at h2
            have er3 := er2.go s2
            have mu0 : Mut (H2 p) := by rw [s2 _ _ j1]; exact trivial
            have kB : ∀ q, B q → (H1 q).isSome = true → fr B H1 q := fun q z _ => .inl z
            obtain ⟨p', ho', rfl, hP, mu, nx, hq, hf⟩ := sub_fld ((j4 j o w eo hw).to s2 kB fun _ z => z) (hv2.to s2 kB) hy es
            refine hq _ ?_
            have nB := (er3.own _ _ _ hP).1
            have np : p ≠ p' := fun z => by have := (er3.uniq _ _ _ _ _ j0 (z ▸ hP)).2; omega
            refine h2 _ _ _ _ (er3.wr (i := 0) (o' := .oo c (fs.set j o')) (Oi := O' 0) e1 ⟨_, hP⟩ mu nx ⟨p, dx, fl, ⟨rfl, hsf⟩, j0, by rw [upd_ne np]; exact s2 _ _ j1, by rw [List.length_set]; exact j2, by rw [List.length_set]; exact j3, fun i o2 w2 g1 g2 => ?_⟩ (fun k q z => .inl z) fun k k' q z z' => (er3.uniq _ _ _ _ _ z z').2) ((k2'.trans (Keep.of s2 kB)).trans (Keep.wr mu nB))
            by_cases hij : j = i
            · subst hij
              rw [List.getElem?_set_self hj] at g1
              cases g1
              rw [hw] at g2
              cases g2
              exact hf nB
            · rw [List.getElem?_set_ne hij] at g1
              exact ((j4 i o2 w2 g1 g2).to s2 kB fun _ z => z).upd mu nB fun z => by have := (er3.uniq _ _ _ _ _ z hP).2; omega
  · exact h1.elim
theorem ss_fsub {x z : Str} {k e : Ex} {ek ee : Expr} {p p1 p2 pos : Pos} (P : PX G S T X L W ex) (F : FiOk G T) (hi : X.N[0]? = some x) (hv : Vis X.env.scope x) (hd : (x == ("__debug__" : Str)) = false) (hcd : (x == ("__classdict__" : Str)) = false) (hk : PE X ek (tD G T W ex A₀ H₀ k)) (he : PE X ee (tD G T W ex A₀ H₀ e)) (hs : notSlice ek = true) :
    PS X (.Assign [.Subscript (.Attribute (.Name x p) z p1) ek p2] ee pos) (tS G T W ex A₀ H₀ q (.fsub z k e)) :=
  PS.of (ps_asg he (pg_sub (pe_fld (pe_var hi hv hd hcd) rfl) hk (set_any P.un) (asg_sub hs _)) (show swapsWith ee (some (.Subscript (.Attribute (.Name x p) z p1) ek p2)) pos.line X.env = pure false from swaps_other rfl _ _) (swapped_sub _) rfl) fun _ _ _ h => fsub_step P F h
/-! raise X() -/
theorem pmk_own0 {x : Str} {C : Addr} {p pos : Pos} {bmB : List Value} {B newId initId : String} (F : ExcBaseFacts B newId initId bmB) (q : PySem.W.excIn X.K C bmB newId = true) (gC : X.mg x = some (.ref C)) (kC : PySem.W.keepIn X.K (.ref C) = true) (r : Raises X (.ref C)) (hg : Gl X x)
    (hdb : (x == ("__debug__" : Str)) = false) : PMk X (.Call (.Name x p) [] [] pos) (fun _ H Q => Q (.ref C) none H) := by
  intro pins s σ H Q I h
  refine wpAny_Call_Name_kw (ld_glob I hg gC ?_ hdb)
  refine PySem.W.callWith_K0 I.kIn kC ?_
  show wpAny _ _ (call (.ref C) []) _ _ _
  obtain ⟨bm, N, nm, qn, bs, hdct, sn, sub, ab, col, dd, k0, k1, k2, k3, k5, mN, hC, hN, hni, T⟩ := exc_obj I.kIn q
  obtain ⟨hp, g, d, t, os⟩ := s
  exact wpAny_call_exc_subT F T hC hN hni (fun h' e hm => mk_of I hm r h (I.hok.gone hm.new)) (Nat.zero_le _)
theorem ss_rse {c : Nat} {x : Str} {p cpos pos : Pos} (P : PX G S T X L W ex) (hc : L.cm = true) (hx : S.ename[c]? = some x) (hg : Gl X x) (hd : (x == ("__debug__" : Str)) = false) : PS X (.Raise (some (.Call (.Name x p) [] [] cpos)) none pos) (tS G T W ex A₀ H₀ q (.rse c .nil)) := by
  obtain ⟨h1, h2, h3, h4, h5⟩ := P.exn c x hx
  refine PS.of (ps_raise (P.calm hc) P.tk (pmk_own0 F.excBase_ValueError h2 h1 h3 (raises_own h4 h5) hg hd)) fun Z σ H ⟨A, O, ρ, er, h⟩ => ?_
  rw [rn] at h
  exact h _ _ _ _ er.same (fun _ => ⟨rfl, Same.refl H⟩) ⟨⟨by rw [← P.enE]; exact (List.getElem?_eq_some_iff.mp hx).1, rfl⟩, rfl, .inl ⟨rfl, rfl⟩⟩
/-! isinstance(e, C), e the suite's error -/
theorem se_isE {i c : Nat} {x y : Str} {p p1 p2 pos : Pos} (P : PX G S T X L W ex) (hcm : L.cm = false) (hi : X.N[i]? = some x) (hv : Vis X.env.scope x) (hd : (x == ("__debug__" : Str)) = false) (hcd : (x == ("__classdict__" : Str)) = false) (hc : S.ename[c]? = some y) (hg : Gl X y) (hd2 : (y == ("__debug__" : Str)) = false)
    (hf2 : ("isinstance" : Str) ∈ S.free) (hg2 : Gl X "isinstance") : PE X (.Call (.Name "isinstance" p) [.Name x p1, .Name y p2] [] pos) (tD G T W ex A₀ H₀ (.isE i c)) := by
  obtain ⟨m1, _⟩ := P.exn c y hc
  refine ⟨fun pins s σ H Q I ⟨A, O, ρ, er, h⟩ => ?_⟩
  rw [ev] at h
  split at h
  · rename_i k e0
    obtain ⟨v, e1, a, cls, d, e2, rfl, ⟨hk, rfl⟩, _, h3⟩ := er.slot i _ (slotE_some e0)
    have hd0 : d = none := by
      rcases h3 with ⟨_, h⟩ | ⟨_, _, _, h, _⟩
      · exact h
      · cases h
    rw [← P.enE] at hk
    have C := P.isx hcm a _ d e2 k rfl hd0 hk
    have kc := P.kit k c hk (List.getElem?_eq_some_iff.mp hc).1
    refine (pe_callB C hg2 (P.free _ hf2) boot_isinstance (pa_cons (pe_var hi hv hd hcd) (pa_cons (pe_glob (v := .ref (G.ea c)) hg m1 rfl hd2) pa_nil)) (by decide) (by decide)).run pins s σ H Q I ⟨_, e1, .ref (G.ea c), .ref (G.ea c), T.sub k c, rfl, fun u r => r, kc, Res.bl h⟩
  · exact h.elim
theorem se_isV {i : Nat} {x : Str} {p p1 p2 pos : Pos} (P : PX G S T X L W ex) (hcm : L.cm = false) (hi : X.N[i]? = some x) (hv : Vis X.env.scope x) (hd : (x == ("__debug__" : Str)) = false) (hcd : (x == ("__classdict__" : Str)) = false) (hf : ("ValueError" : Str) ∈ S.free) (hg : Gl X "ValueError")
    (hf2 : ("isinstance" : Str) ∈ S.free) (hg2 : Gl X "isinstance") : PE X (.Call (.Name "isinstance" p) [.Name x p1, .Name "ValueError" p2] [] pos) (tD G T W ex A₀ H₀ (.isE i 1000)) := by
  refine ⟨fun pins s σ H Q I ⟨A, O, ρ, er, h⟩ => ?_⟩
  rw [ev] at h
  split at h
  · rename_i k e0
    obtain ⟨v, e1, a, cls, d, e2, rfl, ⟨hk, rfl⟩, _, h3⟩ := er.slot i _ (slotE_some e0)
    have hd0 : d = none := by
      rcases h3 with ⟨_, h⟩ | ⟨_, _, _, h, _⟩
      · exact h
      · cases h
    rw [← P.enE] at hk
    have C := P.isx hcm a _ d e2 k rfl hd0 hk
    have kc := P.kitV k hk
    refine (pe_callB C hg2 (P.free _ hf2) boot_isinstance (pa_cons (pe_var hi hv hd hcd) (pa_cons (pe_bltn (v := .ty "ValueError") hg (P.free _ hf) L2.boot_ValueError rfl) pa_nil)) (by decide) (by decide)).run pins s σ H Q I ⟨_, e1, .ty "ValueError", .type "ValueError", T.sub k 1000, rfl, fun u r => r, kc, Res.bl h⟩
  · exact h.elim
/-! try -/
theorem SlotOk.ex' {A : Addr → Prop} {O : Nat → Addr → Prop} {H : Hp} {v : V} {ex' : ExI} (h0 : ex.e = none) (h1 : ex'.s = ex.s) : ∀ {o : OD}, SlotOk G ex A O H v o → SlotOk G ex' A O H v o
  | .f x, h => h
  | .oo c fs, ⟨p, dx, fl, e, h⟩ => ⟨p, dx, fl, ⟨e.1, e.2.trans h1.symm⟩, h⟩
  | .xc x, ⟨a, cls, d, e1, _⟩ => by rw [h0] at e1; cases e1
theorem ER.ex' {A : Addr → Prop} {O : Ow} {σ : L2.St} {H : Hp} {ρ : Env} {ex' : ExI} (h0 : ex.e = none) (h1 : ex'.s = ex.s) (er : ER G ex A₀ H₀ A O σ H ρ) : ER G ex' A₀ H₀ A O σ H ρ :=
  ⟨er.len, fun j o e => let ⟨v, e1, e2⟩ := er.slot j o e; ⟨v, e1, e2.ex' h0 h1⟩, er.own, er.uniq, er.sub, er.same⟩
theorem PX.tr {pn : List (Addr × Obj)} {xe : Value → Shared → Prop} {W' : WX} (P : PX G S T X L W ex) (hc : L.cm = true) (tk : Takes (X.tr pn xe) W') : PX G S T (X.tr pn xe) L W' ex where
  hG := P.hG
  calm := P.calm
  fnE := P.fnE
  un := P.un
  nm := P.nm
  nd := P.nd
  esc := P.esc
  tk := tk
  fns := P.fns
  mks := P.mks
  gi := P.gi
  gs := P.gs
  free := P.free
  cls := P.cls
  cfS := P.cfS
  cfN := P.cfN
  exn := P.exn
  enE := P.enE
  ini := P.ini
  kit := P.kit
  kitV := P.kitV
  isx := fun z => absurd z (by rw [hc]; exact fun h => nomatch h)
  exm := P.exm
def Lo.suite (L : Lo) : Lo := ⟨L.sc, L.fn, false⟩
theorem PX.suite {a : Addr} {oe : Obj} {pn : List (Addr × Obj)} {cls : Value} {d : Option Addr} (P : PX G S T X L W ex) (hE : ∀ k, k < S.ename.length → ExcC X.K (G.ea k)) (hz : Zc cls d oe) (hf : ∃ vs, oe.data = .fields vs) : PX G S T (X.suite a ((a, oe) :: pn)) L.suite noW ⟨some (a, cls, d), ex.s⟩ where
  hG := P.hG
  calm := fun z => absurd z (fun h => nomatch h)
  fnE := P.fnE
  un := P.un
  nm := P.nm
  nd := P.nd
  esc := P.esc
  tk := takes0
  fns := fun z => absurd z (fun h => nomatch h)
  mks := fun z => absurd z (fun h => nomatch h)
  gi := P.gi
  gs := P.gs
  free := P.free
  cls := P.cls
  cfS := P.cfS
  cfN := P.cfN
  exn := P.exn
  enE := P.enE
  ini := P.ini
  kit := P.kit
  kitV := P.kitV
  isx := fun _ a' cls' d' e k hk hd hl => by
    cases e
    subst hk hd
    exact call_isE (hE k hl) hz hf
  exm := P.exm
theorem ER.noX {A : Addr → Prop} {O : Ow} {σ : L2.St} {H : Hp} {ρ : Env} {ex' : ExI} (er : ER G ex' A₀ H₀ A O σ H ρ) (hs : ex'.s = ex.s) : ER G ex A₀ H₀ A O σ H (ρ.map noXc) where
  len := by rw [List.length_map]; exact er.len
  slot := fun j o e => by
    rw [List.getElem?_map] at e
    obtain ⟨o1, e1, e2⟩ := Option.map_eq_some_iff.mp e
    cases o1 with
    | none => cases e2
    | some o1 =>
      obtain ⟨v, k1, k2⟩ := er.slot j o1 e1
      cases o1 with
      | f x => cases e2; exact ⟨v, k1, k2⟩
      | oo c fs =>
        cases e2
        obtain ⟨p, dx, fl, ⟨m1, m2⟩, m3⟩ := k2
        exact ⟨v, k1, p, dx, fl, ⟨m1, by rw [← hs]; exact m2⟩, m3⟩
      | xc x => cases e2
  own := er.own
  uniq := er.uniq
  sub := er.sub
  same := er.same
theorem ss_tryA {b s : Sts} {c i : Nat} {x n : Str} {sb suite : List Stmt} {b₀ : Stmt} {np pos pos' : Pos} (P : PY G S T X L W ex) (hex : ex.e = none) (hc : L.cm = true) (hi : X.N[i]? = some n) (hln : X.env.kindOf n = some .local) (hx : S.ename[c]? = some x) (hg : Gl X x) (hd : (x == ("__debug__" : Str)) = false)
    (hb : ∀ (W' : WX) (pn : List (Addr × Obj)) (xe : Value → Shared → Prop), Takes (X.tr pn xe) W' → PassesOwn (model X.prog X.w) X.A X.env xe → PSs (X.tr pn xe) sb (tSs G T W' ex A₀ H₀ true b))
    (hsu : ∀ (a : Addr) (oe : Obj) (cls : Value) (d : Option Addr) (pn : List (Addr × Obj)), Zc cls d oe → (∃ vs, oe.data = .fields vs) → PSs (X.suite a ((a, oe) :: pn)) (b₀ :: suite) (tSs G T noW ⟨some (a, cls, d), ex.s⟩ A₀ H₀ false s)) :
    PS X (.Try sb [.ExceptHandler (some (.Name x np)) (some n) (b₀ :: suite) pos'] [] [] pos) (tS G T W ex A₀ H₀ q (.tryA b c i s)) := by
  have hcl : c < S.ename.length := (List.getElem?_eq_some_iff.mp hx).1
  refine PS.of (ps_try_as (P.hs hc) (P.hf hc) (by rw [P.px.nm]; exact P.px.nd) hi hln (c := .ref (G.ea c)) ⟨hg, hd, .inl (P.px.exn c x hx).1⟩ P.px.tk hb hsu) fun Z σ H ⟨A, O, ρ, er, h⟩ => ?_
  rw [rn] at h
  refine ⟨A, O, ρ, er, ?_⟩
  cases e : rns T b ρ with
  | stk => rw [e] at h; exact h
  | ok f =>
    rw [e] at h
    cases f with
    | nx ρ1 => exact h
    | bk ρ1 => exact h
    | ct ρ1 => exact h
    | rt d ρ1 => exact h
  | exc z =>
    rw [e] at h
    obtain ⟨k, as⟩ := z
    intro cls dx σ' H' sH hq xr
    obtain ⟨rfl, sHH⟩ := hq rfl
    have xr' := xr
    obtain ⟨⟨hk, rfl⟩, _, _⟩ := xr'
    rw [← P.px.enE] at hk
    refine ⟨T.sub k c, P.px.exm k c hk hcl, fun eb a ha => ?_, fun eb => ?_⟩
    · have h : outS G W ex A₀ H₀ q A σ' H (match T.sub k c with
        | true => (noExc (rns T s (ρ.set i (some (.xc (.mk k as)))))).bind fun f => (match f with
          | .rt d ρ' => .ok (.rt d (ρ'.map fun _ => none))
          | .nx ρ' => .ok (.nx ((ρ'.set i none).map noXc))
          | _ => .stk)
        | false => .exc (.mk k as)) Z := h
      rw [eb] at h
      have er1 : ER G ⟨some (a, Value.ref (G.ea k), dx), ex.s⟩ A₀ H₀ (fr A H) O σ' H' ρ := (er.go sHH).ex' hex rfl
      have er2 := er1.set (i := i) (o := .xc (.mk k as)) (v := .ref a) (Oi := fun _ _ => False) ⟨a, _, dx, rfl, rfl, xr⟩ (fun _ _ z => z.elim) (fun _ _ _ _ z => z.elim) (fun _ _ _ z => z.elim)
      refine ⟨_, _, _, er2, ?_⟩
      cases es : rns T s (ρ.set i (some (.xc (.mk k as)))) with
      | stk => rw [es] at h; exact h
      | exc z => rw [es] at h; exact h.elim
      | ok f =>
        rw [es] at h
        cases f with
        | nx ρ1 => exact fun A' O' σ2 H2 er3 kk => h A' O' _ H2 ((er3.wipe1 (i := i) (σ' := σ2.set i none) (by rw [List.length_set]) fun j v hj e => by rw [List.getElem?_set_ne (fun z => hj z.symm)]; exact e).noX rfl) ((Keep.of sHH fun q z _ => .inl z).trans kk)
        | bk ρ1 => exact h.elim
        | ct ρ1 => exact h.elim
        | rt d ρ1 =>
          intro v A' O' σ2 H2 er3 kk hv
          refine h v A' (fun _ _ _ => False) σ2 H2 ⟨by rw [List.length_map]; exact er3.len, fun j o e => ?_, fun _ _ _ z => z.elim, fun _ _ _ _ _ z => z.elim, er3.sub, er3.same⟩ ((Keep.of sHH fun q z _ => .inl z).trans kk) hv
          rw [List.getElem?_map] at e
          cases hr : ρ1[j]? with
          | none => rw [hr] at e; cases e
          | some o => rw [hr] at e; cases e
    · have h : outS G W ex A₀ H₀ q A σ' H (match T.sub k c with
        | true => (noExc (rns T s (ρ.set i (some (.xc (.mk k as)))))).bind fun f => (match f with
          | .rt d ρ' => .ok (.rt d (ρ'.map fun _ => none))
          | .nx ρ' => .ok (.nx ((ρ'.set i none).map noXc))
          | _ => .stk)
        | false => .exc (.mk k as)) Z := h
      rw [eb] at h
      exact h _ _ _ _ sH (fun _ => ⟨rfl, sHH⟩) xr
theorem ss_tryO {b s : Sts} {c : Nat} {x : Str} {sb suite : List Stmt} {b₀ : Stmt} {np pos pos' : Pos} (P : PY G S T X L W ex) (hex : ex.e = none) (hc : L.cm = true) (hx : S.ename[c]? = some x) (hg : Gl X x) (hd : (x == ("__debug__" : Str)) = false)
    (hb : ∀ (W' : WX) (pn : List (Addr × Obj)) (xe : Value → Shared → Prop), Takes (X.tr pn xe) W' → PassesOwn (model X.prog X.w) X.A X.env xe → PSs (X.tr pn xe) sb (tSs G T W' ex A₀ H₀ true b))
    (hsu : ∀ (a : Addr) (oe : Obj) (cls : Value) (d : Option Addr) (pn : List (Addr × Obj)), Zc cls d oe → (∃ vs, oe.data = .fields vs) → PSs (X.suite a ((a, oe) :: pn)) (b₀ :: suite) (tSs G T noW ⟨some (a, cls, d), ex.s⟩ A₀ H₀ false s)) :
    PS X (.Try sb [.ExceptHandler (some (.Name x np)) none (b₀ :: suite) pos'] [] [] pos) (tS G T W ex A₀ H₀ q (.tryO b c s)) := by
  have hcl : c < S.ename.length := (List.getElem?_eq_some_iff.mp hx).1
  refine PS.of (ps_try_only (P.hs hc) (P.hf hc) (c := .ref (G.ea c)) ⟨hg, hd, .inl (P.px.exn c x hx).1⟩ P.px.tk hb hsu) fun Z σ H ⟨A, O, ρ, er, h⟩ => ?_
  rw [rn] at h
  refine ⟨A, O, ρ, er, ?_⟩
  cases e : rns T b ρ with
  | stk => rw [e] at h; exact h
  | ok f =>
    rw [e] at h
    cases f with
    | nx ρ1 => exact h
    | bk ρ1 => exact h
    | ct ρ1 => exact h
    | rt d ρ1 => exact h
  | exc z =>
    rw [e] at h
    obtain ⟨k, as⟩ := z
    intro cls dx σ' H' sH hq xr
    obtain ⟨rfl, sHH⟩ := hq rfl
    have xr' := xr
    obtain ⟨⟨hk, rfl⟩, _, _⟩ := xr'
    rw [← P.px.enE] at hk
    have h : outS G W ex A₀ H₀ q A σ' H (match T.sub k c with
      | true => (noExc (rns T s ρ)).bind fun f => (match f with
        | .rt d ρ' => .ok (.rt d (ρ'.map fun _ => none))
        | .nx ρ' => .ok (.nx (ρ'.map noXc))
        | _ => .stk)
      | false => .exc (.mk k as)) Z := h
    refine ⟨T.sub k c, P.px.exm k c hk hcl, fun eb a ha => ?_, fun eb => ?_⟩
    · rw [eb] at h
      have er1 : ER G ⟨some (a, Value.ref (G.ea k), dx), ex.s⟩ A₀ H₀ (fr A H) O σ' H' ρ := (er.go sHH).ex' hex rfl
      refine ⟨_, _, _, er1, ?_⟩
      cases es : rns T s ρ with
      | stk => rw [es] at h; exact h
      | exc z => rw [es] at h; exact h.elim
      | ok f =>
        rw [es] at h
        cases f with
        | nx ρ1 => exact fun A' O' σ2 H2 er3 kk => h A' O' _ H2 (er3.noX rfl) ((Keep.of sHH fun q z _ => .inl z).trans kk)
        | bk ρ1 => exact h.elim
        | ct ρ1 => exact h.elim
        | rt d ρ1 =>
          intro v A' O' σ2 H2 er3 kk hv
          refine h v A' (fun _ _ _ => False) σ2 H2 ⟨by rw [List.length_map]; exact er3.len, fun j o e => ?_, fun _ _ _ z => z.elim, fun _ _ _ _ _ z => z.elim, er3.sub, er3.same⟩ ((Keep.of sHH fun q z _ => .inl z).trans kk) hv
          rw [List.getElem?_map] at e
          obtain ⟨_, _, e2⟩ := Option.map_eq_some_iff.mp e
          cases e2
    · rw [eb] at h
      exact h _ _ _ _ sH (fun _ => ⟨rfl, sHH⟩) xr
end
end PD
end

section
set_option Elab.async false
set_option linter.all false
set_option maxRecDepth 100000
set_option maxHeartbeats 4000000
/-! PD, part 15: xs[k] = e, d[k] = e, xs += e. -/
namespace PD
open PySem PySem.Spec PyProof.Rows L2
section
variable {G : Sg} {S : Sx} {T : Tab} {X : Cx} {L : Lo} {W : WX} {ex : ExI} {A₀ : Addr → Prop} {H₀ : Hp} {q : Bool}
theorem sub_step {i : Nat} {k e : Ex} {Z : Ends} {σ : L2.St} {H : Hp} (h : tS G T W ex A₀ H₀ q (.sub i k e) Z σ H) : tAsg (tD G T W ex A₀ H₀ e) (gSub (tVar i) (tD G T W ex A₀ H₀ k) rSetU) Z σ H := by
  obtain ⟨A, O, ρ, er, h⟩ := h
  rw [rn] at h
  refine seqE er h fun x v H1 _ s1 hv ho h1 => ?_
  obtain ⟨B, O', er2, k2', hv2, hO⟩ := er.keepV s1 hv
  generalize keepR ρ (roots e) x = ρ2 at er2 h1
  split at h1
  · rename_i o e0
    obtain ⟨w, e1, hw⟩ := er2.slot i _ (slotE_some e0)
    refine ⟨w, e1, ?_⟩
    refine seqE' (er.go s1) s1 h1 fun y yv H2 _ s2 hy _ h2 => ?_
    cases cf : froz y with
    | false => rw [cf] at h2; exact h2.elim
    | true =>
      rw [cf] at h2
      cases es : subO o y x with
      | stk => rw [es] at h2; exact h2.elim
      | exc e => exact (subO_exc es).elim
      | ok o' =>
        rw [es] at h2
        have er3 := er2.go s2
        have kB : ∀ q, B q → (H1 q).isSome = true → fr B H1 q := fun q z _ => .inl z
        obtain ⟨p', ho', rfl, hP, mu, nx, hq, hf⟩ := sub_fld (FldOk.to (o := o) s2 kB (fun _ z => z) hw) (hv2.to s2 kB) hy es
        refine hq _ ?_
        have nB := (er3.own _ _ _ hP).1
        exact h2 _ _ _ _ (er3.wr (i := i) (o' := .f o') (Oi := O' i) e1 ⟨_, hP⟩ mu nx (hf nB) (fun k q z => .inl z) fun k k' q z z' => (er3.uniq _ _ _ _ _ z z').2) ((k2'.trans (Keep.of s2 kB)).trans (Keep.wr mu nB))
  · exact h1.elim
theorem ss_sub {i : Nat} {x : Str} {k e : Ex} {ek ee : Expr} {p p2 pos : Pos} (P : PX G S T X L W ex) (hi : X.N[i]? = some x) (hv : Vis X.env.scope x) (hd : (x == ("__debug__" : Str)) = false) (hcd : (x == ("__classdict__" : Str)) = false) (hk : PE X ek (tD G T W ex A₀ H₀ k)) (he : PE X ee (tD G T W ex A₀ H₀ e)) (hs : notSlice ek = true) :
    PS X (.Assign [.Subscript (.Name x p) ek p2] ee pos) (tS G T W ex A₀ H₀ q (.sub i k e)) :=
  PS.of (ps_asg he (pg_sub (pe_var hi hv hd hcd) hk (set_any P.un) (asg_sub hs _)) (show swapsWith ee (some (.Subscript (.Name x p) ek p2)) pos.line X.env = pure false from swaps_other rfl _ _) (swapped_sub _) rfl) fun _ _ _ h => sub_step h
theorem set_same {α : Type} {l : List α} {i : Nat} {v : α} (h : l[i]? = some v) : l.set i v = l := by
  obtain ⟨hi, rfl⟩ := List.getElem?_eq_some_iff.mp h
  exact List.set_getElem_self hi
theorem ext_step {i : Nat} {e : Ex} {Z : Ends} {σ : L2.St} {H : Hp} (h : tS G T W ex A₀ H₀ q (.ext i e) Z σ H) : tAug i (tD G T W ex A₀ H₀ e) rExt2 Z σ H := by
  obtain ⟨A, O, ρ, er, h⟩ := h
  rw [rn] at h
  split at h
  · rename_i ds e0
    obtain ⟨v, e1, p, xs, rfl, h0, h1, h2⟩ := er.slot i _ (slotE_some e0)
    refine ⟨_, e1, ?_⟩
    refine seqE er h fun u w H1 hev s1 hw hof h3 => ?_
    obtain ⟨B, O', er2, k2, hw2, hO⟩ := er.keepV s1 hw
    split at h3
    · rename_i us
      cases hw2 with
      | @lst b zs _ b0 b1 b2 =>
        unfold appO at h3
        split at h3
        · rename_i ds2 e2
          obtain ⟨v2, e3, p2, xs2, rfl, j0, j1, j2⟩ := er2.slot i _ (slotE_some e2)
          rw [e1] at e3
          cases e3
          cases c : decide (ds2.length + us.length ≤ line) with
          | false => rw [c] at h3; exact h3.elim
          | true =>
            rw [c] at h3
            have hz := of_decide_eq_true c
            have mu : Mut (H1 p) := by rw [j1]; exact trivial
            refine ⟨p, b, xs2, zs, rfl, rfl, j1, b1, by rw [j2.length, b2.length, ← line_eq]; omega, ?_⟩
            have nB := (er2.own _ _ _ j0).1
            show Z.nx (List.set σ i (some (V.ref p))) (upd H1 p (HO.lst (xs2 ++ zs)))
            rw [set_same e1]
            exact h3 _ _ _ _ (er2.wr (Oi := O' i) e1 ⟨0, j0⟩ mu (fun fs z => by rw [j1] at z; cases z) ⟨p, _, rfl, j0, upd_same, (j2.append b2).upd mu nB⟩ (fun k q z => .inl z) fun k k' q z z' => (er2.uniq _ _ _ _ _ z z').2) (k2.trans (Keep.wr mu nB))
        · exact h3.elim
    · exact h3.elim
  · exact h.elim
theorem ss_ext {i : Nat} {x : Str} {e : Ex} {ee : Expr} {p pos : Pos} (P : PX G S T X L W ex) (hi : X.N[i]? = some x) (hx : Loc X.env.scope x) (hf : X.fn x = true ∨ X.env.scope.names.lookup x = some .local) (he : PE X ee (tD G T W ex A₀ H₀ e)) :
    PS X (.AugAssign (.Name x p) .Add ee pos) (tS G T W ex A₀ H₀ q (.ext i e)) :=
  PS.of (ps_aug (by rw [P.nm]; exact P.nd) hi hx he (fun pins s σ H x y v u Q I r1 r2 h => iop_ext pins s σ H x y v u Q I r1 r2 h) hf) fun _ _ _ h => ext_step h
theorem ss_extM {i : Nat} {x : Str} {e : Ex} {ee : Expr} {p apos cpos pos : Pos} (P : PX G S T X L W ex) (hi : X.N[i]? = some x) (hv : Vis X.env.scope x) (hd : (x == ("__debug__" : Str)) = false) (hcd : (x == ("__classdict__" : Str)) = false)
    (he : PE X ee (tD G T W ex A₀ H₀ e)) (hs : notStar ee = true) (hl : (apos.endLine == cpos.line) = true) : PS X (.Expr (.Call (.Attribute (.Name x p) "extend" apos) [ee] [] cpos) pos) (tS G T W ex A₀ H₀ q (.ext i e)) := by
  refine PS.of (ps_expr (pe_bm PySem.F.plainAttrs_list PySem.F.slot_list_extend PySem.F.type_list_extend mt_extend (pe_var hi hv hd hcd) (pa_cons he pa_nil (star_no hs _ _)) rfl (by rw [star_no hs]; rfl) hl (star_no hs _ _) rfl) rfl) fun Z σ H ⟨A, O, ρ, er, h⟩ => ?_
  rw [rn] at h
  split at h
  · rename_i ds e0
    obtain ⟨v, e1, p, xs, rfl, h0, h1, h2⟩ := er.slot i _ (slotE_some e0)
    refine ⟨_, e1, .inl ⟨rfl, xs, .of h1⟩, ?_⟩
    refine seqE er h fun u w H1 hev s1 hw hof h3 => ?_
    obtain ⟨B, O', er2, k2, hw2, hO⟩ := er.keepV s1 hw
    split at h3
    · rename_i us
      cases hw2 with
      | @lst b zs _ b0 b1 b2 =>
        unfold appO at h3
        split at h3
        · rename_i ds2 e2
          obtain ⟨v2, e3, p2, xs2, rfl, j0, j1, j2⟩ := er2.slot i _ (slotE_some e2)
          rw [e1] at e3
          cases e3
          cases c : decide (ds2.length + us.length ≤ line) with
          | false => rw [c] at h3; exact h3.elim
          | true =>
            rw [c] at h3
            have hz := of_decide_eq_true c
            have mu : Mut (H1 p) := by rw [j1]; exact trivial
            refine ⟨p, b, xs2, zs, rfl, rfl, j1, b1, by rw [j2.length, b2.length, ← line_eq]; omega, ?_⟩
            have nB := (er2.own _ _ _ j0).1
            exact h3 _ _ _ _ (er2.wr (Oi := O' i) e1 ⟨0, j0⟩ mu (fun fs z => by rw [j1] at z; cases z) ⟨p, _, rfl, j0, upd_same, (j2.append b2).upd mu nB⟩ (fun k q z => .inl z) fun k k' q z z' => (er2.uniq _ _ _ _ _ z z').2) (k2.trans (Keep.wr mu nB))
        · exact h3.elim
    · exact h3.elim
  · exact h.elim
end
end PD
end

section
set_option Elab.async false
set_option linter.all false
set_option maxRecDepth 100000
set_option maxHeartbeats 4000000
/-! PD, part 15b: for k in d, the dict locked. -/
namespace PD
open PySem PySem.Spec PyProof.Rows L2
/-- the same heap, but that a dict at d is locked, or is no longer -/
structure Sw (d : Addr) (H H' : Hp) : Prop where
  off : ∀ b, b ≠ d → H' b = H b
  rd : ∀ kv : List (Key × V), Rd H d (.dK kv) → Rd H' d (.dK kv)
  shape : ∃ kv : List (Key × V), H d = some (.dK kv) ∨ ∃ od, H d = some (.frz od (.dK kv))
section
variable {G : Sg} {A A' : Addr → Prop} {H H' : Hp} {d : Addr}
theorem Sw.ne {a : Addr} {o : HO} (s : Sw d H H') (h : H a = some o) (h1 : ∀ kv, o ≠ .dK kv) (h2 : ∀ od kv, o ≠ .frz od (.dK kv)) : a ≠ d := fun e => by
  subst e
  obtain ⟨kv, k | ⟨od, k⟩⟩ := s.shape
  · rw [h] at k; exact h1 kv (Option.some.inj k)
  · rw [h] at k; exact h2 od kv (Option.some.inj k)
theorem Sw.at' {a : Addr} {o : HO} (s : Sw d H H') (h : H a = some o) (h1 : ∀ kv, o ≠ .dK kv) (h2 : ∀ od kv, o ≠ .frz od (.dK kv)) : H' a = some o := (s.off a (s.ne h h1 h2)).trans h
theorem Sw.rdK {a : Addr} {kv : List (Key × V)} (s : Sw d H H') (h : Rd H a (.dK kv)) : Rd H' a (.dK kv) := by
  by_cases e : a = d
  · subst e; exact s.rd kv h
  · exact h.imp (fun z => (s.off a e).trans z) fun ⟨ob, z⟩ => ⟨ob, (s.off a e).trans z⟩
theorem Sw.rdT {a : Addr} {kv : List (List Key × V)} (s : Sw d H H') (h : Rd H a (.dT kv)) : Rd H' a (.dT kv) := by
  rcases h with h | ⟨ob, h⟩
  · exact .inl (s.at' h (fun _ z => nomatch z) fun _ _ z => nomatch z)
  · exact .inr ⟨ob, s.at' h (fun _ z => nomatch z) fun _ _ z => nomatch z⟩
mutual
theorem Has.sw (s : Sw d H H') : ∀ {x : D} {v : V}, Has G A H v x → Has G A H' v x
  | .non, _, h => by cases h; exact .non
  | .bl b, _, h => by cases h; exact .bl b
  | .int i, _, h => by cases h; exact .int i
  | .str t, _, h => by cases h; exact .str t
  | .tup ds, _, h => by
    cases h with
    | tup h1 h2 => exact .tup (s.at' h1 (fun _ z => nomatch z) fun _ _ z => nomatch z) (HasL.sw s h2)
  | .scr ds, _, h => by
    cases h with
    | scr h1 h2 => exact .scr (h1.imp (fun ⟨o, z⟩ => ⟨o, s.at' z (fun _ z => nomatch z) fun _ _ z => nomatch z⟩) id) (HasL.sw s h2)
  | .lst ds, _, h => by
    cases h with
    | lst h0 h1 h2 => exact .lst h0 (s.at' h1 (fun _ z => nomatch z) fun _ _ z => nomatch z) (HasL.sw s h2)
  | .dct t ds, _, h => by
    cases h with
    | dK h0 h1 h2 h3 => exact .dK h0 (s.rdK h1) h2 (HasL.swP s h3)
    | dT h0 h1 h2 h3 => exact .dT h0 (s.rdT h1) h2 (HasL.swP s h3)
  | .obj c ds, _, h => by
    cases h with
    | obj h0 h1 h2 h3 h4 => exact .obj h0 (s.at' h1 (fun _ z => nomatch z) fun _ _ z => nomatch z) h2 h3 (HasL.sw s h4)
theorem HasL.sw (s : Sw d H H') : ∀ {ds : List D} {vs : List V}, HasL G A H vs ds → HasL G A H' vs ds
  | [], _, h => by cases h; exact .nil
  | x :: ds, _, h => by
    cases h with
    | cons h1 h2 => exact .cons (Has.sw s h1) (HasL.sw s h2)
theorem HasL.swP (s : Sw d H H') : ∀ {ds : List (D × D)} {vs : List V}, HasL G A H vs (ds.map Prod.snd) → HasL G A H' vs (ds.map Prod.snd)
  | [], _, h => by cases h; exact .nil
  | (k, x) :: ds, _, h => by
    cases h with
    | cons h1 h2 => exact .cons (Has.sw s h1) (HasL.swP s h2)
end
theorem XR.sw (s : Sw d H H') : ∀ {x : Xc} {cls : Value} {dx : Option Addr}, XR G H x cls dx → XR G H' x cls dx
  | .mk c args, _, _, ⟨h1, h2, h3⟩ => ⟨h1, h2, h3.imp id fun ⟨v, p, w, e1, e2, e3, e4⟩ => ⟨v, p, w, e1, e2, s.at' e3 (fun _ z => nomatch z) (fun _ _ z => nomatch z), e4.sw s⟩⟩
theorem FldOk.sw {P : Addr → Prop} (s : Sw d H H') (nP : ¬ P d) {v : V} : ∀ {o : OF}, FldOk G A P H v o → FldOk G A P H' v o
  | .sh x, h => Has.sw s h
  | .ol ds, ⟨p, xs, e, h0, h1, h2⟩ => ⟨p, xs, e, h0, s.at' h1 (fun _ z => nomatch z) (fun _ _ z => nomatch z), h2.sw s⟩
  | .od true ds, ⟨p, e, h0, kvs, h1, h2, h3⟩ => ⟨p, e, h0, kvs, (s.off p fun z => nP (z ▸ h0)).trans h1, h2, h3.sw s⟩
  | .od false ds, ⟨p, e, h0, kvs, h1, h2, h3⟩ => ⟨p, e, h0, kvs, (s.off p fun z => nP (z ▸ h0)).trans h1, h2, h3.sw s⟩
theorem SlotOk.sw {ex : ExI} {O : Nat → Addr → Prop} (s : Sw d H H') (nO : ∀ k, ¬ O k d) {v : V} : ∀ {o : OD}, SlotOk G ex A O H v o → SlotOk G ex A O H' v o
  | .f x, h => FldOk.sw s (nO 0) h
  | .oo c fs, ⟨p, dx, fl, e, h0, h1, h2, h3, h4⟩ => ⟨p, dx, fl, e, h0, s.at' h1 (fun _ z => nomatch z) (fun _ _ z => nomatch z), h2, h3, fun i o w e1 e2 => (h4 i o w e1 e2).sw s (nO _)⟩
  | .xc x, ⟨a, cls, dx, e1, e2, e3⟩ => ⟨a, cls, dx, e1, e2, e3.sw s⟩
variable {ex : ExI} {A₁ A₂ : Addr → Prop} {H₁ H₂ : Hp} {O : Ow} {σ : L2.St} {ρ : Env}
theorem ER.re (er : ER G ex A₁ H₁ A O σ H ρ) (s : Sw d H H') (nO : ∀ j k, ¬ O j k d) (own : ∀ j k p, O j k p → H₂ p = none) (sub : ∀ q, A q → fr A₂ H₂ q) (same : Same H₂ H') : ER G ex A₂ H₂ A O σ H' ρ where
  len := er.len
  slot := fun j o e => let ⟨v, e1, e2⟩ := er.slot j o e; ⟨v, e1, e2.sw s (nO j)⟩
  own := fun j k p h => ⟨(er.own j k p h).1, by rw [s.off p fun z => nO j k (z ▸ h)]; exact (er.own j k p h).2.1, own j k p h⟩
  uniq := er.uniq
  sub := sub
  same := same
end
section
variable {G : Sg} {S : Sx} {T : Tab} {X : Cx} {L : Lo} {W : WX} {ex : ExI}
theorem PS.or {st : Stmt} {t1 t2 : TS} (h1 : PS X st t1) (h2 : PS X st t2) : PS X st (fun Z σ H => t1 Z σ H ∨ t2 Z σ H) := ⟨fun pins s σ H Z I h => h.elim (h1.run pins s σ H Z I) (h2.run pins s σ H Z I)⟩
theorem PG.exi {tg : Expr} {g : Tg} (h : ∀ A₀ H₀, PG X tg (tG G ex A₀ H₀ g)) : PG X tg (fun v σ H Q => ∃ A₀ H₀, tG G ex A₀ H₀ g v σ H Q) := ⟨fun pins s σ H v u Q I r ⟨A₀, H₀, q⟩ => (h A₀ H₀).run pins s σ H v u Q I r q⟩
theorem PSs.exi {sb : List Stmt} {b : Sts} (h : ∀ A₀ H₀, PSs X sb (tSs G T W ex A₀ H₀ false b)) : PSs X sb (fun Z σ H => ∃ A₀ H₀, tSs G T W ex A₀ H₀ false b Z σ H) := ⟨fun pins s σ H Z I ⟨A₀, H₀, q⟩ => (h A₀ H₀).run pins s σ H Z I q⟩
theorem key_has {A : Addr → Prop} {H : Hp} (k : Key) : Has G A H (kV k) (keyD k) := by
  cases k with
  | inl i => exact .int i
  | inr t => exact .str t
/-- what is behind the loop -/
def finZ (G : Sg) (ex : ExI) (A : Addr → Prop) (H₁ K : Hp) (Z : Ends) : Fl → Prop
  | .nx ρ' => ∀ A' O' σ' H', ER G ex A H₁ A' O' σ' H' ρ' → Keep G A K A' H' → Z.nx σ' H'
  | .rt x ρ' => ∀ v A' O' σ' H', ER G ex A H₁ A' O' σ' H' ρ' → Keep G A K A' H' → Has G A' H' v x → Z.rt v H'
  | _ => True
/-- the loop, the dict locked -/
theorem frD_core {g : Tg} {j : Nat} {b : Sts} {A : Addr → Prop} {H₁ K : Hp} {O : Ow} {σ : L2.St} {ρ : Env} {d : Addr} {od : Obj} {kv : List (Key × V)} {ds : List (D × D)} {f : Fl} {Z : Ends} (er : ER G ex A H₁ A O σ K ρ) (hd : H₁ d = some (.frz od (.dK kv))) (hk : ds.map Prod.fst = kv.map fun p => keyD p.1)
    (hv : σ[j]? = some (some (.ref d))) (hl : loopF (fun x ρ => (bindT g x ρ).bind fun ρ => rns T b ρ) (ds.map Prod.fst) ρ = .ok f)
    (fin : finZ G ex A H₁ K Z f) :
    tFor (iKeys (tVar j)) (fun v σ H Q => ∃ A₀ H₀, tG G ex A₀ H₀ g v σ H Q) (fun Z σ H => ∃ A₀ H₀, tSs G T W ex A₀ H₀ false b Z σ H) Z σ K := by
  refine ⟨_, hv, d, od, rfl, .inl ⟨kv, er.same _ _ hd, ?_⟩⟩
  have hlen : ds.length = kv.length := by
    have := congrArg List.length hk
    rw [List.length_map, List.length_map] at this
    exact this
  refine ⟨fun i m σ' H' => i + m = kv.length ∧ ∃ A' O' ρ', ER G ex A H₁ A' O' σ' H' ρ' ∧ Keep G A K A' H' ∧ loopF (fun x ρ => (bindT g x ρ).bind fun ρ => rns T b ρ) ((ds.map Prod.fst).drop i) ρ' = .ok f, ⟨kv.length, by omega, A, O, ρ, er, Keep.refl, hl⟩, ?_⟩
  rintro i m σ' H' ⟨hm, A', O', ρ', er', kk, h'⟩
  by_cases hi : kv.length ≤ i
  · rw [List.drop_eq_nil_of_le (by rw [List.length_map]; omega), loopF] at h'
    cases h'
    exact .inl ⟨⟨er'.same _ _ hd, hi⟩, fin A' O' σ' H' er' kk⟩
  · have hi : i < kv.length := by omega
    have hxk : (ds.map Prod.fst)[i]? = some (keyD kv[i].1) := by
      rw [hk, List.getElem?_map, List.getElem?_eq_getElem hi]; rfl
    rw [drop_cons hxk, loopF, bind_assoc] at h'
    refine .inr ⟨⟨er'.same _ _ hd, hi⟩, fun σ2 H2 => ∃ A2 O2 ρ2, ER G ex A H₁ A2 O2 σ2 H2 ρ2 ∧ Keep G A K A2 H2 ∧ loopF (fun x ρ => (bindT g x ρ).bind fun ρ => rns T b ρ) ((ds.map Prod.fst).drop (i + 1)) ρ2 = .ok f,
      fun σ2 H2 ⟨A2, O2, ρ2, k1, k2, k3⟩ => ⟨m - 1, by omega, by omega, A2, O2, ρ2, k1, k2, k3⟩, fun v H2 ⟨eH, k, w, e1, e2⟩ => ?_⟩
    subst eH e2
    rw [List.getElem?_eq_getElem hi] at e1
    have e1 := Option.some.inj e1
    refine ⟨A, H₁, A', O', ρ', keyD kv[i].1, er', by rw [e1]; exact key_has k, ?_⟩
    cases eb : bindT g (keyD kv[i].1) ρ' with
    | stk => rw [eb] at h'; cases h'
    | exc z => rw [eb] at h'; cases h'
    | ok ρ2 =>
      rw [eb] at h'
      intro O2 σ2 er2 _ _
      have h' : ((rns T b ρ2).bind fun r => match r with
        | .nx ρ => loopF (fun x ρ => (bindT g x ρ).bind fun ρ => rns T b ρ) ((ds.map Prod.fst).drop (i + 1)) ρ
        | .ct ρ => loopF (fun x ρ => (bindT g x ρ).bind fun ρ => rns T b ρ) ((ds.map Prod.fst).drop (i + 1)) ρ
        | .bk ρ => .ok (.nx ρ)
        | .rt d ρ => .ok (.rt d ρ)) = .ok f := h'
      refine ⟨A, H₁, A', O2, ρ2, er2, ?_⟩
      cases e : rns T b ρ2 with
      | stk => rw [e] at h'; cases h'
      | exc z => rw [e] at h'; cases h'
      | ok r =>
        rw [e] at h'
        cases r with
        | nx ρ3 => exact fun A3 O3 σ3 H3 er3 k => ⟨A3, O3, ρ3, er3, kk.trans k, h'⟩
        | ct ρ3 => exact fun A3 O3 σ3 H3 er3 k => ⟨A3, O3, ρ3, er3, kk.trans k, h'⟩
        | bk ρ3 =>
          cases h'
          exact fun A3 O3 σ3 H3 er3 k => fin A3 O3 σ3 H3 er3 (kk.trans k)
        | rt x ρ3 =>
          cases h'
          exact fun v A3 O3 σ3 H3 er3 k hv => fin v A3 O3 σ3 H3 er3 (kk.trans k) hv
variable {A₀ : Addr → Prop} {H₀ : Hp}
open Classical in
theorem frD_step {g : Tg} {j : Nat} {b : Sts} {Z : Ends} {σ : L2.St} {H : Hp} (h : tS G T W ex A₀ H₀ false (.frD g j b) Z σ H) :
    tLock (tFor (iKeys (tVar j)) (fun v σ H Q => ∃ A₀ H₀, tG G ex A₀ H₀ g v σ H Q) (fun Z σ H => ∃ A₀ H₀, tSs G T W ex A₀ H₀ false b Z σ H)) Z σ H ∨ tFor (iKeys (tVar j)) (fun v σ H Q => ∃ A₀ H₀, tG G ex A₀ H₀ g v σ H Q) (fun Z σ H => ∃ A₀ H₀, tSs G T W ex A₀ H₀ false b Z σ H) Z σ H := by
  obtain ⟨A, O, ρ, er, h⟩ := h
  rw [rn] at h
  split at h
  · rename_i ds e0
    cases hl : loopF (fun x ρ => (bindT g x ρ).bind fun ρ => rns T b ρ) (ds.map Prod.fst) ρ with
    | stk => rw [hl] at h; exact h.elim
    | exc x => rw [hl] at h; exact h.elim
    | ok f =>
      rw [hl] at h
      obtain ⟨v, e1, hv⟩ := er.slot j _ (slotE_some e0)
      have hv : Has G A H v (.dct false ds) := hv
      cases hv with
      | @dK d kv _ g0 g1 g2 g3 =>
        have nO : ∀ j k, ¬ O j k d := fun j k z => (er.own j k d z).1 g0
        -- a base heap without what is owned
        let base : Hp → Hp := fun K b => if ∃ j k, O j k b then none else K b
        have start : ∀ K, Sw d H K → ER G ex A (base K) A O σ K ρ := fun K s => er.re s nO (fun j k p z => if_pos ⟨j, k, z⟩) (fun q z => .inl z) fun p o e => by
          by_cases hp : ∃ j k, O j k p
          · rw [show base K p = none from if_pos hp] at e; cases e
          · rw [show base K p = K p from if_neg hp] at e; exact e
        have bd : ∀ K, base K d = K d := fun K => if_neg fun ⟨j, k, z⟩ => nO j k z
        have bn : ∀ K, Sw d H K → ∀ p, base K p = none → H₀ p = none := fun K s p e => by
          by_cases hp : ∃ j k, O j k p
          · obtain ⟨j, k, z⟩ := hp; exact (er.own j k p z).2.2
          · rw [show base K p = K p from if_neg hp] at e
            by_cases hpd : p = d
            · subst hpd
              have := s.rd _ g1
              rcases this with z | ⟨ob, z⟩
              · rw [z] at e; cases e
              · rw [z] at e; cases e
            · rw [s.off p hpd] at e
              exact same_none er.same e
        -- the way back
        have back : ∀ K, Sw d H K → (K d).isSome = true → ∀ A' O' σ' H' Hu ρ', ER G ex A (base K) A' O' σ' H' ρ' → Sw d H' Hu → Hu d = H d → ER G ex A₀ H₀ A' O' σ' Hu ρ' := fun K s hK A' O' σ' H' Hu ρ' er' s2 hu => by
          have nO' : ∀ j k, ¬ O' j k d := fun j k z => by
            have := (er'.own j k d z).2.2
            rw [bd] at this
            rw [this] at hK
            cases hK
          refine er'.re s2 nO' (fun j k p z => bn K s p (er'.own j k p z).2.2) (fun q z => ?_) fun p o e => ?_
          · rcases er'.sub q z with z | z
            · exact er.sub q z
            · exact .inr (bn K s q z)
          · have e' := er.same p o e
            by_cases hpd : p = d
            · subst hpd; rw [hu]; exact e'
            · rw [s2.off p hpd]
              refine er'.same p o ?_
              have : ¬ ∃ j k, O j k p := fun ⟨j, k, z⟩ => by
                have := (er.own j k p z).2.2
                rw [this] at e
                cases e
              rw [show base K p = K p from if_neg this, s.off p hpd]
              exact e'
        -- how it ends
        have ends : ∀ (K : Hp) (Z' : Ends), Sw d H K → (K d).isSome = true → (∀ A' O' σ' H' ρ', ER G ex A (base K) A' O' σ' H' ρ' → Keep G A K A' H' → ∃ Hu, Sw d H' Hu ∧ Hu d = H d ∧ (Z.nx σ' Hu → Z'.nx σ' H') ∧ ∀ v, Z.rt v Hu → Z'.rt v H') → finZ G ex A (base K) K Z' f := fun K Z' s hK hz => by
          have kp : ∀ A' H' Hu, Keep G A K A' H' → Sw d H' Hu → Keep G A H A' Hu := fun A' H' Hu kk s2 v x hx => (kk v x (hx.sw s)).sw s2
          cases f with
          | nx ρ' =>
            intro A' O' σ' H' er' kk
            obtain ⟨Hu, s2, hu, z1, _⟩ := hz A' O' σ' H' ρ' er' kk
            exact z1 (h A' O' σ' Hu (back K s hK A' O' σ' H' Hu ρ' er' s2 hu) (kp A' H' Hu kk s2))
          | rt x ρ' =>
            intro v A' O' σ' H' er' kk hv'
            obtain ⟨Hu, s2, hu, _, z2⟩ := hz A' O' σ' H' ρ' er' kk
            exact z2 v (h v A' O' σ' Hu (back K s hK A' O' σ' H' Hu ρ' er' s2 hu) (kp A' H' Hu kk s2) (hv'.sw s2))
          | bk _ => trivial
          | ct _ => trivial
        rcases g1 with hd | ⟨od, hd⟩
        · refine .inl ⟨d, .dK kv, hd, trivial, fun od => ?_⟩
          have sK : Sw d H (upd H d (.frz od (.dK kv))) := {
            off := fun b hb => upd_ne hb
            rd := fun o r => by
              rcases r with r | ⟨ob, r⟩
              · rw [hd] at r
                cases r
                exact .inr ⟨od, upd_same⟩
              · rw [hd] at r
                cases r
            shape := ⟨kv, .inl hd⟩ }
          have hb0 : base (upd H d (.frz od (.dK kv))) d = some (.frz od (.dK kv)) := by rw [bd, upd_same]
          refine frD_core (start _ sK) hb0 g2 e1 hl (ends _ _ sK (by rw [upd_same]; rfl) fun A' O' σ' H' ρ' er' kk => ?_)
          have hz : H' d = some (.frz od (.dK kv)) := er'.same _ _ hb0
          refine ⟨upd H' d (.dK kv), {
            off := fun b hb => upd_ne hb
            rd := fun o r => by
              rcases r with r | ⟨ob, r⟩
              · rw [hz] at r
                cases r
              · rw [hz] at r
                cases r
                exact .inl upd_same
            shape := ⟨kv, .inr ⟨od, hz⟩⟩ }, by rw [upd_same, hd], fun z => ⟨hz, z⟩, fun v z => ⟨hz, z⟩⟩
        · have sK : Sw d H H := ⟨fun _ _ => rfl, fun _ r => r, ⟨kv, .inr ⟨od, hd⟩⟩⟩
          have hb0 : base H d = some (.frz od (.dK kv)) := by rw [bd, hd]
          refine .inr (frD_core (start _ sK) hb0 g2 e1 hl (ends _ _ sK (by rw [hd]; rfl) fun A' O' σ' H' ρ' er' kk => ?_))
          have hz : H' d = some (.frz od (.dK kv)) := er'.same _ _ hb0
          exact ⟨H', ⟨fun _ _ => rfl, fun _ r => r, ⟨kv, .inr ⟨od, hz⟩⟩⟩, by rw [hz, hd], id, fun _ => id⟩
  · exact h.elim
theorem ss_frD {g : Tg} {j : Nat} {b : Sts} {tg : Expr} {x : Str} {sb : List Stmt} {p pos : Pos} (P : PY G S T X L W ex) (hc : L.cm = true) (hi : X.N[j]? = some x) (hv : Vis X.env.scope x) (hd : (x == ("__debug__" : Str)) = false) (hcd : (x == ("__classdict__" : Str)) = false)
    (hg : ∀ A₀ H₀, PG X tg (tG G ex A₀ H₀ g)) (hb : ∀ A₀ H₀, PSs X sb (tSs G T W ex A₀ H₀ false b)) : PS X (.For tg (.Name x p) sb [] pos) (tS G T W ex A₀ H₀ false (.frD g j b)) :=
  PS.of (PS.or (ps_lock (ps_for (P.pass hc) (P.px.calm hc) (pi_keys (pe_var hi hv hd hcd)) (PG.exi hg) (PSs.exi hb) fun _ => rfl)) (ps_for (P.pass hc) (P.px.calm hc) (pi_keys (pe_var hi hv hd hcd)) (PG.exi hg) (PSs.exi hb) fun _ => rfl)) fun _ _ _ h => frD_step h
end
end PD
end

section
set_option Elab.async false
set_option linter.all false
set_option maxRecDepth 100000
set_option maxHeartbeats 4000000
/-! PD, part 15c: stars in displays; dict comprehensions. -/
namespace PD
open PySem PySem.Spec PyProof.Rows L2
section
variable {G : Sg} {S : Sx} {T : Tab} {X : Cx} {L : Lo} {W : WX} {ex : ExI} {A₀ : Addr → Prop} {H₀ : Hp}
theorem sa_star {i : Ex} {r : Exs} {e : Expr} {es : List Expr} {p : Pos} (hG : X.K = G.K) (ha : PE X e (tD G T W ex A₀ H₀ i)) (hr : PA X es (tDs G T W ex A₀ H₀ r)) : PA X (.Starred e p :: es) (tDs G T W ex A₀ H₀ (.star i r)) := by
  refine PA.of (StX.pa_star ha hr) fun σ H Q ⟨A, O, ρ, er, h⟩ => ?_
  rw [evs] at h
  refine seq1L er h fun x v H1 _ s1 hv er1 h1 => ?_
  have go : ∀ {xs : List V} {ds : List D} , HasL G (fr (wi A O (roots i)) H) H1 xs ds → outL G W (fr (wi A O (rootsS (.star i r))) H) σ H1 ((evs T r ρ).bind fun ys => .ok (ds ++ ys)) Q → tDs G T W ex A₀ H₀ r σ H1 fun ys H2 => Q (xs ++ ys) H2 := by
    intro xs ds hx h1
    refine seqLL er1 h1 fun ys vs H2 _ s2 hw er2 h2 => ?_
    refine h2 _ H2 (Same.refl H2) (HasL.append (hx.mono (fun q z => .inl (.inl (fr_wi (fun j hj => List.mem_append_left _ hj) z))) s2) (hw.mono (fun q z => .inl (.inl (fr_fr s1 (B := wi (fr A H) O (rootsS r)) (fun q z => ?_) z))) (Same.refl H2)))
    rcases z with z | ⟨j, hj, k, z⟩
    · exact z.imp (fun z => .inl z) id
    · exact .inl (.inr ⟨j, List.mem_append_right _ hj, k, z⟩)
  cases x with
  | tup ds =>
    cases hv with
    | tup g1 g2 => exact ⟨_, _, rfl, .inl (.inl (.inl g1)), go g2 h1⟩
  | lst ds =>
    cases hv with
    | lst g0 g1 g2 => exact ⟨_, _, rfl, .inr (.inl (.inl g1)), go g2 h1⟩
  | _ => exact h1.elim
/-- what one turn of a dict comprehension gives -/
def turnD (T : Tab) (g : Tg) (ifs : Exs) (ke ve : Ex) (ρ : Env) (x : D) : R (List D) := (bindT g x ρ).bind fun ρ => (evAll T ifs ρ).bind fun k => match k with
    | true => (ev T ke ρ).bind fun y => (ev T ve ρ).bind fun z => guardR (keyOk false y && froz z) (.ok [.tup [y, z]])
    | false => .ok []
theorem dctOf_snoc (ys : List D) (k v : D) : dctOf (ys ++ [.tup [k, v]]) = PD.putK (dctOf ys) k v := by
  unfold dctOf
  rw [List.foldl_append]
  rfl
theorem dc_w (own : List (Str × Nat)) {g : Tg} {it : It} {ifs : Exs} {ke ve : Ex} (hn : ∀ j ∈ g.ns, j ∈ own.map (·.2)) {σ : L2.St} {H : Hp} {Q : VK} (h : tD G T W ex A₀ H₀ (.dc (own.map (·.2)) g it ifs ke ve) σ H Q) :
    tDc (tI G T W ex A₀ H₀ it) (tG G ex A₀ H₀ g) (tAll G T noW ex A₀ H₀ ifs) (tD G T noW ex A₀ H₀ ke) (tD G T noW ex A₀ H₀ ve) (own.map (·.2)) σ H Q := by
  obtain ⟨A, O, ρ, er, h⟩ := h
  rw [ev] at h
  refine seqI er h fun xs J H1 ps _ s1 hJ hp er1 h1 D hD => ?_
  generalize hvs : own.map (·.2) = vs at h1 hn
  have h1 : outD G W (fr (wi A O (roots (.dc vs g it ifs ke ve))) H) σ false H1 ((noExc (collect (turnD T g ifs ke ve (wipeE (unown ρ (rootsI it)) vs)) xs)).bind fun ys => guardR (decide (ys.length ≤ line)) (.ok (.dct false (dctOf ys)))) Q := h1
  cases ec : collect (turnD T g ifs ke ve (wipeE (unown ρ (rootsI it)) vs)) xs with
  | stk => rw [ec] at h1; exact h1.elim
  | exc x => rw [ec] at h1; exact h1.elim
  | ok ys =>
    rw [ec] at h1
    have h1 : outD G W (fr (wi A O (roots (.dc vs g it ifs ke ve))) H) σ false H1 (guardR (decide (ys.length ≤ line)) (.ok (.dct false (dctOf ys)))) Q := h1
    cases c : decide (ys.length ≤ line) with
    | false => rw [c] at h1; exact h1.elim
    | true =>
      rw [c] at h1
      have h1 : Res G (fr (wi A O (roots (.dc vs g it ifs ke ve))) H) false H1 (.dct false (dctOf ys)) Q := h1
      have hlen := of_decide_eq_true c
      have er2 := ((er1.un (rootsI it)).wipe vs)
      generalize hρ : wipeE (unown ρ (rootsI it)) vs = ρ' at er2 ec
      let B : Addr → Prop := fun q => ((fr A H q ∨ ow O (rootsI it) q) ∨ H1 q = none) ∧ q ≠ D
      let O' : Ow := fun j k p => O j k p ∧ j ∉ rootsI it
      have nD : ¬ B D := fun z => z.2 rfl
      have ownD : ∀ j k, ¬ O j k D := fun j k z => by
        have := (er1.own j k D z).2.1
        rw [hD] at this
        cases this
      have D0 : H₀ D = none := same_none er1.same hD
      have bk : ∀ {Hc : Hp}, Same H1 Hc → (Hc D).isSome = true → ∀ q, fr B Hc q → B q := fun {Hc} s hs q z => by
        rcases z with z | z
        · exact z
        · refine ⟨.inr (same_none s z), fun e => ?_⟩
          subst e
          rw [z] at hs
          cases hs
      refine ⟨fun i m Hc => i + m = xs.length ∧ Same H1 Hc ∧ ER G ex A₀ H₀ B O' (L2.wipe σ vs) Hc ρ' ∧ (∀ p ∈ ps, Has G B Hc p.1 p.2) ∧ ∃ (acc : List (Key × V)) (y1 y2 : List PD.D), Hc D = some (.dK acc) ∧ (dctOf y1).map Prod.fst = acc.map (fun p => keyD p.1) ∧ HasL G (fun _ => False) Hc (acc.map Prod.snd) ((dctOf y1).map Prod.snd) ∧ acc.length ≤ y1.length ∧
        collect (turnD T g ifs ke ve ρ') (xs.drop i) = .ok y2 ∧ ys = y1 ++ y2, ⟨xs.length, by omega, ?_, ?_, ?_, [], [], ys, upd_same, rfl, .nil, Nat.le_refl _, ec, rfl⟩, ?_⟩
      · exact same_upd hD
      · have er3 : ER G ex A₀ H₀ B O' (L2.wipe σ vs) H1 ρ' := er2.move (Same.refl H1) (fun q z zs => ⟨.inl z, fun e => by subst e; rw [hD] at zs; cases zs⟩) fun q z => z.1
        exact er3.move (same_upd hD) (fun q z _ => z) fun q z => .inl z
      · intro p hp'
        refine (hp p hp').to (same_upd hD) fun q z zs => ⟨.inl ?_, fun e => by subst e; rw [hD] at zs; cases zs⟩
        rcases z with (z | z) | z
        · exact .inl (.inl z)
        · exact .inr z
        · exact .inl (.inr z)
      · rintro i m Hc ⟨hm, sc, erc, hpc, acc, y1, y2, hacc, hky, hh, hle, hcol, hy⟩
        cases hx : xs[i]? with
        | none =>
          have hi : xs.length ≤ i := List.getElem?_eq_none_iff.mp hx
          refine .inl ⟨hJ.stop B Hc i hpc hi, ?_⟩
          rw [List.drop_eq_nil_of_le hi] at hcol
          cases hcol
          rw [List.append_nil] at hy
          subst hy
          exact h1 _ Hc sc (.dK (.inr hD) (.inl hacc) hky (hh.mono (fun q z => z.elim) (Same.refl _))) fun e => absurd e Bool.false_ne_true
        | some x =>
          obtain ⟨g1, g2⟩ := hJ.go B Hc i x hpc hx
          rw [drop_cons hx] at hcol
          obtain ⟨ya, yb, c1, c2, rfl⟩ := collect_cons hcol
          have hi : i < xs.length := (List.getElem?_eq_some_iff.mp hx).1
          refine .inr ⟨g1, fun H' => Same H1 H' ∧ ER G ex A₀ H₀ B O' (L2.wipe σ vs) H' ρ' ∧ (∀ p ∈ ps, Has G B H' p.1 p.2) ∧ ∃ acc : List (Key × V), H' D = some (.dK acc) ∧ (dctOf (y1 ++ ya)).map Prod.fst = acc.map (fun p => keyD p.1) ∧ HasL G (fun _ => False) H' (acc.map Prod.snd) ((dctOf (y1 ++ ya)).map Prod.snd) ∧ acc.length ≤ (y1 ++ ya).length,
            fun H' ⟨k1, k2, k3, acc', k4, k5, k6, k7⟩ => ⟨m - 1, by omega, by omega, k1, k2, k3, acc', y1 ++ ya, yb, k4, k5, k6, k7, c2, by rw [hy, List.append_assoc]⟩, fun v H2 hy2 => ?_⟩
          obtain ⟨s2, hv⟩ := g2 v H2 hy2
          have sc2 := same_tr sc s2
          have hD2 : H2 D = some (.dK acc) := s2 _ _ hacc
          have er4 : ER G ex A₀ H₀ B O' (L2.wipe σ vs) H2 ρ' := erc.move s2 (fun q z _ => z) fun q z => .inl z
          have hv2 : Has G B H2 v x := hv.mono (bk sc (by rw [hacc]; rfl)) (Same.refl _)
          obtain ⟨ρ2, b1, c1⟩ := bind_ok c1
          refine ⟨B, O', ρ', x, er4, hv2, ?_⟩
          rw [b1]
          intro O2 σ2 er5 w5 o5
          refine ⟨by rw [w5 vs hn, wipe_wipe], ?_⟩
          obtain ⟨k, b2, c1⟩ := bind_ok c1
          refine ⟨B, O2, ρ2, er5, ?_⟩
          rw [b2]
          intro H3 s3
          have sc3 := same_tr sc2 s3
          have hD3 : H3 D = some (.dK acc) := s3 _ _ hD2
          have hp3 : ∀ p ∈ ps, Has G B H3 p.1 p.2 := fun p z => (hpc p z).mono (fun _ z => z) (same_tr s2 s3)
          have er6 : ER G ex A₀ H₀ B O' (L2.wipe σ vs) H3 ρ' := erc.move (same_tr s2 s3) (fun q z _ => z) fun q z => .inl z
          cases k with
          | false =>
            cases c1
            rw [if_neg Bool.false_ne_true, List.append_nil]
            exact ⟨sc3, er6, hp3, acc, hD3, hky, hh.mono (fun _ z => z) (same_tr s2 s3), hle⟩
          | true =>
            obtain ⟨y, b3, c1⟩ := bind_ok c1
            obtain ⟨z, b4, c1⟩ := bind_ok c1
            obtain ⟨cg, c1⟩ := guardR_ok c1
            cases c1
            obtain ⟨cg1, cg2⟩ := bb cg
            rw [if_pos rfl]
            have er7 : ER G ex A₀ H₀ B O2 σ2 H3 ρ2 := er5.move s3 (fun q z _ => z) fun q z => .inl z
            refine ⟨B, O2, ρ2, er7, ?_⟩
            rw [b3]
            intro wk H4 s4 hwk _
            obtain ⟨key, ek1, ek2⟩ := key_int hwk cg1
            subst ek1 ek2
            have hD4 : H4 D = some (.dK acc) := s4 _ _ hD3
            have er8 : ER G ex A₀ H₀ B O2 σ2 H4 ρ2 := er7.move s4 (fun q z _ => z) fun q z => .inl z
            refine ⟨B, O2, ρ2, er8, ?_⟩
            rw [b4]
            intro w H5 s5 hw _
            have hD5 : H5 D = some (.dK acc) := s5 _ _ hD4
            have sc5 := same_tr (same_tr sc3 s4) s5
            have sA := same_tr (same_tr (same_tr s2 s3) s4) s5
            have mu : Mut (H5 D) := by rw [hD5]; exact trivial
            have nx : ∀ fs, H5 D ≠ some (.xd fs) := fun fs z => by rw [hD5] at z; cases z
            have hlt : acc.length < sizeLine := by
              rw [← line_eq]
              have := congrArg List.length hy
              rw [List.length_append, List.length_append, List.length_singleton] at this
              omega
            obtain ⟨q1, q2⟩ := putK_rel eqD_key key (Has.froz (A' := fun _ => False) cg2 hw) hky (hh.mono (fun _ z => z) sA)
            refine ⟨acc, key, rfl, hD5, hlt, ?_, ?_, ?_, L2.putK acc key w, upd_same, ?_, ?_, ?_⟩
            · exact fun b x e => by
                rw [upd_ne (ne_of_none e hD)]
                exact sc5 b x e
            · have er9 : ER G ex A₀ H₀ B O' (L2.wipe σ vs) H5 ρ' := erc.move sA (fun q z _ => z) fun q z => .inl z
              exact er9.updF mu nx nD (fun j k z => ownD j k z.1) D0
            · exact fun p z => ((hpc p z).mono (fun _ z => z) sA).upd mu nD
            · rw [dctOf_snoc]
              exact q1
            · rw [dctOf_snoc]
              exact q2.upd mu id
            · rw [List.length_append, List.length_singleton]
              exact Nat.le_trans (length_putK acc key w) (Nat.succ_le_succ hle)
theorem se_dc {own : List (Str × Nat)} {g : Tg} {it : It} {ifs : Exs} {ke ve : Ex} {kx vx tg iter : Expr} {xifs : List Expr} {scope : Scope} {pos : Pos} (P : PX G S T X L W ex) (hc : L.cm = true) (hi : PI X tg iter (tI G T W ex A₀ H₀ it)) (ok : BlkOk X.N X.env.scope scope own)
    (hg : ∀ (s : Shared) (H : Hp) (C : Addr) (cl : List (Str × Addr)) (fp : List Addr), PG (X.blk s H scope (compEnvC scope cl C X.env) fp) tg (tG G ex A₀ H₀ g))
    (ht : ∀ (s : Shared) (H : Hp) (C : Addr) (cl : List (Str × Addr)) (fp : List Addr), PTs (X.blk s H scope (compEnvC scope cl C X.env) fp) xifs (tAll G T noW ex A₀ H₀ ifs))
    (hk : ∀ (s : Shared) (H : Hp) (C : Addr) (cl : List (Str × Addr)) (fp : List Addr), PE (X.blk s H scope (compEnvC scope cl C X.env) fp) kx (tD G T noW ex A₀ H₀ ke))
    (he : ∀ (s : Shared) (H : Hp) (C : Addr) (cl : List (Str × Addr)) (fp : List Addr), PE (X.blk s H scope (compEnvC scope cl C X.env) fp) vx (tD G T noW ex A₀ H₀ ve))
    (hs : ∀ x, foldedSetIterable iter X.env x = pure x) (hn : ∀ j ∈ g.ns, j ∈ own.map (·.2)) : PE X (.DictComp kx vx [⟨tg, iter, xifs, 0⟩] scope pos) (tD G T W ex A₀ H₀ (.dc (own.map (·.2)) g it ifs ke ve)) :=
  PE.of (pe_dc (P.calm hc) (by rw [P.nm]; exact P.nd) hi ok hg ht hk he hs) fun σ H Q h => dc_w own hn h
end
end PD
end

section
set_option Elab.async false
set_option linter.all false
set_option maxRecDepth 100000
set_option maxHeartbeats 4000000
/-! PD, part 15: the small language against the text's own trees. -/
namespace PD
open PySem PySem.Spec PyProof.Rows L2

def visB (sc : Scope) (x : Str) : Bool := match sc.names.lookup x with
  | some .local => true
  | some .cell => true
  | some .free => true
  | _ => false
def locB (L : Lo) (x : Str) : Bool := match L.sc.names.lookup x with
  | some .local => true
  | some .cell => L.fn x
  | _ => false
def glB (L : Lo) (x : Str) : Bool := (match L.sc.names.lookup x with
  | some .globalImplicit => true
  | _ => false) && !(x == ("__debug__" : Str))
def nmB (S : Sx) (L : Lo) (i : Nat) (x : Str) : Bool := decide (S.N[i]? = some x) && (visB L.sc x && (!(x == ("__debug__" : Str)) && !(x == ("__classdict__" : Str))))
def opB : BinO → Operator → Bool
  | .add, .Add => true
  | .sub, .Sub => true
  | .mul, .Mult => true
  | .fdiv, .FloorDiv => true
  | .mod, .Mod => true
  | .pow, .Pow => true
  | _, _ => false
def cmpB : CmpO → CmpOp → Bool
  | .eq, .Eq => true
  | .ne, .NotEq => true
  | .lt, .Lt => true
  | .le, .LtE => true
  | .gt, .Gt => true
  | .ge, .GtE => true
  | .isin, .In => true
  | .notin, .NotIn => true
  | .iss, .Is => true
  | .isnt, .IsNot => true
  | _, _ => false
theorem opB_ok {o : BinO} {op : Operator} (h : opB o op = true) : op = opOf o := by
  cases o <;> cases op <;> first
    | rfl
    | exact absurd h Bool.false_ne_true
theorem cmpB_ok {o : CmpO} {op : CmpOp} (h : cmpB o op = true) : op = cOp o := by
  cases o <;> cases op <;> first
    | rfl
    | exact absurd h Bool.false_ne_true
def notSetE : Expr → Bool
  | .Set _ _ _ => false
  | _ => true
theorem folded_no {e : Expr} (h : notSetE e = true) (env : PySem.Env) (x : Value) : foldedSetIterable e env x = pure x := by
  cases e <;> first
    | rfl
    | exact absurd h Bool.false_ne_true
def kB : NameKind → NameKind → Bool
  | .local, .local => true
  | .cell, .cell => true
  | .free, .free => true
  | .globalImplicit, .globalImplicit => true
  | .globalExplicit, .globalExplicit => true
  | _, _ => false
def lkB (o : Option NameKind) (k : NameKind) : Bool := match o with
  | some k' => kB k' k
  | none => false
theorem kB_ok {a b : NameKind} (h : kB a b = true) : a = b := by
  cases a <;> cases b <;> first
    | rfl
    | exact absurd h Bool.false_ne_true
theorem lkB_ok {o : Option NameKind} {k : NameKind} (h : lkB o k = true) : o = some k := by
  cases o with
  | none => exact absurd h Bool.false_ne_true
  | some k' => rw [kB_ok h]
def funB : ScopeKind → Bool
  | .function => true
  | _ => false
theorem funB_ok {k : ScopeKind} (h : funB k = true) : k = .function := by
  cases k <;> first
    | rfl
    | exact absurd h Bool.false_ne_true
def ownL (S : Sx) (own : List Nat) : List (Str × Nat) := own.map fun i => (S.N.getD i "", i)
theorem ownL_snd (S : Sx) (own : List Nat) : (ownL S own).map (·.2) = own := by
  unfold ownL
  rw [List.map_map]
  exact List.map_id own
def blkB (S : Sx) (sc scope : Scope) (own : List Nat) : Bool := funB scope.kind && ((scope.names.all fun y => lkB (scope.names.lookup y.1) y.2) && ((own.all fun i => decide (i < S.N.length)) &&
  ((scope.names.all fun y => !kB y.2 .free || (lkB (sc.names.lookup y.1) .cell || lkB (sc.names.lookup y.1) .free)) && (scope.names.all fun y => !(kB y.2 .local || kB y.2 .cell) || (decide (y.1 ∈ (ownL S own).map (·.1)) || decide (y.1 ∉ S.N))))))
theorem blkB_ok {S : Sx} {sc scope : Scope} {own : List Nat} (h : blkB S sc scope own = true) : BlkOk S.N sc scope (ownL S own) := by
  obtain ⟨h1, h⟩ := bb h
  obtain ⟨h2, h⟩ := bb h
  obtain ⟨h3, h⟩ := bb h
  obtain ⟨h4, h5⟩ := bb h
  rw [List.all_eq_true] at h2 h3 h4 h5
  refine ⟨funB_ok h1, fun y hy => lkB_ok (h2 y hy), fun p hp => ?_, fun y hy e => ?_, fun y hy e => ?_⟩
  · obtain ⟨i, hi, rfl⟩ := List.mem_map.mp hp
    have := of_decide_eq_true (h3 i hi)
    show S.N[i]? = some (S.N.getD i "")
    simp [List.getD, List.getElem?_eq_getElem this]
  · have z := h4 y hy
    rw [e] at z
    rcases Bool.or_eq_true_iff.mp z with z | z
    · cases z
    · exact (Bool.or_eq_true_iff.mp z).imp lkB_ok lkB_ok
  · have z := h5 y hy
    rcases Bool.or_eq_true_iff.mp z with z | z
    · rcases e with e | e <;> (rw [e] at z; cases z)
    · exact (Bool.or_eq_true_iff.mp z).imp of_decide_eq_true of_decide_eq_true
mutual
def chkT (S : Sx) (L : Lo) : Tg → Expr → Bool
  | .n i, e => (match e with
    | .Name x _ => decide (S.N[i]? = some x) && locB L x
    | _ => false)
  | .t gs, e => (match e with
    | .Tuple es _ _ => L.cm && (decide (gs.len = es.length) && (noStars es && chkTs S L gs es))
    | _ => false)
def chkTs (S : Sx) (L : Lo) : Tgs → List Expr → Bool
  | .nil, es => es.isEmpty
  | .cons g r, es => (match es with
    | e :: es => chkT S L g e && chkTs S L r es
    | [] => false)
end
mutual
def chk (S : Sx) : Lo → Ex → Expr → Bool
  | L, .var i, e => (match e with
    | .Name x _ => nmB S L i x
    | _ => false)
  | _, .cI i, e => (match e with
    | .Constant (.int j) _ _ => decide (j = i)
    | _ => false)
  | _, .cB b, e => (match e with
    | .Constant (.bool c) _ _ => decide (c = b)
    | _ => false)
  | _, .cN, e => (match e with
    | .Constant .none _ _ => true
    | _ => false)
  | _, .cS s, e => (match e with
    | .Constant (.str t) _ _ => decide (t = s)
    | _ => false)
  | L, .gI x i, e => (match e with
    | .Name y _ => decide (y = x) && (glB L y && decide ((y, i) ∈ S.gInts))
    | _ => false)
  | L, .gS x i, e => (match e with
    | .Name y _ => decide (y = x) && (glB L y && decide ((y, i) ∈ S.gStrs))
    | _ => false)
  | L, .bin o a b, e => (match e with
    | .BinOp ea op eb _ => opB o op && (chk S L a ea && chk S L b eb)
    | _ => false)
  | L, .neg a, e => (match e with
    | .UnaryOp .USub ea _ => chk S L a ea
    | _ => false)
  | L, .cmp o a b, e => (match e with
    | .Compare ea [op] [eb] _ => cmpB o op && (!behindInMarks op eb && (chk S L a ea && chk S L b eb))
    | _ => false)
  | L, .cmp2 o o' a b c, e => (match e with
    | .Compare ea [op, op'] [eb, ec] _ => cmpB o op && (cmpB o' op' && (!lastMarks [op, op'] [eb, ec] && (chk S L a ea && (chk S L b eb && chk S L c ec))))
    | _ => false)
  | L, .isN a, e => (match e with
    | .Compare ea [.Is] [.Constant .none _ _] _ => chk S L a ea
    | _ => false)
  | L, .notN a, e => (match e with
    | .Compare ea [.IsNot] [.Constant .none _ _] _ => chk S L a ea
    | _ => false)
  | L, .and a b, e => (match e with
    | .BoolOp .And [ea, eb] _ => chk S L a ea && chk S L b eb
    | .BoolOp .And (ea :: eb :: ec :: r) pos => chk S L a ea && chk S L b (.BoolOp .And (eb :: ec :: r) pos)
    | _ => false)
  | L, .or a b, e => (match e with
    | .BoolOp .Or [ea, eb] _ => chk S L a ea && chk S L b eb
    | .BoolOp .Or (ea :: eb :: ec :: r) pos => chk S L a ea && chk S L b (.BoolOp .Or (eb :: ec :: r) pos)
    | _ => false)
  | L, .not a, e => (match e with
    | .UnaryOp .Not ea _ => chk S L a ea
    | _ => false)
  | L, .ite c a b, e => (match e with
    | .IfExp ec ea eb _ => chk S L c ec && (chk S L a ea && chk S L b eb)
    | _ => false)
  | L, .tup es, e => (match e with
    | .Tuple xs _ _ => chks S L es xs
    | _ => false)
  | L, .lst es, e => (match e with
    | .List xs _ => chks S L es xs
    | _ => false)
  | _, .newD _, e => (match e with
    | .Dict [] [] _ => true
    | _ => false)
  | L, .idx a b, e => (match e with
    | .Subscript ea eb _ => notSlice eb && (chk S L a ea && chk S L b eb)
    | _ => false)
  | L, .slL a l, e => (match e with
    | .Subscript ea (.Slice (some el) none none _) _ => chk S L a ea && chk S L l el
    | _ => false)
  | L, .slU a l, e => (match e with
    | .Subscript ea (.Slice none (some el) none _) _ => chk S L a ea && chk S L l el
    | _ => false)
  | L, .slB a l u, e => (match e with
    | .Subscript ea (.Slice (some el) (some eu) none _) _ => chk S L a ea && (chk S L l el && chk S L u eu)
    | _ => false)
  | L, .fld a y, e => (match e with
    | .Attribute ea z _ => decide (z = y) && (attrOk ea && chk S L a ea)
    | _ => false)
  | L, .call f es, e => (match e with
    | .Call (.Name x _) xs [] _ => L.cm && (decide (S.fname[f]? = some (some x)) && (glB L x && (noStars xs && chks S L es xs)))
    | _ => false)
  | L, .mk c f es, e => (match e with
    | .Call (.Name x _) (a :: xs) [] _ => L.cm && (decide (S.cname[c]? = some x) && (decide (S.ini[f]? = some (some c)) && (glB L x && (noStars (a :: xs) && chks S L es (a :: xs)))))
    | _ => false)
  | L, .bi b es, e => (match e with
    | .Call (.Name x _) (a :: xs) [] _ => L.cm && (decide (x = bltN b) && (decide (x ∈ S.free) && (glB L x && (noStars (a :: xs) && chks S L es (a :: xs)))))
    | _ => false)
  | L, .isi a t, e => (match e with
    | .Call (.Name x _) [ea, .Name y _] [] _ => decide (x = ("isinstance" : Str)) && (decide (y = isNm t) && (decide (x ∈ S.free) && (decide (y ∈ S.free) && (glB L x && (glB L y && (notStar ea && chk S L a ea))))))
    | _ => false)
  | _, .isC _ _, _ => false
  | L, .isE i c, e => (match e with
    | .Call (.Name x _) [.Name z _, .Name y _] [] _ => !L.cm && (decide (x = ("isinstance" : Str)) && (decide (x ∈ S.free) && (glB L x && (glB L y && (nmB S L i z && (decide (S.ename[c]? = some y) || (decide (c = 1000) && (decide (y = ("ValueError" : Str)) && decide (y ∈ S.free)))))))))
    | _ => false)
  | _, .fldE _ _, _ => false
  | L, .lR (.r1 a), e => (match e with
    | .Call (.Name x _) [.Call (.Name y _) [ea] [] _] [] _ => L.cm && (decide (x = ("list" : Str)) && (decide (x ∈ S.free) && (decide (y = ("range" : Str)) && (decide (y ∈ S.free) && (glB L x && (glB L y && (notStar ea && chk S L a ea)))))))
    | _ => false)
  | _, .lR _, _ => false
  | L, .tR (.r1 a), e => (match e with
    | .Call (.Name x _) [.Call (.Name y _) [ea] [] _] [] _ => L.cm && (decide (x = ("tuple" : Str)) && (decide (x ∈ S.free) && (decide (y = ("range" : Str)) && (decide (y ∈ S.free) && (glB L x && (glB L y && (notStar ea && chk S L a ea)))))))
    | _ => false)
  | _, .tR _, _ => false
  | L, .lc own g it ifs e, x => (match x with
    | .ListComp elt [⟨tg, iter, xifs, 0⟩] scope _ => L.cm && (blkB S L.sc scope own && (chkT S (L.blk scope) g tg && (chkI S L it tg iter && (chkF S (L.blk scope) ifs xifs && (chk S (L.blk scope) e elt && (notSetE iter && g.ns.all fun j => decide (j ∈ own)))))))
    | _ => false)
  | L, .lc2 own own2 g it ifs g2 it2 ifs2 e, x => (match x with
    | .ListComp elt [⟨tg, iter, xifs, 0⟩, ⟨tg2, iter2, xifs2, 0⟩] scope _ => L.cm && (blkB S L.sc scope own && (chkT S (L.blk scope) g tg && (chkI S L it tg iter && (chkF S (L.blk scope) ifs xifs && (chk S (L.blk scope) e elt && (notSetE iter && ((g.ns.all fun j => decide (j ∈ own)) &&
        (chkT S (L.blk scope) g2 tg2 && (chkI S (L.blk scope) it2 tg2 iter2 && (chkF S (L.blk scope) ifs2 xifs2 && (notSetE iter2 && ((g2.ns.all fun j => decide (j ∈ own2)) && own2.all fun j => decide (j ∈ own)))))))))))))
    | _ => false)
  | L, .dc own g it ifs k v, x => (match x with
    | .DictComp kx vx [⟨tg, iter, xifs, 0⟩] scope _ => L.cm && (blkB S L.sc scope own && (chkT S (L.blk scope) g tg && (chkI S L it tg iter && (chkF S (L.blk scope) ifs xifs && (chk S (L.blk scope) k kx && (chk S (L.blk scope) v vx && (notSetE iter && g.ns.all fun j => decide (j ∈ own))))))))
    | _ => false)
def chks (S : Sx) : Lo → Exs → List Expr → Bool
  | _, .nil, es => es.isEmpty
  | L, .cons i r, es => (match es with
    | e :: es => notStar e && (chk S L i e && chks S L r es)
    | [] => false)
  | L, .star i r, es => (match es with
    | .Starred e _ :: es => chk S L i e && chks S L r es
    | _ => false)
def chkF (S : Sx) : Lo → Exs → List Expr → Bool
  | _, .nil, es => es.isEmpty
  | L, .cons i r, es => (match r, es with
    | .nil, [e] => chk S L i e
    | _, _ => false)
  | _, .star _ _, _ => false
def chkI (S : Sx) : Lo → It → Expr → Expr → Bool
  | L, .e a, _, e => chk S L a e
  | L, .r1 a, _, e => (match e with
    | .Call (.Name x _) [ea] [] _ => decide (x = ("range" : Str)) && (decide (x ∈ S.free) && (glB L x && (notStar ea && chk S L a ea)))
    | _ => false)
  | L, .r2 a b, _, e => (match e with
    | .Call (.Name x _) [ea, eb] [] _ => decide (x = ("range" : Str)) && (decide (x ∈ S.free) && (glB L x && (notStar ea && (notStar eb && (chk S L a ea && chk S L b eb)))))
    | _ => false)
  | L, .en a, tg, e => (match tg, e with
    | .Tuple _ _ _, .Call (.Name x _) [ea] [] _ => decide (x = ("enumerate" : Str)) && (decide (x ∈ S.free) && (glB L x && (notStar ea && chk S L a ea)))
    | _, _ => false)
  | L, .zp a b, tg, e => (match tg, e with
    | .Tuple _ _ _, .Call (.Name x _) [ea, eb] [] _ => decide (x = ("zip" : Str)) && (decide (x ∈ S.free) && (glB L x && (notStar ea && (notStar eb && (chk S L a ea && chk S L b eb)))))
    | _, _ => false)
end

/-! ### soundness -/
section
variable {G : Sg} {S : Sx} {T : Tab} {ex : ExI} {A₀ : Addr → Prop} {H₀ : Hp}
theorem visB_ok {X : Cx} {L : Lo} (es : X.env.scope = L.sc) {x : Str} (h : visB L.sc x = true) : Vis X.env.scope x := by
  rw [es]
  unfold visB at h
  split at h
  · rename_i e; exact .inl e
  · rename_i e; exact .inr (.inl e)
  · rename_i e; exact .inr (.inr e)
  · exact absurd h Bool.false_ne_true
theorem nb {a : Bool} (h : (!a) = true) : a = false := by cases a <;> simp_all
theorem nmB_ok {X : Cx} {L : Lo} {W : WX} (P : PX G S T X L W ex) {i : Nat} {x : Str} (h : nmB S L i x = true) : X.N[i]? = some x ∧ Vis X.env.scope x ∧ (x == ("__debug__" : Str)) = false ∧ (x == ("__classdict__" : Str)) = false := by
  obtain ⟨h1, h⟩ := bb h
  obtain ⟨h2, h⟩ := bb h
  obtain ⟨h3, h4⟩ := bb h
  exact ⟨by rw [P.nm]; exact of_decide_eq_true h1, visB_ok P.esc h2, nb h3, nb h4⟩
theorem glB_ok {X : Cx} {L : Lo} {W : WX} (P : PX G S T X L W ex) {x : Str} (h : glB L x = true) : Gl X x ∧ (x == ("__debug__" : Str)) = false := by
  obtain ⟨h1, h2⟩ := bb h
  refine ⟨?_, nb h2⟩
  show X.env.kindOf x = some .globalImplicit
  unfold Env.kindOf
  rw [P.esc]
  split at h1
  · rename_i e; exact e
  · exact absurd h1 Bool.false_ne_true
theorem locB_ok {X : Cx} {L : Lo} {W : WX} (P : PX G S T X L W ex) {x : Str} (h : locB L x = true) : Loc X.env.scope x ∧ (X.fn x = true ∨ X.env.scope.names.lookup x = some .local) := by
  rw [P.esc, P.fnE]
  unfold locB at h
  split at h
  · rename_i e; exact ⟨.inl e, .inr e⟩
  · rename_i e; exact ⟨.inr e, .inl h⟩
  · exact absurd h Bool.false_ne_true
mutual
theorem snd_t : ∀ (g : Tg) (e : Expr) (X : Cx) (L : Lo) (W : WX), chkT S L g e = true → PX G S T X L W ex → PG X e (tG G ex A₀ H₀ g)
  | .n i, e, X, L, W, h, P => by
    rw [chkT.eq_def] at h
    dsimp only at h
    split at h
    · obtain ⟨h1, h2⟩ := bb h
      obtain ⟨k1, k2⟩ := locB_ok P h2
      exact sg_n P (by rw [P.nm]; exact of_decide_eq_true h1) k1 k2
    · exact absurd h Bool.false_ne_true
  | .t gs, e, X, L, W, h, P => by
    rw [chkT.eq_def] at h
    dsimp only at h
    split at h
    · obtain ⟨h1, h⟩ := bb h
      obtain ⟨h2, h⟩ := bb h
      obtain ⟨h3, h4⟩ := bb h
      exact sg_tup P h1 (snd_ts gs _ X L W h4 P) (of_decide_eq_true h2) h3
    · exact absurd h Bool.false_ne_true
theorem snd_ts : ∀ (g : Tgs) (e : List Expr) (X : Cx) (L : Lo) (W : WX), chkTs S L g e = true → PX G S T X L W ex → PGs X e (tGs G ex A₀ H₀ g)
  | .nil, e, X, L, W, h, P => by
    rw [chkTs.eq_def] at h
    dsimp only at h
    cases e with
    | nil => exact sgs_nil
    | cons => exact absurd h Bool.false_ne_true
  | .cons g r, e, X, L, W, h, P => by
    rw [chkTs.eq_def] at h
    dsimp only at h
    split at h
    · obtain ⟨h1, h2⟩ := bb h
      refine sgs_cons (snd_t g _ X L W h1 P) (snd_ts r _ X L W h2 P) ?_
      cases g <;> rw [chkT.eq_def] at h1 <;> dsimp only at h1 <;> split at h1 <;> first
        | rfl
        | exact absurd h1 Bool.false_ne_true
    · exact absurd h Bool.false_ne_true
end
def isBoolE : Expr → Bool
  | .BoolOp _ _ _ => true
  | _ => false
/-- what is wanted of an expression -/
structure SE (G : Sg) (T : Tab) (ex : ExI) (A₀ : Addr → Prop) (H₀ : Hp) (X : Cx) (W : WX) (i : Ex) (e : Expr) : Prop where
  pe : PE X e (tD G T W ex A₀ H₀ i)
  pt : PT X e (tDB G T W ex A₀ H₀ i)
  pw : isBoolE e = true → PW X e (tDB G T W ex A₀ H₀ i)
def plainE : Expr → Bool
  | .UnaryOp .Not _ _ => false
  | .BoolOp _ _ _ => false
  | .IfExp _ _ _ _ => false
  | .Compare _ _ _ _ => false
  | _ => true
theorem plain_test {e : Expr} (h : plainE e = true) (env : PySem.Env) : ∀ whole, isTrue e env whole = (do let v ← whole; standAt e.pos; holding [v] (truthy v)) := fun w => by
  cases e <;> first
    | rfl
    | exact absurd h Bool.false_ne_true
    | (rename_i op _ _; cases op <;> first | rfl | exact absurd h Bool.false_ne_true)
theorem SE.val {X : Cx} {W : WX} {i : Ex} {e : Expr} (h : PE X e (tD G T W ex A₀ H₀ i)) (hp : plainE e = true) : SE G T ex A₀ H₀ X W i e :=
  ⟨h, st_val h (plain_test hp _), fun hb => by cases e <;> first | exact absurd hb Bool.false_ne_true | exact absurd hp Bool.false_ne_true⟩
theorem SE.tst {X : Cx} {W : WX} {i : Ex} {e : Expr} (h : PE X e (tD G T W ex A₀ H₀ i)) (h2 : PT X e (tDB G T W ex A₀ H₀ i)) (hp : isBoolE e = false) : SE G T ex A₀ H₀ X W i e :=
  ⟨h, h2, fun hb => by rw [hp] at hb; exact absurd hb Bool.false_ne_true⟩
theorem blk_ok {X : Cx} {L : Lo} {W : WX} (P : PX G S T X L W ex) {scope : Scope} {own : List Nat} (h : blkB S L.sc scope own = true) : BlkOk X.N X.env.scope scope (ownL S own) := by
  rw [P.nm, P.esc]
  exact blkB_ok h
theorem all_mem {ns own : List Nat} (h : (ns.all fun j => decide (j ∈ own)) = true) : ∀ j ∈ ns, j ∈ own := fun j hj => of_decide_eq_true (List.all_eq_true.mp h j hj)
mutual
theorem snd : ∀ (i : Ex) (e : Expr) (X : Cx) (L : Lo) (W : WX), chk S L i e = true → PX G S T X L W ex → FiOk G T → SE G T ex A₀ H₀ X W i e
  | .var i, e, X, L, W, h, P, F => by
    rw [chk.eq_def] at h
    dsimp only at h
    split at h
    · obtain ⟨h1, h2, h3, h4⟩ := nmB_ok P h
      exact .val (se_var h1 h2 h3 h4) rfl
    · exact absurd h Bool.false_ne_true
  | .cI i, e, X, L, W, h, P, F => by
    rw [chk.eq_def] at h
    dsimp only at h
    split at h
    · rw [of_decide_eq_true h]; exact .val se_int rfl
    · exact absurd h Bool.false_ne_true
  | .cB b, e, X, L, W, h, P, F => by
    rw [chk.eq_def] at h
    dsimp only at h
    split at h
    · rw [of_decide_eq_true h]; exact .val se_bl rfl
    · exact absurd h Bool.false_ne_true
  | .cN, e, X, L, W, h, P, F => by
    rw [chk.eq_def] at h
    dsimp only at h
    split at h
    · exact .val se_non rfl
    · exact absurd h Bool.false_ne_true
  | .cS s, e, X, L, W, h, P, F => by
    rw [chk.eq_def] at h
    dsimp only at h
    split at h
    · rw [of_decide_eq_true h]; exact .val se_str rfl
    · exact absurd h Bool.false_ne_true
  | .gI x i, e, X, L, W, h, P, F => by
    rw [chk.eq_def] at h
    dsimp only at h
    split at h
    · obtain ⟨h1, h⟩ := bb h
      obtain ⟨h2, h3⟩ := bb h
      cases of_decide_eq_true h1
      obtain ⟨t, ht⟩ := P.gi _ (of_decide_eq_true h3)
      obtain ⟨g1, g2⟩ := glB_ok P h2
      exact .val (se_gI g1 ht g2) rfl
    · exact absurd h Bool.false_ne_true
  | .gS x i, e, X, L, W, h, P, F => by
    rw [chk.eq_def] at h
    dsimp only at h
    split at h
    · obtain ⟨h1, h⟩ := bb h
      obtain ⟨h2, h3⟩ := bb h
      cases of_decide_eq_true h1
      obtain ⟨t, ht⟩ := P.gs _ (of_decide_eq_true h3)
      obtain ⟨g1, g2⟩ := glB_ok P h2
      exact .val (se_gS g1 ht g2) rfl
    · exact absurd h Bool.false_ne_true
  | .bin o a b, e, X, L, W, h, P, F => by
    rw [chk.eq_def] at h
    dsimp only at h
    split at h
    · obtain ⟨h1, h⟩ := bb h
      obtain ⟨h2, h3⟩ := bb h
      rw [opB_ok h1]
      exact .val (se_bin P (snd a _ X L W h2 P F).pe (snd b _ X L W h3 P F).pe) rfl
    · exact absurd h Bool.false_ne_true
  | .neg a, e, X, L, W, h, P, F => by
    rw [chk.eq_def] at h
    dsimp only at h
    split at h
    · exact .val (se_neg (snd a _ X L W h P F).pe) rfl
    · exact absurd h Bool.false_ne_true
  | .cmp o a b, e, X, L, W, h, P, F => by
    rw [chk.eq_def] at h
    dsimp only at h
    split at h
    · obtain ⟨h1, h⟩ := bb h
      obtain ⟨h0, h⟩ := bb h
      obtain ⟨h2, h3⟩ := bb h
      have e := cmpB_ok h1
      subst e
      exact .tst (se_cmp P (snd a _ X L W h2 P F).pe (snd b _ X L W h3 P F).pe (nb h0)) (st_cmp P (snd a _ X L W h2 P F).pe (snd b _ X L W h3 P F).pe (nb h0)) rfl
    · exact absurd h Bool.false_ne_true
  | .cmp2 o o' a b c, e, X, L, W, h, P, F => by
    rw [chk.eq_def] at h
    dsimp only at h
    split at h
    · obtain ⟨h1, h⟩ := bb h
      obtain ⟨h2, h⟩ := bb h
      obtain ⟨h0, h⟩ := bb h
      obtain ⟨h3, h⟩ := bb h
      obtain ⟨h4, h5⟩ := bb h
      have e := cmpB_ok h1
      have e' := cmpB_ok h2
      subst e e'
      exact .tst (se_cmp2 P (snd a _ X L W h3 P F).pe (snd b _ X L W h4 P F).pe (snd c _ X L W h5 P F).pe (nb h0)) (st_cmp2 P (snd a _ X L W h3 P F).pe (snd b _ X L W h4 P F).pe (snd c _ X L W h5 P F).pe (nb h0)) rfl
    · exact absurd h Bool.false_ne_true
  | .isN a, e, X, L, W, h, P, F => by
    rw [chk.eq_def] at h
    dsimp only at h
    split at h
    · exact .tst (se_isN (snd a _ X L W h P F).pe) (st_isN (snd a _ X L W h P F).pe) rfl
    · exact absurd h Bool.false_ne_true
  | .notN a, e, X, L, W, h, P, F => by
    rw [chk.eq_def] at h
    dsimp only at h
    split at h
    · exact .tst (se_notN (snd a _ X L W h P F).pe) (st_notN (snd a _ X L W h P F).pe) rfl
    · exact absurd h Bool.false_ne_true
  | .and a b, e, X, L, W, h, P, F => by
    rw [chk.eq_def] at h
    dsimp only at h
    split at h
    · obtain ⟨h1, h2⟩ := bb h
      have A := snd a _ X L W h1 P F
      have B := snd b _ X L W h2 P F
      exact ⟨se_and A.pe (pe_one B.pe), (sw_and A.pt (pw_and1 B.pt)).pt, fun _ => sw_and A.pt (pw_and1 B.pt)⟩
    · obtain ⟨h1, h2⟩ := bb h
      have A := snd a _ X L W h1 P F
      have B := snd b _ X L W h2 P F
      exact ⟨se_and A.pe B.pe, (sw_and A.pt (B.pw rfl)).pt, fun _ => sw_and A.pt (B.pw rfl)⟩
    · exact absurd h Bool.false_ne_true
  | .or a b, e, X, L, W, h, P, F => by
    rw [chk.eq_def] at h
    dsimp only at h
    split at h
    · obtain ⟨h1, h2⟩ := bb h
      have A := snd a _ X L W h1 P F
      have B := snd b _ X L W h2 P F
      exact ⟨se_or A.pe (pe_one B.pe), (sw_or A.pt (pw_or1 B.pt)).pt, fun _ => sw_or A.pt (pw_or1 B.pt)⟩
    · obtain ⟨h1, h2⟩ := bb h
      have A := snd a _ X L W h1 P F
      have B := snd b _ X L W h2 P F
      exact ⟨se_or A.pe B.pe, (sw_or A.pt (B.pw rfl)).pt, fun _ => sw_or A.pt (B.pw rfl)⟩
    · exact absurd h Bool.false_ne_true
  | .not a, e, X, L, W, h, P, F => by
    rw [chk.eq_def] at h
    dsimp only at h
    split at h
    · exact .tst (se_not (snd a _ X L W h P F).pe) (st_not (snd a _ X L W h P F).pt) rfl
    · exact absurd h Bool.false_ne_true
  | .ite c a b, e, X, L, W, h, P, F => by
    rw [chk.eq_def] at h
    dsimp only at h
    split at h
    · obtain ⟨h1, h⟩ := bb h
      obtain ⟨h2, h3⟩ := bb h
      exact .tst (se_ite (snd c _ X L W h1 P F).pt (snd a _ X L W h2 P F).pe (snd b _ X L W h3 P F).pe) (st_ite (snd c _ X L W h1 P F).pt (snd a _ X L W h2 P F).pt (snd b _ X L W h3 P F).pt) rfl
    · exact absurd h Bool.false_ne_true
  | .tup es, e, X, L, W, h, P, F => by
    rw [chk.eq_def] at h
    dsimp only at h
    split at h
    · exact .val (se_tup (snds es _ X L W h P F)) rfl
    · exact absurd h Bool.false_ne_true
  | .lst es, e, X, L, W, h, P, F => by
    rw [chk.eq_def] at h
    dsimp only at h
    split at h
    · exact .val (se_lst (snds es _ X L W h P F)) rfl
    · exact absurd h Bool.false_ne_true
  | .newD t, e, X, L, W, h, P, F => by
    rw [chk.eq_def] at h
    dsimp only at h
    split at h
    · cases t with
      | true => exact .val se_newT rfl
      | false => exact .val se_newK rfl
    · exact absurd h Bool.false_ne_true
  | .idx a b, e, X, L, W, h, P, F => by
    rw [chk.eq_def] at h
    dsimp only at h
    split at h
    · obtain ⟨h1, h⟩ := bb h
      obtain ⟨h2, h3⟩ := bb h
      exact .val (se_idx P (snd a _ X L W h2 P F).pe (snd b _ X L W h3 P F).pe h1) rfl
    · exact absurd h Bool.false_ne_true
  | .slL a l, e, X, L, W, h, P, F => by
    rw [chk.eq_def] at h
    dsimp only at h
    split at h
    · obtain ⟨h2, h3⟩ := bb h
      exact .val (se_slL (snd a _ X L W h2 P F).pe (snd l _ X L W h3 P F).pe) rfl
    · exact absurd h Bool.false_ne_true
  | .slU a l, e, X, L, W, h, P, F => by
    rw [chk.eq_def] at h
    dsimp only at h
    split at h
    · obtain ⟨h2, h3⟩ := bb h
      exact .val (se_slU (snd a _ X L W h2 P F).pe (snd l _ X L W h3 P F).pe) rfl
    · exact absurd h Bool.false_ne_true
  | .slB a l u, e, X, L, W, h, P, F => by
    rw [chk.eq_def] at h
    dsimp only at h
    split at h
    · obtain ⟨h2, h⟩ := bb h
      obtain ⟨h3, h4⟩ := bb h
      exact .val (se_slB (snd a _ X L W h2 P F).pe (snd l _ X L W h3 P F).pe (snd u _ X L W h4 P F).pe) rfl
    · exact absurd h Bool.false_ne_true
  | .fld a y, e, X, L, W, h, P, F => by
    rw [chk.eq_def] at h
    dsimp only at h
    split at h
    · obtain ⟨h1, h⟩ := bb h
      obtain ⟨h2, h3⟩ := bb h
      rw [of_decide_eq_true h1]
      exact .val (se_fld P F (snd a _ X L W h3 P F).pe h2) rfl
    · exact absurd h Bool.false_ne_true
  | .call f es, e, X, L, W, h, P, F => by
    rw [chk.eq_def] at h
    dsimp only at h
    split at h
    · rename_i x p xs p2
      obtain ⟨hc, h⟩ := bb h
      obtain ⟨h1, h⟩ := bb h
      obtain ⟨h2, h⟩ := bb h
      obtain ⟨h3, h4⟩ := bb h
      obtain ⟨g1, g2⟩ := glB_ok P h2
      cases xs with
      | nil =>
        cases es with
        | nil => exact .val (se_call0 P hc (of_decide_eq_true h1) g1 g2) rfl
        | cons i r => rw [chks.eq_def] at h4; exact absurd h4 Bool.false_ne_true
        | star i r => rw [chks.eq_def] at h4; exact absurd h4 Bool.false_ne_true
      | cons a xs => exact .val (se_call P hc (of_decide_eq_true h1) g1 g2 h3 (snds es _ X L W h4 P F)) rfl
    · exact absurd h Bool.false_ne_true
  | .mk c f es, e, X, L, W, h, P, F => by
    rw [chk.eq_def] at h
    dsimp only at h
    split at h
    · obtain ⟨hc, h⟩ := bb h
      obtain ⟨h1, h⟩ := bb h
      obtain ⟨h0, h⟩ := bb h
      obtain ⟨h2, h⟩ := bb h
      obtain ⟨h3, h4⟩ := bb h
      obtain ⟨g1, g2⟩ := glB_ok P h2
      exact .val (se_mk P hc (of_decide_eq_true h1) (P.ini _ _ (of_decide_eq_true h0)) g1 g2 h3 (snds es _ X L W h4 P F)) rfl
    · exact absurd h Bool.false_ne_true
  | .bi b es, e, X, L, W, h, P, F => by
    rw [chk.eq_def] at h
    dsimp only at h
    split at h
    · obtain ⟨hc, h⟩ := bb h
      obtain ⟨h1, h⟩ := bb h
      obtain ⟨h0, h⟩ := bb h
      obtain ⟨h2, h⟩ := bb h
      obtain ⟨h3, h4⟩ := bb h
      obtain ⟨g1, g2⟩ := glB_ok P h2
      have e := of_decide_eq_true h1
      subst e
      exact .val (se_bi P hc (of_decide_eq_true h0) g1 h3 (snds es _ X L W h4 P F)) rfl
    · exact absurd h Bool.false_ne_true
  | .isi a t, e, X, L, W, h, P, F => by
    rw [chk.eq_def] at h
    dsimp only at h
    split at h
    · obtain ⟨h1, h⟩ := bb h
      obtain ⟨h2, h⟩ := bb h
      obtain ⟨h3, h⟩ := bb h
      obtain ⟨h4, h⟩ := bb h
      obtain ⟨h5, h⟩ := bb h
      obtain ⟨h6, h⟩ := bb h
      obtain ⟨h7, h8⟩ := bb h
      have e := of_decide_eq_true h1
      have e' := of_decide_eq_true h2
      subst e e'
      exact .val (se_isi P (of_decide_eq_true h4) (glB_ok P h6).1 (of_decide_eq_true h3) (glB_ok P h5).1 h7 (snd a _ X L W h8 P F).pe) rfl
    · exact absurd h Bool.false_ne_true
  | .isC a c, e, X, L, W, h, P, F => by
    rw [chk.eq_def] at h
    dsimp only at h
    exact absurd h Bool.false_ne_true
  | .isE i c, e, X, L, W, h, P, F => by
    rw [chk.eq_def] at h
    dsimp only at h
    split at h
    · obtain ⟨h0, h⟩ := bb h
      obtain ⟨h1, h⟩ := bb h
      obtain ⟨h3, h⟩ := bb h
      obtain ⟨h5, h⟩ := bb h
      obtain ⟨h6, h⟩ := bb h
      obtain ⟨h7, h8⟩ := bb h
      have e := of_decide_eq_true h1
      subst e
      obtain ⟨k1, k2, k3, k4⟩ := nmB_ok P h7
      rcases Bool.or_eq_true_iff.mp h8 with h8 | h8
      · exact .val (se_isE P (nb h0) k1 k2 k3 k4 (of_decide_eq_true h8) (glB_ok P h6).1 (glB_ok P h6).2 (of_decide_eq_true h3) (glB_ok P h5).1) rfl
      · obtain ⟨h9, h8⟩ := bb h8
        obtain ⟨h10, h11⟩ := bb h8
        have e9 := of_decide_eq_true h9
        have e10 := of_decide_eq_true h10
        subst e9 e10
        exact .val (se_isV P (nb h0) k1 k2 k3 k4 (of_decide_eq_true h11) (glB_ok P h6).1 (of_decide_eq_true h3) (glB_ok P h5).1) rfl
    · exact absurd h Bool.false_ne_true
  | .fldE i c, e, X, L, W, h, P, F => by
    rw [chk.eq_def] at h
    dsimp only at h
    exact absurd h Bool.false_ne_true
  | .lR (.r1 a), e, X, L, W, h, P, F => by
    rw [chk.eq_def] at h
    dsimp only at h
    split at h
    · obtain ⟨hc, h⟩ := bb h
      obtain ⟨h1, h⟩ := bb h
      obtain ⟨h2, h⟩ := bb h
      obtain ⟨h3, h⟩ := bb h
      obtain ⟨h4, h⟩ := bb h
      obtain ⟨h5, h⟩ := bb h
      obtain ⟨h6, h⟩ := bb h
      obtain ⟨h7, h8⟩ := bb h
      have e := of_decide_eq_true h1
      have e' := of_decide_eq_true h3
      subst e e'
      exact .val (se_lR1 P hc (of_decide_eq_true h2) (glB_ok P h5).1 (of_decide_eq_true h4) (glB_ok P h6).1 h7 (snd a _ X L W h8 P F).pe) rfl
    · exact absurd h Bool.false_ne_true
  | .lR (.e _), e, X, L, W, h, P, F => by
    rw [chk.eq_def] at h
    dsimp only at h
    exact absurd h Bool.false_ne_true
  | .lR (.r2 _ _), e, X, L, W, h, P, F => by
    rw [chk.eq_def] at h
    dsimp only at h
    exact absurd h Bool.false_ne_true
  | .lR (.en _), e, X, L, W, h, P, F => by
    rw [chk.eq_def] at h
    dsimp only at h
    exact absurd h Bool.false_ne_true
  | .lR (.zp _ _), e, X, L, W, h, P, F => by
    rw [chk.eq_def] at h
    dsimp only at h
    exact absurd h Bool.false_ne_true
  | .tR (.r1 a), e, X, L, W, h, P, F => by
    rw [chk.eq_def] at h
    dsimp only at h
    split at h
    · obtain ⟨hc, h⟩ := bb h
      obtain ⟨h1, h⟩ := bb h
      obtain ⟨h2, h⟩ := bb h
      obtain ⟨h3, h⟩ := bb h
      obtain ⟨h4, h⟩ := bb h
      obtain ⟨h5, h⟩ := bb h
      obtain ⟨h6, h⟩ := bb h
      obtain ⟨h7, h8⟩ := bb h
      have e := of_decide_eq_true h1
      have e' := of_decide_eq_true h3
      subst e e'
      exact .val (se_tR1 P hc (of_decide_eq_true h2) (glB_ok P h5).1 (of_decide_eq_true h4) (glB_ok P h6).1 h7 (snd a _ X L W h8 P F).pe) rfl
    · exact absurd h Bool.false_ne_true
  | .tR (.e _), e, X, L, W, h, P, F => by
    rw [chk.eq_def] at h
    dsimp only at h
    exact absurd h Bool.false_ne_true
  | .tR (.r2 _ _), e, X, L, W, h, P, F => by
    rw [chk.eq_def] at h
    dsimp only at h
    exact absurd h Bool.false_ne_true
  | .tR (.en _), e, X, L, W, h, P, F => by
    rw [chk.eq_def] at h
    dsimp only at h
    exact absurd h Bool.false_ne_true
  | .tR (.zp _ _), e, X, L, W, h, P, F => by
    rw [chk.eq_def] at h
    dsimp only at h
    exact absurd h Bool.false_ne_true
  | .lc own g it ifs e, x, X, L, W, h, P, F => by
    rw [chk.eq_def] at h
    dsimp only at h
    split at h
    · rename_i elt tg iter xifs scope pos
      obtain ⟨hc, h⟩ := bb h
      obtain ⟨h1, h⟩ := bb h
      obtain ⟨h2, h⟩ := bb h
      obtain ⟨h3, h⟩ := bb h
      obtain ⟨h4, h⟩ := bb h
      obtain ⟨h5, h⟩ := bb h
      obtain ⟨h6, h7⟩ := bb h
      have z := se_lc (pos := pos) (own := ownL S own) (g := g) P hc (sndI it _ _ X L W h3 P F) (blk_ok P h1) (fun s H C cl fp => snd_t g _ _ _ _ h2 (P.blk hc s H _ C cl fp)) (fun s H C cl fp => sndF ifs _ _ _ _ h4 (P.blk hc s H _ C cl fp) F)
        (fun s H C cl fp => (snd e _ _ _ _ h5 (P.blk hc s H _ C cl fp) F).pe) (fun x => folded_no h6 _ x) (by rw [ownL_snd]; exact all_mem h7)
      rw [ownL_snd] at z
      exact .val z rfl
    · exact absurd h Bool.false_ne_true
  | .lc2 own own2 g it ifs g2 it2 ifs2 e, x, X, L, W, h, P, F => by
    rw [chk.eq_def] at h
    dsimp only at h
    split at h
    · rename_i elt tg iter xifs tg2 iter2 xifs2 scope pos
      obtain ⟨hc, h⟩ := bb h
      obtain ⟨h1, h⟩ := bb h
      obtain ⟨h2, h⟩ := bb h
      obtain ⟨h3, h⟩ := bb h
      obtain ⟨h4, h⟩ := bb h
      obtain ⟨h5, h⟩ := bb h
      obtain ⟨h6, h⟩ := bb h
      obtain ⟨h7, h⟩ := bb h
      obtain ⟨h8, h⟩ := bb h
      obtain ⟨h9, h⟩ := bb h
      obtain ⟨h10, h⟩ := bb h
      obtain ⟨h11, h⟩ := bb h
      obtain ⟨h12, h13⟩ := bb h
      have z := se_lc2 (pos := pos) (own := ownL S own) (vs1 := own2) (g := g) (g2 := g2) P hc (sndI it _ _ X L W h3 P F) (blk_ok P h1) (by rw [ownL_snd]; exact all_mem h13) (fun s H C cl fp => snd_t g _ _ _ _ h2 (P.blk hc s H _ C cl fp)) (fun s H C cl fp => sndF ifs _ _ _ _ h4 (P.blk hc s H _ C cl fp) F)
        (fun s H C cl fp => sndI it2 _ _ _ _ _ h9 (P.blk hc s H _ C cl fp) F) (fun s H C cl fp => snd_t g2 _ _ _ _ h8 (P.blk hc s H _ C cl fp)) (fun s H C cl fp => sndF ifs2 _ _ _ _ h10 (P.blk hc s H _ C cl fp) F)
        (fun s H C cl fp => (snd e _ _ _ _ h5 (P.blk hc s H _ C cl fp) F).pe) (fun x => folded_no h6 _ x) (fun env x => folded_no h11 env x) (by rw [ownL_snd]; exact all_mem h7) (all_mem h12)
      rw [ownL_snd] at z
      exact .val z rfl
    · exact absurd h Bool.false_ne_true
  | .dc own g it ifs k v, x, X, L, W, h, P, F => by
    rw [chk.eq_def] at h
    dsimp only at h
    split at h
    · rename_i kx vx tg iter xifs scope pos
      obtain ⟨hc, h⟩ := bb h
      obtain ⟨h1, h⟩ := bb h
      obtain ⟨h2, h⟩ := bb h
      obtain ⟨h3, h⟩ := bb h
      obtain ⟨h4, h⟩ := bb h
      obtain ⟨h5, h⟩ := bb h
      obtain ⟨h6, h⟩ := bb h
      obtain ⟨h7, h8⟩ := bb h
      have z := se_dc (pos := pos) (own := ownL S own) (g := g) P hc (sndI it _ _ X L W h3 P F) (blk_ok P h1) (fun s H C cl fp => snd_t g _ _ _ _ h2 (P.blk hc s H _ C cl fp)) (fun s H C cl fp => sndF ifs _ _ _ _ h4 (P.blk hc s H _ C cl fp) F)
        (fun s H C cl fp => (snd k _ _ _ _ h5 (P.blk hc s H _ C cl fp) F).pe) (fun s H C cl fp => (snd v _ _ _ _ h6 (P.blk hc s H _ C cl fp) F).pe) (fun x => folded_no h7 _ x) (by rw [ownL_snd]; exact all_mem h8)
      rw [ownL_snd] at z
      exact .val z rfl
    · exact absurd h Bool.false_ne_true
theorem snds : ∀ (es : Exs) (e : List Expr) (X : Cx) (L : Lo) (W : WX), chks S L es e = true → PX G S T X L W ex → FiOk G T → PA X e (tDs G T W ex A₀ H₀ es)
  | .nil, e, X, L, W, h, P, F => by
    rw [chks.eq_def] at h
    dsimp only at h
    cases e with
    | nil => exact sa_nil
    | cons => exact absurd h Bool.false_ne_true
  | .cons i r, e, X, L, W, h, P, F => by
    rw [chks.eq_def] at h
    dsimp only at h
    split at h
    · obtain ⟨h1, h⟩ := bb h
      obtain ⟨h2, h3⟩ := bb h
      exact sa_cons (snd i _ X L W h2 P F).pe (snds r _ X L W h3 P F) h1
    · exact absurd h Bool.false_ne_true
  | .star i r, e, X, L, W, h, P, F => by
    rw [chks.eq_def] at h
    dsimp only at h
    split at h
    · obtain ⟨h2, h3⟩ := bb h
      exact sa_star P.hG (snd i _ X L W h2 P F).pe (snds r _ X L W h3 P F)
    · exact absurd h Bool.false_ne_true
theorem sndF : ∀ (es : Exs) (e : List Expr) (X : Cx) (L : Lo) (W : WX), chkF S L es e = true → PX G S T X L W ex → FiOk G T → PTs X e (tAll G T W ex A₀ H₀ es)
  | .nil, e, X, L, W, h, P, F => by
    rw [chkF.eq_def] at h
    dsimp only at h
    cases e with
    | nil => exact sts_nil
    | cons => exact absurd h Bool.false_ne_true
  | .cons i r, e, X, L, W, h, P, F => by
    rw [chkF.eq_def] at h
    dsimp only at h
    split at h
    · exact sts_one (snd i _ X L W h P F).pt
    · exact absurd h Bool.false_ne_true
  | .star i r, e, X, L, W, h, P, F => by
    rw [chkF.eq_def] at h
    dsimp only at h
    exact absurd h Bool.false_ne_true
theorem sndI : ∀ (it : It) (e tg : Expr) (X : Cx) (L : Lo) (W : WX), chkI S L it tg e = true → PX G S T X L W ex → FiOk G T → PI X tg e (tI G T W ex A₀ H₀ it)
  | .e a, e, tg, X, L, W, h, P, F => by
    rw [chkI.eq_def] at h
    dsimp only at h
    exact si_e P.hG (snd a _ X L W h P F).pe
  | .r1 a, e, tg, X, L, W, h, P, F => by
    rw [chkI.eq_def] at h
    dsimp only at h
    split at h
    · obtain ⟨h1, h⟩ := bb h
      obtain ⟨h2, h⟩ := bb h
      obtain ⟨h3, h⟩ := bb h
      obtain ⟨h4, h5⟩ := bb h
      have e := of_decide_eq_true h1
      subst e
      exact si_r1 P (of_decide_eq_true h2) (glB_ok P h3).1 h4 (snd a _ X L W h5 P F).pe
    · exact absurd h Bool.false_ne_true
  | .r2 a b, e, tg, X, L, W, h, P, F => by
    rw [chkI.eq_def] at h
    dsimp only at h
    split at h
    · obtain ⟨h1, h⟩ := bb h
      obtain ⟨h2, h⟩ := bb h
      obtain ⟨h3, h⟩ := bb h
      obtain ⟨h4, h⟩ := bb h
      obtain ⟨h5, h⟩ := bb h
      obtain ⟨h6, h7⟩ := bb h
      have e := of_decide_eq_true h1
      subst e
      exact si_r2 P (of_decide_eq_true h2) (glB_ok P h3).1 h4 h5 (snd a _ X L W h6 P F).pe (snd b _ X L W h7 P F).pe
    · exact absurd h Bool.false_ne_true
  | .en a, e, tg, X, L, W, h, P, F => by
    rw [chkI.eq_def] at h
    dsimp only at h
    split at h
    · obtain ⟨h1, h⟩ := bb h
      obtain ⟨h2, h⟩ := bb h
      obtain ⟨h3, h⟩ := bb h
      obtain ⟨h4, h5⟩ := bb h
      have e := of_decide_eq_true h1
      subst e
      exact si_en P (of_decide_eq_true h2) (glB_ok P h3).1 h4 (snd a _ X L W h5 P F).pe
    · exact absurd h Bool.false_ne_true
  | .zp a b, e, tg, X, L, W, h, P, F => by
    rw [chkI.eq_def] at h
    dsimp only at h
    split at h
    · obtain ⟨h1, h⟩ := bb h
      obtain ⟨h2, h⟩ := bb h
      obtain ⟨h3, h⟩ := bb h
      obtain ⟨h4, h⟩ := bb h
      obtain ⟨h5, h⟩ := bb h
      obtain ⟨h6, h7⟩ := bb h
      have e := of_decide_eq_true h1
      subst e
      exact si_zp P (of_decide_eq_true h2) (glB_ok P h3).1 h4 h5 (snd a _ X L W h6 P F).pe (snd b _ X L W h7 P F).pe
    · exact absurd h Bool.false_ne_true
end
end
end PD
end

section
set_option Elab.async false
set_option linter.all false
set_option maxRecDepth 100000
set_option maxHeartbeats 4000000
/-! PD, part 16: statements against the text's own trees. -/
namespace PD
open PySem PySem.Spec PyProof.Rows L2
/-- a comprehension that is stored within -/
def swB (L : Lo) (e : Expr) (x : Str) (p : Pos) : Bool := match e with
  | .ListComp _ _ s pos => lkB (L.sc.names.lookup x) .local && (p.line == pos.line && !(s.names.any fun (n, k) => n == x && (k == .local || k == .cell)))
  | .DictComp _ _ _ s pos => lkB (L.sc.names.lookup x) .local && (p.line == pos.line && !(s.names.any fun (n, k) => n == x && (k == .local || k == .cell)))
  | _ => false
def listC (L : Lo) (e : Expr) (x : Str) (p : Pos) : Bool := match e with
  | .ListComp _ _ _ _ => true
  | .DictComp a b c d e => !swB L (.DictComp a b c d e) x p
  | _ => false
theorem kB_iff {a b : NameKind} : kB a b = (a == b) ∨ (kB a b = false) := by
  cases a <;> cases b <;> first
    | exact .inl rfl
    | exact .inr rfl
theorem lk_loc (o : Option NameKind) : lkB o .local = (o == some .local) := by
  cases o with
  | none => rfl
  | some k => cases k <;> rfl
def sts1 (S : Sx) (L : Lo) : List Expr → Expr → Bool := fun _ _ => false
def parB (S : Sx) (L : Lo) (i j : Nat) (x y : Str) (px py : Pos) (ea eb : Expr) : Bool := decide (S.N[i]? = some x) && (decide (S.N[j]? = some y) && (decide (i ≠ j) && (decide (x ≠ y) && (lkB (L.sc.names.lookup x) .local && (lkB (L.sc.names.lookup y) .local && (decide (py.line = px.line) && (notStar ea && (notStar eb && (funB L.sc.kind && (![ea, eb].all (foldedForSure 8) && !([ea, eb].all (constantsAlone 8))))))))))))
mutual
def chkS (S : Sx) : Lo → Bool → St → Stmt → Bool
  | L, _, .asg g e, st => (match g, st with
    | .n i, .Assign [.Name x p] ee _ => decide (S.N[i]? = some x) && (locB L x && (funB L.sc.kind && ((notComp ee || listC L ee x p) && chk S L e ee)))
    | .t gs, .Assign [.Tuple ts n p] ee _ => chkT S L (.t gs) (.Tuple ts n p) && (notComp ee && (notTup ee && chk S L e ee))
    | _, _ => false)
  | L, _, .par i j a b, st => (match st with
    | .Assign [.Tuple [.Name x px, .Name y py] _ _] (.Tuple [ea, eb] _ _) _ => L.cm && (parB S L i j x y px py ea eb && (chk S L a ea && chk S L b eb))
    | _ => false)
  | L, _, .app i e, st => (match st with
    | .Expr (.Call (.Attribute (.Name x _) m apos) [ee] [] cpos) _ => decide (m = ("append" : Str)) && (nmB S L i x && (notStar ee && ((apos.endLine == cpos.line) && chk S L e ee)))
    | _ => false)
  | L, _, .ext i e, st => (match st with
    | .AugAssign (.Name x _) .Add ee _ => decide (S.N[i]? = some x) && (locB L x && chk S L e ee)
    | .Expr (.Call (.Attribute (.Name x _) m apos) [ee] [] cpos) _ => decide (m = ("extend" : Str)) && (nmB S L i x && (notStar ee && ((apos.endLine == cpos.line) && chk S L e ee)))
    | _ => false)
  | L, _, .sub i k e, st => (match st with
    | .Assign [.Subscript (.Name x _) ek _] ee _ => nmB S L i x && (notSlice ek && (chk S L k ek && chk S L e ee))
    | _ => false)
  | L, _, .fset y e, st => (match st with
    | .Assign [.Attribute (.Name x _) z _] ee _ => decide (z = y) && (nmB S L 0 x && chk S L e ee)
    | _ => false)
  | L, _, .fsub y k e, st => (match st with
    | .Assign [.Subscript (.Attribute (.Name x _) z _) ek _] ee _ => decide (z = y) && (nmB S L 0 x && (notSlice ek && (chk S L k ek && chk S L e ee)))
    | _ => false)
  | _, _, .aug _ _ _, _ => false
  | L, q, .ife c a b, st => (match st with
    | .If ec sa sb _ => chk S L c ec && (chkSs S L q a sa && chkSs S L q b sb)
    | _ => false)
  | L, q, .whl c b, st => (match st with
    | .While ec sb [] _ => !q && (L.cm && (chk S L c ec && chkSs S L false b sb))
    | _ => false)
  | L, q, .fr g it b, st => (match st with
    | .For tg iter sb [] _ => !q && (L.cm && (chkT S L g tg && (chkI S L it tg iter && (notSetE iter && chkSs S L false b sb))))
    | _ => false)
  | L, q, .frD g j b, st => (match st with
    | .For tg (.Name x _) sb [] _ => !q && (L.cm && (nmB S L j x && (chkT S L g tg && chkSs S L false b sb)))
    | _ => false)
  | L, _, .ret e, st => (match st with
    | .Return (some ee) _ => chk S L e ee
    | _ => false)
  | _, _, .retN, st => (match st with
    | .Return none _ => true
    | _ => false)
  | L, _, .rse c es, st => (match es, st with
    | .nil, .Raise (some (.Call (.Name x _) [] [] _)) none _ => L.cm && (decide (S.ename[c]? = some x) && glB L x)
    | _, _ => false)
  | L, _, .exp e, st => (match st with
    | .Expr ee _ => notComp ee && chk S L e ee
    | _ => false)
  | _, _, .pas, st => (match st with
    | .Pass _ => true
    | _ => false)
  | _, _, .brk, st => (match st with
    | .Break _ => true
    | _ => false)
  | _, _, .cnt, st => (match st with
    | .Continue _ => true
    | _ => false)
  | _, _, .nev, _ => true
  | L, _, .tryA b c i s, st => (match st with
    | .Try sb [.ExceptHandler (some (.Name x _)) (some n) (b₀ :: su) _] [] [] _ => L.cm && (decide (S.N[i]? = some n) && (lkB (L.sc.names.lookup n) .local && (decide (S.ename[c]? = some x) && (glB L x && (chkSs S L true b sb && chkSs S L.suite false s (b₀ :: su))))))
    | _ => false)
  | L, _, .tryO b c s, st => (match st with
    | .Try sb [.ExceptHandler (some (.Name x _)) none (b₀ :: su) _] [] [] _ => L.cm && (decide (S.ename[c]? = some x) && (glB L x && (chkSs S L true b sb && chkSs S L.suite false s (b₀ :: su))))
    | _ => false)
def chkSs (S : Sx) : Lo → Bool → Sts → List Stmt → Bool
  | _, _, .nil, ss => ss.isEmpty
  | L, q, .cons s r, ss => (match r, ss with
    | .nil, [x] => chkS S L q s x
    | r, x :: xs => !q && (chkS S L false s x && chkSs S L false r xs)
    | _, [] => false)
end
section
variable {G : Sg} {S : Sx} {T : Tab}
theorem swB_ok {X : Cx} {L : Lo} {W : WX} {ex : ExI} (P : PX G S T X L W ex) (hk : funB L.sc.kind = true) {e : Expr} {x : Str} {p : Pos} (h : (notComp e || listC L e x p) = true) (l : Nat) : swapsWith e (some (.Name x p)) l X.env = pure (swB L e x p) := by
  rcases Bool.or_eq_true_iff.mp h with h | h
  · rw [swaps_no h]
    cases e <;> first
      | rfl
      | exact absurd h Bool.false_ne_true
  · cases e with
    | ListComp elt gens s pos =>
      have hb : (X.env.blockKind == ScopeKind.function) = true := by
        unfold Env.blockKind
        rw [P.esc, funB_ok hk]
        rfl
      show (pure (X.env.blockKind == .function && X.env.kindOf x == some .local && p.line == pos.line && !(s.names.any fun (n, k) => n == x && (k == .local || k == .cell))) : Sem Bool) = pure (swB L (.ListComp elt gens s pos) x p)
      unfold swB
      rw [hb, Bool.true_and, lk_loc, show X.env.kindOf x = L.sc.names.lookup x by unfold Env.kindOf; rw [P.esc], Bool.and_assoc]
    | DictComp kx vx gens s pos =>
      have hb : (X.env.blockKind == ScopeKind.function) = true := by
        unfold Env.blockKind
        rw [P.esc, funB_ok hk]
        rfl
      show (pure (X.env.blockKind == .function && X.env.kindOf x == some .local && p.line == pos.line && !(s.names.any fun (n, k) => n == x && (k == .local || k == .cell))) : Sem Bool) = pure (swB L (.DictComp kx vx gens s pos) x p)
      unfold swB
      rw [hb, Bool.true_and, lk_loc, show X.env.kindOf x = L.sc.names.lookup x by unfold Env.kindOf; rw [P.esc], Bool.and_assoc]
    | _ => exact absurd h Bool.false_ne_true
theorem par_swap {X : Cx} {L : Lo} {W : WX} {ex : ExI} (P : PX G S T X L W ex) {i j : Nat} {x y : Str} {px py pt pt2 : Pos} {kt k2 : Nat} {ea eb : Expr} (h : parB S L i j x y px py ea eb = true) :
    swappedStores [.Tuple [.Name x px, .Name y py] kt pt] (.Tuple [ea, eb] k2 pt2) X.env = pure (some [x, y]) := by
  unfold parB at h
  obtain ⟨_, h⟩ := bb h
  obtain ⟨_, h⟩ := bb h
  obtain ⟨_, h⟩ := bb h
  obtain ⟨hxy, h⟩ := bb h
  obtain ⟨hx, h⟩ := bb h
  obtain ⟨hy, h⟩ := bb h
  obtain ⟨hl, h⟩ := bb h
  obtain ⟨h1, h⟩ := bb h
  obtain ⟨h2, h⟩ := bb h
  obtain ⟨hk, h⟩ := bb h
  obtain ⟨h3, h4⟩ := bb h
  have hxy := of_decide_eq_true hxy
  have hl := of_decide_eq_true hl
  have kx : X.env.kindOf x = some .local := by unfold Env.kindOf; rw [P.esc]; exact lkB_ok hx
  have ky : X.env.kindOf y = some .local := by unfold Env.kindOf; rw [P.esc]; exact lkB_ok hy
  have hb : (X.env.blockKind != ScopeKind.function) = false := by
    unfold Env.blockKind
    rw [P.esc, funB_ok hk]
    rfl
  have e3 : [x, y].eraseDups = [x, y] := by
    have z : (y == x) = false := by simp; exact fun e => hxy e.symm
    simp [List.eraseDups_cons, z]
  have h3 := nb h3
  have h4 := nb h4
  unfold swappedStores
  simp only [List.length_cons, List.length_nil, hb, List.any_cons, List.any_nil, List.head?_cons, Option.map_some, Option.getD_some, List.filterMap_cons, List.filterMap_nil, kx, ky, Expr.pos, hl, h3, h4]
  simp
  rw [if_neg, e3]
  · rfl
  · intro h
    rcases h with h | h
    · split at h
      · exact absurd h1 Bool.false_ne_true
      · exact absurd h Bool.false_ne_true
    · split at h
      · exact absurd h2 Bool.false_ne_true
      · exact absurd h Bool.false_ne_true
/-- in an except suite -/
theorem PY.suite {X : Cx} {L : Lo} {W : WX} {ex : ExI} {a : Addr} {oe : Obj} {pn : List (Addr × Obj)} {cls : Value} {d : Option Addr} (P : PY G S T X L W ex) (hz : Zc cls d oe) (hf : ∃ vs, oe.data = .fields vs) : PY G S T (X.suite a ((a, oe) :: pn)) L.suite noW ⟨some (a, cls, d), ex.s⟩ where
  px := P.px.suite P.hE hz hf
  pass := fun z => absurd z (fun h => nomatch h)
  hE := P.hE
  hs := fun z => absurd z (fun h => nomatch h)
  hf := fun z => absurd z (fun h => nomatch h)
theorem PY.tr {X : Cx} {L : Lo} {W W' : WX} {ex : ExI} {pn : List (Addr × Obj)} {xe : Value → Shared → Prop} (P : PY G S T X L W ex) (hc : L.cm = true) (tk : Takes (X.tr pn xe) W') (hp : PassesOwn (model X.prog X.w) X.A X.env xe) : PY G S T (X.tr pn xe) L W' ex where
  px := P.px.tr hc tk
  pass := fun _ => hp
  hE := P.hE
  hs := P.hs
  hf := P.hf
mutual
theorem sndS : ∀ (s : St) (st : Stmt) (q : Bool) (X : Cx) (L : Lo) (W : WX) (ex : ExI) (A₀ : Addr → Prop) (H₀ : Hp), chkS S L q s st = true → PY G S T X L W ex → FiOk G T → (L.cm = true → ex.e = none) → PS X st (tS G T W ex A₀ H₀ q s)
  | .asg g e, st, q, X, L, W, ex, A₀, H₀, h, P, F, hx => by
    rw [chkS.eq_def] at h
    dsimp only at h
    split at h
    · rename_i i x p ee pos
      obtain ⟨h1, h⟩ := bb h
      obtain ⟨h2, h⟩ := bb h
      obtain ⟨h3, h⟩ := bb h
      obtain ⟨h4, h5⟩ := bb h
      obtain ⟨k1, k2⟩ := locB_ok P.px h2
      have sw := swB_ok P.px h3 h4 pos.line
      have hi : X.N[i]? = some x := by rw [P.px.nm]; exact of_decide_eq_true h1
      cases b : swB L ee x p with
      | false =>
        rw [b] at sw
        exact ss_set P.px hi k1 k2 (snd e ee X L W h5 P.px F).pe sw
      | true =>
        rw [b] at sw
        cases ee with
        | ListComp elt gens scope cpos =>
          have hloc : X.env.scope.names.lookup x = some .local := by
            rw [P.px.esc]
            exact lkB_ok (bb b).1
          cases e with
          | lc own g it ifs e =>
            rw [chk.eq_def] at h5
            dsimp only at h5
            split at h5
            · rename_i elt' tg iter xifs scope' pos' heq
              cases heq
              obtain ⟨hc, h5⟩ := bb h5
              obtain ⟨h6, h5⟩ := bb h5
              obtain ⟨h7, h5⟩ := bb h5
              obtain ⟨h8, h5⟩ := bb h5
              obtain ⟨h9, h5⟩ := bb h5
              obtain ⟨h10, h5⟩ := bb h5
              obtain ⟨h11, h12⟩ := bb h5
              have z := ss_setLc (A₀ := A₀) (H₀ := H₀) (q := q) (own := ownL S own) (g := g) P.px hc hi hloc sw (sndI it _ _ X L W h8 P.px F) (blk_ok P.px h6) (fun s H C cl fp => snd_t g _ _ _ _ h7 (P.px.blk hc s H _ C cl fp)) (fun s H C cl fp => sndF ifs _ _ _ _ h9 (P.px.blk hc s H _ C cl fp) F)
                (fun s H C cl fp => (snd e _ _ _ _ h10 (P.px.blk hc s H _ C cl fp) F).pe) (fun x => folded_no h11 _ x) (by rw [ownL_snd]; exact all_mem h12)
              rw [ownL_snd] at z
              exact z
            · exact absurd h5 Bool.false_ne_true
          | lc2 own own2 g it ifs g2 it2 ifs2 e =>
            rw [chk.eq_def] at h5
            dsimp only at h5
            split at h5
            · rename_i elt' tg iter xifs tg2 iter2 xifs2 scope' pos' heq
              cases heq
              obtain ⟨hc, h5⟩ := bb h5
              obtain ⟨h6, h5⟩ := bb h5
              obtain ⟨h7, h5⟩ := bb h5
              obtain ⟨h8, h5⟩ := bb h5
              obtain ⟨h9, h5⟩ := bb h5
              obtain ⟨h10, h5⟩ := bb h5
              obtain ⟨h11, h5⟩ := bb h5
              obtain ⟨h12, h5⟩ := bb h5
              obtain ⟨h13, h5⟩ := bb h5
              obtain ⟨h14, h5⟩ := bb h5
              obtain ⟨h15, h5⟩ := bb h5
              obtain ⟨h16, h5⟩ := bb h5
              obtain ⟨h17, h18⟩ := bb h5
              have z := ss_setLc2 (A₀ := A₀) (H₀ := H₀) (q := q) (own := ownL S own) (vs1 := own2) (g := g) (g2 := g2) P.px hc hi hloc sw (sndI it _ _ X L W h8 P.px F) (blk_ok P.px h6) (by rw [ownL_snd]; exact all_mem h18) (fun s H C cl fp => snd_t g _ _ _ _ h7 (P.px.blk hc s H _ C cl fp)) (fun s H C cl fp => sndF ifs _ _ _ _ h9 (P.px.blk hc s H _ C cl fp) F)
                (fun s H C cl fp => sndI it2 _ _ _ _ _ h14 (P.px.blk hc s H _ C cl fp) F) (fun s H C cl fp => snd_t g2 _ _ _ _ h13 (P.px.blk hc s H _ C cl fp)) (fun s H C cl fp => sndF ifs2 _ _ _ _ h15 (P.px.blk hc s H _ C cl fp) F)
                (fun s H C cl fp => (snd e _ _ _ _ h10 (P.px.blk hc s H _ C cl fp) F).pe) (fun x => folded_no h11 _ x) (fun env x => folded_no h16 env x) (by rw [ownL_snd]; exact all_mem h12) (all_mem h17)
              rw [ownL_snd] at z
              exact z
            · exact absurd h5 Bool.false_ne_true
          | lR it => cases it <;> (rw [chk.eq_def] at h5; exact absurd h5 Bool.false_ne_true)
          | tR it => cases it <;> (rw [chk.eq_def] at h5; exact absurd h5 Bool.false_ne_true)
          | _ =>
            rw [chk.eq_def] at h5
            exact absurd h5 Bool.false_ne_true
        | DictComp kx vx gens scope cpos =>
          have h4 : (false || !swB L (.DictComp kx vx gens scope cpos) x p) = true := h4
          rw [b] at h4
          exact absurd h4 Bool.false_ne_true
        | _ => exact absurd b Bool.false_ne_true
    · rename_i gs ts n p ee pos
      obtain ⟨h1, h⟩ := bb h
      obtain ⟨h2, h⟩ := bb h
      obtain ⟨h3, h4⟩ := bb h
      exact ss_asgT (snd_t (.t gs) _ X L W h1 P.px) (snd e ee X L W h4 P.px F).pe h2 h3
    · exact absurd h Bool.false_ne_true
  | .par i j a b, st, q, X, L, W, ex, A₀, H₀, h, P, F, hx => by
    rw [chkS.eq_def] at h
    dsimp only at h
    split at h
    · obtain ⟨hc, h⟩ := bb h
      obtain ⟨h1, h⟩ := bb h
      obtain ⟨h2, h3⟩ := bb h
      have h1' := h1
      unfold parB at h1
      obtain ⟨j1, h1⟩ := bb h1
      obtain ⟨j2, h1⟩ := bb h1
      obtain ⟨j3, h1⟩ := bb h1
      obtain ⟨j4, h1⟩ := bb h1
      obtain ⟨j5, h1⟩ := bb h1
      obtain ⟨j6, h1⟩ := bb h1
      obtain ⟨j7, h1⟩ := bb h1
      obtain ⟨j8, h1⟩ := bb h1
      obtain ⟨j9, h1⟩ := bb h1
      exact ss_par P.px hc (by rw [P.px.nm]; exact of_decide_eq_true j1) (by rw [P.px.nm]; exact of_decide_eq_true j2) (of_decide_eq_true j3) (by rw [P.px.esc]; exact lkB_ok j5) (by rw [P.px.esc]; exact lkB_ok j6) (snd a _ X L W h2 P.px F).pe (snd b _ X L W h3 P.px F).pe j8 j9 (par_swap P.px h1')
    · exact absurd h Bool.false_ne_true
  | .app i e, st, q, X, L, W, ex, A₀, H₀, h, P, F, hx => by
    rw [chkS.eq_def] at h
    dsimp only at h
    split at h
    · obtain ⟨h0, h⟩ := bb h
      obtain ⟨h1, h⟩ := bb h
      obtain ⟨h2, h⟩ := bb h
      obtain ⟨h3, h4⟩ := bb h
      have e0 := of_decide_eq_true h0
      subst e0
      obtain ⟨k1, k2, k3, k4⟩ := nmB_ok P.px h1
      exact ss_app P.px k1 k2 k3 k4 (snd e _ X L W h4 P.px F).pe h2 h3
    · exact absurd h Bool.false_ne_true
  | .ext i e, st, q, X, L, W, ex, A₀, H₀, h, P, F, hx => by
    rw [chkS.eq_def] at h
    dsimp only at h
    split at h
    · obtain ⟨h1, h⟩ := bb h
      obtain ⟨h2, h3⟩ := bb h
      obtain ⟨k1, k2⟩ := locB_ok P.px h2
      exact ss_ext P.px (by rw [P.px.nm]; exact of_decide_eq_true h1) k1 k2 (snd e _ X L W h3 P.px F).pe
    · obtain ⟨h0, h⟩ := bb h
      obtain ⟨h1, h⟩ := bb h
      obtain ⟨h2, h⟩ := bb h
      obtain ⟨h3, h4⟩ := bb h
      have e0 := of_decide_eq_true h0
      subst e0
      obtain ⟨k1, k2, k3, k4⟩ := nmB_ok P.px h1
      exact ss_extM P.px k1 k2 k3 k4 (snd e _ X L W h4 P.px F).pe h2 h3
    · exact absurd h Bool.false_ne_true
  | .sub i k e, st, q, X, L, W, ex, A₀, H₀, h, P, F, hx => by
    rw [chkS.eq_def] at h
    dsimp only at h
    split at h
    · obtain ⟨h1, h⟩ := bb h
      obtain ⟨h2, h⟩ := bb h
      obtain ⟨h3, h4⟩ := bb h
      obtain ⟨k1, k2, k3, k4⟩ := nmB_ok P.px h1
      exact ss_sub P.px k1 k2 k3 k4 (snd k _ X L W h3 P.px F).pe (snd e _ X L W h4 P.px F).pe h2
    · exact absurd h Bool.false_ne_true
  | .fset y e, st, q, X, L, W, ex, A₀, H₀, h, P, F, hx => by
    rw [chkS.eq_def] at h
    dsimp only at h
    split at h
    · obtain ⟨h0, h⟩ := bb h
      obtain ⟨h1, h2⟩ := bb h
      rw [of_decide_eq_true h0]
      obtain ⟨k1, k2, k3, k4⟩ := nmB_ok P.px h1
      exact ss_fset P.px F k1 k2 k3 k4 (snd e _ X L W h2 P.px F).pe
    · exact absurd h Bool.false_ne_true
  | .fsub y k e, st, q, X, L, W, ex, A₀, H₀, h, P, F, hx => by
    rw [chkS.eq_def] at h
    dsimp only at h
    split at h
    · obtain ⟨h0, h⟩ := bb h
      obtain ⟨h1, h⟩ := bb h
      obtain ⟨h2, h⟩ := bb h
      obtain ⟨h3, h4⟩ := bb h
      rw [of_decide_eq_true h0]
      obtain ⟨k1, k2, k3, k4⟩ := nmB_ok P.px h1
      exact ss_fsub P.px F k1 k2 k3 k4 (snd k _ X L W h3 P.px F).pe (snd e _ X L W h4 P.px F).pe h2
    · exact absurd h Bool.false_ne_true
  | .aug _ _ _, st, q, X, L, W, ex, A₀, H₀, h, P, F, hx => by
    rw [chkS.eq_def] at h
    exact absurd h Bool.false_ne_true
  | .ife c a b, st, q, X, L, W, ex, A₀, H₀, h, P, F, hx => by
    rw [chkS.eq_def] at h
    dsimp only at h
    split at h
    · obtain ⟨h1, h⟩ := bb h
      obtain ⟨h2, h3⟩ := bb h
      exact ss_if (snd c _ X L W h1 P.px F).pt (sndSs a _ q X L W ex A₀ H₀ h2 P F hx) (sndSs b _ q X L W ex A₀ H₀ h3 P F hx)
    · exact absurd h Bool.false_ne_true
  | .whl c b, st, q, X, L, W, ex, A₀, H₀, h, P, F, hx => by
    rw [chkS.eq_def] at h
    dsimp only at h
    split at h
    · obtain ⟨h0, h⟩ := bb h
      obtain ⟨hc, h⟩ := bb h
      obtain ⟨h1, h2⟩ := bb h
      rw [nb h0]
      exact ss_whl P hc (snd c _ X L W h1 P.px F).pt (sndSs b _ false X L W ex A₀ H₀ h2 P F hx)
    · exact absurd h Bool.false_ne_true
  | .fr g it b, st, q, X, L, W, ex, A₀, H₀, h, P, F, hx => by
    rw [chkS.eq_def] at h
    dsimp only at h
    split at h
    · obtain ⟨h0, h⟩ := bb h
      obtain ⟨hc, h⟩ := bb h
      obtain ⟨h1, h⟩ := bb h
      obtain ⟨h2, h⟩ := bb h
      obtain ⟨h3, h4⟩ := bb h
      rw [nb h0]
      exact ss_fr P hc (sndI it _ _ X L W h2 P.px F) (snd_t g _ X L W h1 P.px) (sndSs b _ false X L W ex A₀ H₀ h4 P F hx) (fun x => folded_no h3 _ x)
    · exact absurd h Bool.false_ne_true
  | .frD g j b, st, q, X, L, W, ex, A₀, H₀, h, P, F, hx => by
    rw [chkS.eq_def] at h
    dsimp only at h
    split at h
    · obtain ⟨h0, h⟩ := bb h
      obtain ⟨hc, h⟩ := bb h
      obtain ⟨h1, h⟩ := bb h
      obtain ⟨h2, h3⟩ := bb h
      rw [nb h0]
      obtain ⟨k1, k2, k3, k4⟩ := nmB_ok P.px h1
      exact ss_frD P hc k1 k2 k3 k4 (fun _ _ => snd_t g _ X L W h2 P.px) (fun A₁ H₁ => sndSs b _ false X L W ex A₁ H₁ h3 P F hx)
    · exact absurd h Bool.false_ne_true
  | .ret e, st, q, X, L, W, ex, A₀, H₀, h, P, F, hx => by
    rw [chkS.eq_def] at h
    dsimp only at h
    split at h
    · exact ss_ret (snd e _ X L W h P.px F).pe
    · exact absurd h Bool.false_ne_true
  | .retN, st, q, X, L, W, ex, A₀, H₀, h, P, F, hx => by
    rw [chkS.eq_def] at h
    dsimp only at h
    split at h
    · exact ss_retN
    · exact absurd h Bool.false_ne_true
  | .rse c es, st, q, X, L, W, ex, A₀, H₀, h, P, F, hx => by
    rw [chkS.eq_def] at h
    dsimp only at h
    split at h
    · obtain ⟨hc, h⟩ := bb h
      obtain ⟨h1, h2⟩ := bb h
      obtain ⟨g1, g2⟩ := glB_ok P.px h2
      exact ss_rse P.px hc (of_decide_eq_true h1) g1 g2
    · exact absurd h Bool.false_ne_true
  | .exp e, st, q, X, L, W, ex, A₀, H₀, h, P, F, hx => by
    rw [chkS.eq_def] at h
    dsimp only at h
    split at h
    · obtain ⟨h1, h2⟩ := bb h
      exact ss_exp (snd e _ X L W h2 P.px F).pe h1
    · exact absurd h Bool.false_ne_true
  | .pas, st, q, X, L, W, ex, A₀, H₀, h, P, F, hx => by
    rw [chkS.eq_def] at h
    dsimp only at h
    split at h
    · exact ss_pas
    · exact absurd h Bool.false_ne_true
  | .brk, st, q, X, L, W, ex, A₀, H₀, h, P, F, hx => by
    rw [chkS.eq_def] at h
    dsimp only at h
    split at h
    · exact ss_brk
    · exact absurd h Bool.false_ne_true
  | .cnt, st, q, X, L, W, ex, A₀, H₀, h, P, F, hx => by
    rw [chkS.eq_def] at h
    dsimp only at h
    split at h
    · exact ss_cnt
    · exact absurd h Bool.false_ne_true
  | .nev, st, q, X, L, W, ex, A₀, H₀, h, P, F, hx => ss_nev
  | .tryA b c i s, st, q, X, L, W, ex, A₀, H₀, h, P, F, hx => by
    rw [chkS.eq_def] at h
    dsimp only at h
    split at h
    · obtain ⟨hc, h⟩ := bb h
      obtain ⟨h1, h⟩ := bb h
      obtain ⟨h2, h⟩ := bb h
      obtain ⟨h3, h⟩ := bb h
      obtain ⟨h4, h⟩ := bb h
      obtain ⟨h5, h6⟩ := bb h
      obtain ⟨g1, g2⟩ := glB_ok P.px h4
      refine ss_tryA P (hx hc) hc (by rw [P.px.nm]; exact of_decide_eq_true h1) (by unfold Env.kindOf; rw [P.px.esc]; exact lkB_ok h2) (of_decide_eq_true h3) g1 g2 (fun W' pn xe tk hp => sndSs b _ true _ L W' ex A₀ H₀ h5 (P.tr hc tk hp) F hx) fun a oe cls d pn hz hf => ?_
      exact sndSs s _ false _ L.suite noW _ A₀ H₀ h6 (P.suite hz hf) F fun z => absurd z (fun h => nomatch h)
    · exact absurd h Bool.false_ne_true
  | .tryO b c s, st, q, X, L, W, ex, A₀, H₀, h, P, F, hx => by
    rw [chkS.eq_def] at h
    dsimp only at h
    split at h
    · obtain ⟨hc, h⟩ := bb h
      obtain ⟨h3, h⟩ := bb h
      obtain ⟨h4, h⟩ := bb h
      obtain ⟨h5, h6⟩ := bb h
      obtain ⟨g1, g2⟩ := glB_ok P.px h4
      refine ss_tryO P (hx hc) hc (of_decide_eq_true h3) g1 g2 (fun W' pn xe tk hp => sndSs b _ true _ L W' ex A₀ H₀ h5 (P.tr hc tk hp) F hx) fun a oe cls d pn hz hf => ?_
      exact sndSs s _ false _ L.suite noW _ A₀ H₀ h6 (P.suite hz hf) F fun z => absurd z (fun h => nomatch h)
    · exact absurd h Bool.false_ne_true
theorem sndSs : ∀ (s : Sts) (st : List Stmt) (q : Bool) (X : Cx) (L : Lo) (W : WX) (ex : ExI) (A₀ : Addr → Prop) (H₀ : Hp), chkSs S L q s st = true → PY G S T X L W ex → FiOk G T → (L.cm = true → ex.e = none) → PSs X st (tSs G T W ex A₀ H₀ q s)
  | .nil, st, q, X, L, W, ex, A₀, H₀, h, P, F, hx => by
    rw [chkSs.eq_def] at h
    cases st with
    | nil => exact ss_nil
    | cons => exact absurd h Bool.false_ne_true
  | .cons s r, st, q, X, L, W, ex, A₀, H₀, h, P, F, hx => by
    rw [chkSs.eq_def] at h
    dsimp only at h
    split at h
    · exact ss_one (sndS s _ q X L W ex A₀ H₀ h P F hx)
    · obtain ⟨h0, h⟩ := bb h
      obtain ⟨h1, h2⟩ := bb h
      rw [nb h0]
      exact ss_cons (sndS s _ false X L W ex A₀ H₀ h1 P F hx) (sndSs r _ false X L W ex A₀ H₀ h2 P F hx)
    · exact absurd h Bool.false_ne_true
end
end
end PD
end

section
set_option Elab.async false
set_option linter.all false
set_option maxRecDepth 100000
set_option maxHeartbeats 4000000
/-! PD, part 17: defs keep their promises. -/
namespace PD
open PySem PySem.Spec PyProof.Rows L2
/-- a def of the text: its names, its parameters, its tree -/
structure FnT where
  N : List Str
  ps : List Str
  body : List Stmt
  sc : Scope
def FnT.S (t : FnT) (S : Sx) : Sx := { S with N := t.N }
def FnT.L (t : FnT) : Lo := ⟨t.sc, fun _ => true, true⟩
def nodupB : List Str → Bool
  | [] => true
  | x :: xs => decide (x ∉ xs) && nodupB xs
theorem nodupB_ok : ∀ {xs : List Str}, nodupB xs = true → xs.Nodup
  | [], _ => .nil
  | x :: xs, h => by
    obtain ⟨h1, h2⟩ := bb h
    exact List.nodup_cons.mpr ⟨of_decide_eq_true h1, nodupB_ok h2⟩
/-- the def's own tree is what the small language says -/
def FnT.ok (t : FnT) (S : Sx) (f : FnI) : Bool := funB t.sc.kind && (!t.sc.isCoroutine && (!t.sc.isGenerator && (nodupB t.N && (decide (t.N.take t.ps.length = t.ps) && ((t.ps.all fun x => lkB (t.sc.names.lookup x) .local || lkB (t.sc.names.lookup x) .cell) && ((t.sc.names.all fun y => !kB y.2 .free) &&
  (decide (f.n = t.N.length) && (decide (f.np = t.ps.length) && chkSs (t.S S) t.L false f.body t.body))))))))
theorem FnT.ok_scope {t : FnT} {S : Sx} {f : FnI} (h : t.ok S f = true) : FnScope t.N t.ps t.sc ∧ f.n = t.N.length ∧ f.np = t.ps.length ∧ chkSs (t.S S) t.L false f.body t.body = true := by
  obtain ⟨h1, h⟩ := bb h
  obtain ⟨h2, h⟩ := bb h
  obtain ⟨h3, h⟩ := bb h
  obtain ⟨h4, h⟩ := bb h
  obtain ⟨h5, h⟩ := bb h
  obtain ⟨h6, h⟩ := bb h
  obtain ⟨h7, h⟩ := bb h
  obtain ⟨h8, h⟩ := bb h
  obtain ⟨h9, h10⟩ := bb h
  rw [List.all_eq_true] at h6 h7
  refine ⟨⟨funB_ok h1, nb h2, nb h3, nodupB_ok h4, of_decide_eq_true h5, fun x hx => (Bool.or_eq_true_iff.mp (h6 x hx)).imp lkB_ok lkB_ok, fun y hy e => ?_⟩, of_decide_eq_true h8, of_decide_eq_true h9, h10⟩
  have z := h7 y hy
  rw [e] at z
  cases z
section
variable {G : Sg} {S : Sx} {P : Program} {w : World} {K : PySem.W.Frag} {mg : Str → Option Value} {base : Heap} {B : Nat → Option FnI} {fi : Nat → Str → Option Nat} {sub : Nat → Nat → Bool} {fuel : Nat}
abbrev tab (B : Nat → Option FnI) (fi : Nat → Str → Option Nat) (sub : Nat → Nat → Bool) (fuel k : Nat) : Tab := ⟨fi, fun f => (B f).bind FnI.cls, callF B fi sub fuel k, fuel, sub⟩
/-- what the written part says -/
structure Facts (G : Sg) (S : Sx) (K : PySem.W.Frag) (mg : Str → Option Value) (B : Nat → Option FnI) (fi : Nat → Str → Option Nat) (sub : Nat → Nat → Bool) : Prop where
  hG : K = G.K
  gi : ∀ p ∈ S.gInts, ∃ t, mg p.1 = some (.int p.2 t)
  gs : ∀ p ∈ S.gStrs, ∃ t, mg p.1 = some (.str p.2 t)
  free : ∀ x ∈ S.free, mg x = none
  cls : ∀ c f, f ∈ G.cf c → Cls K (G.ca c) ∧ NoAttr K (G.ca c) f
  cfS : ∀ c, G.cf c = (S.cf[c]?).getD []
  cfN : ∀ c, (G.cf c).Nodup
  exn : ∀ c x, S.ename[c]? = some x → mg x = some (.ref (G.ea c)) ∧ PySem.W.excIn K (G.ea c) He.veBase "ValueError.__new__" = true ∧ PySem.W.keepIn K (.ref (G.ea c)) = true ∧ PySem.W.subIn K (.ref (G.ea c)) (.type "BaseException") = some true ∧ PySem.W.typeIn K (.ref (G.ea c)) = some (.type "type")
  enE : S.ename.length = G.en
  ini : ∀ f c, S.ini[f]? = some (some c) → (B f).bind FnI.cls = some c
  kit : ∀ k c, k < S.ename.length → c < S.ename.length → PySem.W.kitOne K (.ref (G.ea k)) (.ref (G.ea c)) = some (sub k c)
  kitV : ∀ k, k < S.ename.length → PySem.W.kitOne K (.ref (G.ea k)) (.type "ValueError") = some (sub k 1000)
  exm : ∀ k c, k < S.ename.length → c < S.ename.length → PySem.W.exmOne K (.ref (G.ea k)) (.ref (G.ea c)) = some (sub k c)
  hE : ∀ k, k < S.ename.length → ExcC K (G.ea k)
  fiOk : ∀ c y j, fi c y = some j → (G.cf c)[j]? = some y
  /-- defs -/
  fns : ∀ f x, S.fname[f]? = some (some x) → ∃ (t : FnT) (b : FnI) (nm q : Str) (pa : Arguments) (fa : Addr) (fd : FuncData), B f = some b ∧ b.cls = none ∧ t.ok S b = true ∧ FunD K nm q pa t.body t.sc [] [] fa fd ∧ mg x = some (.ref fa) ∧ Binds K fd t.ps []
  mks : ∀ c x f, S.cname[c]? = some x → (B f).bind FnI.cls = some c → ∃ (t : FnT) (b : FnI) (nm q : Str) (pa : Arguments) (fa : Addr) (fd : FuncData), B f = some b ∧ b.cls = some c ∧ t.ok S b = true ∧ FunD K nm q pa t.body t.sc [] [] fa fd ∧ Mk K (G.ca c) fa ∧ mg x = some (.ref (G.ca c)) ∧ Binds K fd t.ps []
/-- all defs, k calls deep -/
structure Lev (G : Sg) (S : Sx) (P : Program) (w : World) (K : PySem.W.Frag) (mg : Str → Option Value) (base : Heap) (B : Nat → Option FnI) (fi : Nat → Str → Option Nat) (sub : Nat → Nat → Bool) (fuel k : Nat) : Prop where
  fns : ∀ f x, S.fname[f]? = some (some x) → ∃ fa fd ps, FnOk P w K mg base (L2.CX P w) (2 * k) fa fd ps (fnSp G (callF B fi sub fuel k f)) ∧ mg x = some (.ref fa) ∧ PySem.W.keepIn K (.ref fa) = true ∧ Binds K fd ps []
  mks : ∀ c x f, S.cname[c]? = some x → (B f).bind FnI.cls = some c → ∃ fa fd ps, Mk K (G.ca c) fa ∧ FnOk P w K mg base (L2.CX P w) (2 * k) fa fd ps (mkSp G c (callF B fi sub fuel k f)) ∧ mg x = some (.ref (G.ca c)) ∧ Binds K fd ps []
theorem py_of (Fa : Facts G S K mg B fi sub) {k : Nat} (Lv : Lev G S P w K mg base B fi sub fuel k) {t : FnT} (hn : t.N.Nodup) {q : Str} {f : Addr} {cdv : Value} {A : Around} {outer : List PySem.Env} {s : Shared} {H : Hp} {E : XK}
    (hr : Room (2 * k + 1) (A.deeper (envOfC q t.sc s.heap.objs.size f cdv))) (sf : Addr) : PY G (t.S S) (tab B fi sub fuel k) (cxOf (L2.CX P w) P w K mg base t.N q t.sc f cdv A outer s H E) t.L (fun cls d _ H => E cls d H) ⟨none, sf⟩ where
  px := {
    hG := Fa.hG
    calm := fun _ => rfl
    fnE := rfl
    un := hr.units
    nm := rfl
    nd := hn
    esc := rfl
    tk := takes_of rfl rfl rfl rfl
    fns := fun _ g x hx => by
      obtain ⟨fa, fd, ps, h1, h2, h3, h4⟩ := Lv.fns g x hx
      exact ⟨fa, fd, ps, _, h1, hr.mono (by omega), h2, h3, h4⟩
    mks := fun _ c x g hx hi => by
      obtain ⟨fa, fd, ps, h1, h2, h3, h4⟩ := Lv.mks c x g hx hi
      exact ⟨fa, fd, ps, _, h1, h2, hr, h3, h4⟩
    gi := Fa.gi
    gs := Fa.gs
    free := Fa.free
    cls := Fa.cls
    cfS := Fa.cfS
    cfN := Fa.cfN
    exn := Fa.exn
    enE := Fa.enE
    ini := Fa.ini
    kit := Fa.kit
    kitV := Fa.kitV
    isx := fun z => absurd z (fun h => nomatch h)
    exm := Fa.exm }
  pass := fun _ => passes_of rfl
  hE := Fa.hE
  hs := fun _ => rfl
  hf := fun _ => rfl
theorem run_len {b : FnI} {T : Tab} {ds : List D} (h : b.run T ds ≠ .stk) : ds.length + b.self = b.np := by
  unfold FnI.run at h
  cases c : decide (ds.length + b.self = b.np) with
  | true => exact of_decide_eq_true c
  | false => rw [c] at h; exact absurd rfl h
theorem run_eq {b : FnI} {T : Tab} {ds : List D} (h : ds.length + b.self = b.np) : b.run T ds = (rns T b.body (b.start ds)).bind b.fin := by
  unfold FnI.run
  rw [decide_eq_true h]
  rfl
theorem start_slot {N : List Str} {vs : List V} {A : Addr → Prop} {H : Hp} {ex : ExI} {ds : List D} {n : Nat} (hl : HasL G A H vs ds) {j : Nat} {o : OD} (e : (ds.map sh ++ List.replicate n none)[j]? = some (some o)) : ∃ v, (L2.start N vs)[j]? = some (some v) ∧ SlotOk G ex A (fun _ _ => False) H v o := by
  have hlen := hl.length
  by_cases hj : j < ds.length
  · rw [List.getElem?_append_left (by rw [List.length_map]; exact hj), List.getElem?_map, List.getElem?_eq_getElem hj] at e
    have e : sh ds[j] = some o := Option.some.inj e
    cases e
    obtain ⟨v, e1, e2⟩ := hl.get (List.getElem?_eq_getElem hj)
    refine ⟨v, ?_, e2⟩
    unfold L2.start
    rw [List.getElem?_append_left (by rw [List.length_map]; omega), List.getElem?_map, e1]
    rfl
  · rw [List.getElem?_append_right (by rw [List.length_map]; omega), List.getElem?_replicate] at e
    split at e <;> cases e
/-- a plain def -/
theorem fn_of_def (Fa : Facts G S K mg B fi sub) {k : Nat} (Lv : Lev G S P w K mg base B fi sub fuel k) {t : FnT} {b : FnI} {nm q : Str} {pa : Arguments} {fa : Addr} {fd : FuncData} (hc : b.cls = none) (ht : t.ok S b = true) (F : FunD K nm q pa t.body t.sc [] [] fa fd) :
    FnOk P w K mg base (L2.CX P w) (2 * k + 2) fa fd t.ps (fnSp G (b.run (tab B fi sub fuel k))) := by
  obtain ⟨sc, e1, e2, hk⟩ := t.ok_scope ht
  have hs : b.self = 0 := by unfold FnI.self; rw [hc]
  have ne : ∀ {vs : List V} {H : Hp} {Q : VK} {E : XK}, fnSp G (b.run (tab B fi sub fuel k)) vs H Q E → ∃ (A : Addr → Prop) (ds : List D), HasL G A H vs ds ∧ ds.length = b.np ∧ (match (rns (tab B fi sub fuel k) b.body (b.start ds)).bind b.fin with
      | .ok d => ∀ v H', Same H H' → Has G (fr A H) H' v d → Q v H'
      | .exc x => ∀ cls dx H', Same H H' → XR G H' x cls dx → E cls dx H'
      | .stk => False) := fun {vs H Q E} h => by
    obtain ⟨A, ds, hl, h⟩ := h
    have hl2 := run_len (b := b) (T := tab B fi sub fuel k) (ds := ds) (fun z => by rw [z] at h; exact h)
    rw [hs, Nat.add_zero] at hl2
    rw [run_eq (by rw [hs]; exact hl2)] at h
    exact ⟨A, ds, hl, hl2, h⟩
  refine F.ok sc (fun vs H Q E h => ?_) fun cdv A outer s H vs Q E hr h => ?_
  · obtain ⟨A, ds, hl, hn, _⟩ := ne h
    rw [hl.length, hn, e2]
  · obtain ⟨A₀, ds, hl, hn, h⟩ := ne h
    refine ⟨_, sndSs b.body t.body false _ t.L _ ⟨none, 0⟩ A₀ H hk (py_of Fa Lv sc.nd hr 0) ⟨Fa.fiOk⟩ fun _ => rfl, ?_⟩
    have hst : b.start ds = ds.map sh ++ List.replicate (b.n - b.np) none := by unfold FnI.start; rw [hc]
    refine ⟨A₀, fun _ _ _ => False, b.start ds, ⟨?_, fun j o e => ?_, fun _ _ _ z => z.elim, fun _ _ _ _ _ z => z.elim, fun q z => .inl z, Same.refl H⟩, ?_⟩
    · rw [hst]
      unfold L2.start
      rw [List.length_append, List.length_map, List.length_replicate, List.length_append, List.length_map, List.length_replicate, hl.length, hn, e1]
    · rw [hst] at e
      exact start_slot hl e
    · cases er : rns (tab B fi sub fuel k) b.body (b.start ds) with
      | stk => rw [er] at h; exact h
      | exc x =>
        rw [er] at h
        exact fun cls dx σ' H' s' _ xr => h cls dx H' s' xr
      | ok f =>
        rw [er] at h
        have hf : ∀ f, b.fin f = (match f with
            | .nx _ => .ok .non
            | .rt d _ => .ok d
            | _ => .stk) := fun f => by
          unfold FnI.fin
          rw [hc]
          cases f <;> rfl
        have h : (match b.fin f with
          | .ok d => ∀ v H', Same H H' → Has G (fr A₀ H) H' v d → Q v H'
          | .exc x => ∀ cls dx H', Same H H' → XR G H' x cls dx → E cls dx H'
          | .stk => False) := h
        rw [hf] at h
        cases f with
        | nx ρ' => exact fun A' O' σ' H' er' _ => h .non H' er'.same .non
        | rt d ρ' => exact fun v A' O' σ' H' er' _ hv => h v H' er'.same (hv.mono er'.sub (Same.refl _))
        | bk ρ' => exact h.elim
        | ct ρ' => exact h.elim
/-- an __init__ -/
theorem fn_of_init (Fa : Facts G S K mg B fi sub) {k : Nat} (Lv : Lev G S P w K mg base B fi sub fuel k) {t : FnT} {b : FnI} {nm q : Str} {pa : Arguments} {fa : Addr} {fd : FuncData} {c : Nat} (hc : b.cls = some c) (ht : t.ok S b = true) (F : FunD K nm q pa t.body t.sc [] [] fa fd) :
    FnOk P w K mg base (L2.CX P w) (2 * k + 2) fa fd t.ps (mkSp G c (b.run (tab B fi sub fuel k))) := by
  obtain ⟨sc, e1, e2, hk⟩ := t.ok_scope ht
  have hs : b.self = 1 := by unfold FnI.self; rw [hc]
  have ne : ∀ {vs : List V} {H : Hp} {Q : VK} {E : XK}, mkSp G c (b.run (tab B fi sub fuel k)) vs H Q E → ∃ (A : Addr → Prop) (ds : List D) (x dx : Addr) (ws : List V) (H₁ : Hp), vs = .ref x :: ws ∧ H₁ x = none ∧ H₁ dx = none ∧ dx ≠ x ∧ H = upd (upd H₁ dx (.own x)) x (.ins (G.ca c) dx []) ∧ HasL G A H₁ ws ds ∧ ds.length + 1 = b.np ∧
      (match (rns (tab B fi sub fuel k) b.body (b.start ds)).bind b.fin with
      | .ok d => ∀ H', Same H₁ H' → Has G (fr A H₁) H' (.ref x) d → Q .non H'
      | .exc e => ∀ cls dx H', Same H₁ H' → XR G H' e cls dx → E cls dx H'
      | .stk => False) := fun {vs H Q E} h => by
    obtain ⟨A, ds, x, dx, ws, H₁, h1, h2, h3, h4, h5, hl, h⟩ := h
    have hl2 := run_len (b := b) (T := tab B fi sub fuel k) (ds := ds) (fun z => by rw [z] at h; exact h)
    rw [hs] at hl2
    rw [run_eq (by rw [hs]; exact hl2)] at h
    exact ⟨A, ds, x, dx, ws, H₁, h1, h2, h3, h4, h5, hl, hl2, h⟩
  refine F.ok sc (fun vs H Q E h => ?_) fun cdv A outer s H vs Q E hr h => ?_
  · obtain ⟨A, ds, x, dx, ws, H₁, rfl, h2, h3, h4, h5, hl, hn, _⟩ := ne h
    rw [List.length_cons, hl.length, hn, e2]
  · obtain ⟨A₀, ds, x, dx, ws, H₁, rfl, h2, h3, h4, rfl, hl, hn, h⟩ := ne h
    refine ⟨_, sndSs b.body t.body false _ t.L _ ⟨none, x⟩ A₀ H₁ hk (py_of Fa Lv sc.nd hr x) ⟨Fa.fiOk⟩ fun _ => rfl, ?_⟩
    have hst : b.start ds = some (.oo c []) :: (ds.map sh ++ List.replicate (b.n - b.np) none) := by unfold FnI.start; rw [hc]
    have sm : Same H₁ (upd (upd H₁ dx (.own x)) x (.ins (G.ca c) dx [])) := fun p o e => by
      rw [upd_ne (ne_of_none e h2), upd_ne (ne_of_none e h3)]
      exact e
    have hl' : HasL G (fun q => A₀ q ∧ (H₁ q).isSome = true) (upd (upd H₁ dx (.own x)) x (.ins (G.ca c) dx [])) ws ds := hl.there.mono (fun _ z => z) sm
    have stv : L2.start t.N (.ref x :: ws) = some (.ref x) :: (ws.map some ++ List.replicate (t.N.length - (ws.length + 1)) none) := by
      unfold L2.start
      rw [List.map_cons, List.length_cons]
      rfl
    refine ⟨fun q => A₀ q ∧ (H₁ q).isSome = true, fun j k p => j = 0 ∧ k = 0 ∧ p = x, b.start ds, ⟨?_, fun j o e => ?_, fun j k p ⟨_, _, z⟩ => ?_, fun j k j' k' p z z' => ⟨by rw [z.1, z'.1], by rw [z.2.1, z'.2.1]⟩, fun q z => .inl z.1, sm⟩, ?_⟩
    · rw [hst, stv]
      rw [List.length_cons, List.length_cons, List.length_append, List.length_map, List.length_replicate, List.length_append, List.length_map, List.length_replicate, hl.length, e1]
      omega
    · rw [hst] at e
      rw [stv]
      cases j with
      | zero =>
        cases e
        exact ⟨_, rfl, x, dx, [], ⟨rfl, rfl⟩, ⟨rfl, rfl, rfl⟩, upd_same, by simp, rfl, fun i o w e1 => by simp at e1⟩
      | succ j =>
        rw [List.getElem?_cons_succ] at e
        obtain ⟨v, v1, v2⟩ := start_slot (N := t.N.drop 1) (ex := ⟨none, x⟩) hl' e
        refine ⟨v, ?_, v2.to (Same.refl _) (fun _ z _ => z) fun _ _ z => z.elim⟩
        rw [List.getElem?_cons_succ]
        unfold L2.start at v1
        rw [List.length_drop] at v1
        rw [show t.N.length - (ws.length + 1) = t.N.length - 1 - ws.length by omega]
        exact v1
    · subst z
      exact ⟨fun z => by rw [h2] at z; exact absurd z.2 Bool.false_ne_true, by rw [upd_same]; rfl, h2⟩
    · cases er : rns (tab B fi sub fuel k) b.body (b.start ds) with
      | stk => rw [er] at h; exact h
      | exc e =>
        rw [er] at h
        exact fun cls dx σ' H' s' _ xr => h cls dx H' s' xr
      | ok f =>
        rw [er] at h
        have hf : ∀ f, b.fin f = (match f with
            | .nx ρ => finO ρ
            | .rt .non ρ => finO ρ
            | _ => .stk) := fun f => by
          unfold FnI.fin
          rw [hc]
          cases f with
          | rt d ρ => cases d <;> rfl
          | _ => rfl
        have h : (match b.fin f with
          | .ok d => ∀ H', Same H₁ H' → Has G (fr A₀ H₁) H' (.ref x) d → Q .non H'
          | .exc e => ∀ cls dx H', Same H₁ H' → XR G H' e cls dx → E cls dx H'
          | .stk => False) := h
        rw [hf] at h
        have fin : ∀ ρ' A' O' σ' H', ER G ⟨none, x⟩ A₀ H₁ A' O' σ' H' ρ' → (match finO ρ' with
          | .ok d => ∀ H', Same H₁ H' → Has G (fr A₀ H₁) H' (.ref x) d → Q .non H'
          | .exc e => ∀ cls dx H', Same H₁ H' → XR G H' e cls dx → E cls dx H'
          | .stk => False) → Q .non H' := fun ρ' A' O' σ' H' er' h => by
          unfold finO at h
          split at h
          · rename_i d heq
            split at heq
            · rename_i c' fs e0
              cases heq
              obtain ⟨v, v1, v2⟩ := er'.slot 0 _ (slotE_some e0)
              have v3 := SlotOk.has (o := .oo c' fs) rfl v2
              obtain ⟨p, dx', fl, ⟨rfl, hp⟩, _⟩ := v2
              have hp : p = x := hp
              subst hp
              refine h H' er'.same (v3.mono (fun q z => ?_) (Same.refl _))
              rcases z with z | ⟨k, z⟩
              · exact er'.sub q z
              · exact .inr (er'.own _ _ _ z).2.2
            · cases heq
          · rename_i heq
            split at heq <;> cases heq
          · exact h.elim
        cases f with
        | nx ρ' => exact fun A' O' σ' H' er' _ => fin ρ' A' O' σ' H' er' h
        | rt d ρ' =>
          intro v A' O' σ' H' er' _ hv
          cases d with
          | non =>
            cases hv
            exact fin ρ' A' O' σ' H' er' h
          | _ => exact h.elim
        | bk ρ' => exact h.elim
        | ct ρ' => exact h.elim
theorem lev (Fa : Facts G S K mg B fi sub) : ∀ k, Lev G S P w K mg base B fi sub fuel k
  | 0 => by
    refine ⟨fun f x hx => ?_, fun c x f hx hi => ?_⟩
    · obtain ⟨t, b, nm, q, pa, fa, fd, h1, h2, h3, h4, h5, h6⟩ := Fa.fns f x hx
      refine ⟨fa, fd, t.ps, ⟨fun vs H Q E h => ?_, fun A outer s H args us vs Q E _ _ _ _ h => ?_⟩, h5, h4.kp, h6⟩
      · obtain ⟨_, _, _, h⟩ := h
        exact h.elim
      · obtain ⟨_, _, _, h⟩ := h
        exact h.elim
    · obtain ⟨t, b, nm, q, pa, fa, fd, h1, h2, h3, h4, h5, h6, h7⟩ := Fa.mks c x f hx hi
      refine ⟨fa, fd, t.ps, h5, ⟨fun vs H Q E h => ?_, fun A outer s H args us vs Q E _ _ _ _ h => ?_⟩, h6, h7⟩
      · obtain ⟨_, _, _, _, _, _, _, _, _, _, _, _, h⟩ := h
        exact h.elim
      · obtain ⟨_, _, _, _, _, _, _, _, _, _, _, _, h⟩ := h
        exact h.elim
  | k + 1 => by
    have Lv := lev Fa k
    refine ⟨fun f x hx => ?_, fun c x f hx hi => ?_⟩
    · obtain ⟨t, b, nm, q, pa, fa, fd, h1, h2, h3, h4, h5, h6⟩ := Fa.fns f x hx
      have e : callF B fi sub fuel (k + 1) f = b.run (tab B fi sub fuel k) := by
        funext ds
        show (match B f with
          | some f => f.run ⟨fi, fun f => (B f).bind FnI.cls, callF B fi sub fuel k, fuel, sub⟩ ds
          | none => .stk) = _
        rw [h1]
      rw [e]
      exact ⟨fa, fd, t.ps, fn_of_def Fa Lv h2 h3 h4, h5, h4.kp, h6⟩
    · obtain ⟨t, b, nm, q, pa, fa, fd, h1, h2, h3, h4, h5, h6, h7⟩ := Fa.mks c x f hx hi
      have e : callF B fi sub fuel (k + 1) f = b.run (tab B fi sub fuel k) := by
        funext ds
        show (match B f with
          | some f => f.run ⟨fi, fun f => (B f).bind FnI.cls, callF B fi sub fuel k, fuel, sub⟩ ds
          | none => .stk) = _
        rw [h1]
      rw [e]
      exact ⟨fa, fd, t.ps, h5, fn_of_init Fa Lv h2 h3 h4, h6, h7⟩
end
end PD
end

section
set_option Elab.async false
set_option linter.all false
set_option maxRecDepth 100000
set_option maxHeartbeats 4000000
/-! PD, part 18: the head with more facts; the law's end. -/
namespace PD
open PySem PySem.Spec PyProof.Rows L2
/-- what isinstance asks of an own error's class -/
def exB (K : PySem.W.Frag) (x : Str) : Bool :=
  He.eqO (PySem.W.findIn K (.ref (He.ga K x)) "__getattribute__") (some (some (.builtin "BaseException.__getattribute__"))) && (He.eqO (PySem.W.findIn K (.ref (He.ga K x)) "__getattr__") (some none) &&
  (decide (PySem.W.subIn K (.ref (He.ga K x)) (.type "BaseException") = some true) && (PySem.W.hasDictIn K (He.ga K x) && (He.eqO (PySem.W.findIn K (.ref (He.ga K x)) "__class__") (some (some (.builtin "object.__class__"))) &&
  (decide (PySem.W.specialIn K (.builtin "object.__class__") "__get__" = some (some (.builtin "getset_descriptor.__get__"))) && (decide (PySem.W.takesIn K (.builtin "object.__class__") = some true) && decide (PySem.W.mroIn K (He.ga K x) (.type "object") = some true)))))))
theorem exB_ok {K : PySem.W.Frag} {x : Str} (h : exB K x = true) : ExcC K (He.ga K x) := by
  obtain ⟨h1, h⟩ := bb h
  obtain ⟨h2, h⟩ := bb h
  obtain ⟨h3, h⟩ := bb h
  obtain ⟨h4, h⟩ := bb h
  obtain ⟨h5, h⟩ := bb h
  obtain ⟨h6, h⟩ := bb h
  obtain ⟨h7, h8⟩ := bb h
  exact ⟨He.eqO_ok h1, He.eqO_ok h2, of_decide_eq_true h3, h4, He.eqO_ok h5, of_decide_eq_true h6, of_decide_eq_true h7, of_decide_eq_true h8⟩
/-- the errors' classes, two by two -/
def kitB (K : PySem.W.Frag) (sub : Nat → Nat → Bool) (xs : List Str) : Bool := (List.range xs.length).all fun k => (List.range xs.length).all fun c =>
  decide (PySem.W.kitOne K (.ref (He.ga K (xs.getD k ""))) (.ref (He.ga K (xs.getD c ""))) = some (sub k c)) && decide (PySem.W.exmOne K (.ref (He.ga K (xs.getD k ""))) (.ref (He.ga K (xs.getD c ""))) = some (sub k c))
theorem kitB_ok {K : PySem.W.Frag} {sub : Nat → Nat → Bool} {xs : List Str} (h : kitB K sub xs = true) {k c : Nat} (hk : k < xs.length) (hc : c < xs.length) :
    PySem.W.kitOne K (.ref (He.ga K (xs.getD k ""))) (.ref (He.ga K (xs.getD c ""))) = some (sub k c) ∧ PySem.W.exmOne K (.ref (He.ga K (xs.getD k ""))) (.ref (He.ga K (xs.getD c ""))) = some (sub k c) := by
  have h1 := List.all_eq_true.mp (List.all_eq_true.mp h k (List.mem_range.mpr hk)) c (List.mem_range.mpr hc)
  obtain ⟨h2, h3⟩ := bb h1
  exact ⟨of_decide_eq_true h2, of_decide_eq_true h3⟩
def kitVB (K : PySem.W.Frag) (sub : Nat → Nat → Bool) (xs : List Str) : Bool := (List.range xs.length).all fun k => decide (PySem.W.kitOne K (.ref (He.ga K (xs.getD k ""))) (.type "ValueError") = some (sub k 1000))
theorem kitVB_ok {K : PySem.W.Frag} {sub : Nat → Nat → Bool} {xs : List Str} (h : kitVB K sub xs = true) {k : Nat} (hk : k < xs.length) : PySem.W.kitOne K (.ref (He.ga K (xs.getD k ""))) (.type "ValueError") = some (sub k 1000) :=
  of_decide_eq_true (List.all_eq_true.mp h k (List.mem_range.mpr hk))
def moreB (sub : Nat → Nat → Bool) (xs : List Str) (K : PySem.W.Frag) : Bool := (xs.all fun x => exB K x) && (kitB K sub xs && kitVB K sub xs)
/-! ### the Hook -/
abbrev AlP : Type := He.AlD × Bool
def obsP (fa : List He.Fa) (fn : List He.DefD) (bs : PySem.W.Frag → Bool) (K : PySem.W.Frag) : AlP := (He.obsD fa fn K, bs K)
def obsPG (n : Nat) (fa : List He.Fa) (fn : List He.DefD) (bs : PySem.W.Frag → Bool) (g : Addr → Option Obj) : AlP := obsP fa fn bs (He.frG g (He.asD g n))
def hookP (n : Nat) (fa : List He.Fa) (fn : List He.DefD) (bs : PySem.W.Frag → Bool) : PySem.W.Hook where
  α := AlP
  obs := fun s => obsPG n fa fn bs s.heap.get?
  val := fun _ => (He.valD fn, true)
  says := fun _ h => ∃ K : PySem.W.Frag, K.In h ∧ He.SaysD fa fn K ∧ bs K = true
  of := fun _ s e => ⟨_, He.frG_in, congrArg (fun z : AlP => z.1) e, congrArg (fun z : AlP => z.2) e⟩
  keeps := fun _ _ _ ⟨K, hK, c⟩ k => ⟨K, PySem.W.Frag.In.keeps hK k, c⟩
theorem obsPG_eq {n : Nat} {fa : List He.Fa} {fn : List He.DefD} {bs : PySem.W.Frag → Bool} {g : Addr → Option Obj} {s : Shared} (h : ∀ a, g a = s.heap.get? a) : obsPG n fa fn bs g = (hookP n fa fn bs).obs s := by
  have e : g = s.heap.get? := funext h
  rw [e] <;> rfl
/-! ### the law's promise -/
theorem law_sp {G : Sg} {F : List D → R D} (h : ∀ ns : List Int, ns.length ≤ 63 → F [.scr (ns.map .int)] = .ok (.bl true)) {K : PySem.W.Frag} (hG : K = G.K) (H : Hp) (a : Addr) (ns : List Int) (hl : ns.length ≤ 63) (hO : Only H) (hS : SqL K H a (ns.map V.int)) :
    fnSp G F [.ref a] H (fun v _ => v = .bl true) fun _ _ _ => False := by
  have hs : Scr G H a (ns.map V.int) := by
    subst hG
    rcases hS with (hS | hS) | hS
    · rcases hO a with z | ⟨o, xs, z⟩
      · rw [z] at hS; cases hS
      · rw [z] at hS; cases hS
    · exact .inl hS
    · exact .inr hS
  have hi : ∀ ns : List Int, HasL G (fun _ => True) H (ns.map V.int) (ns.map D.int) := fun ns => by
    induction ns with
    | nil => exact .nil
    | cons n ns ih => exact .cons (.int n) ih
  refine ⟨fun _ => True, [.scr (ns.map .int)], .cons (.scr hs (hi ns)) .nil, ?_⟩
  rw [h ns hl]
  intro v H' _ hv
  cases hv
  rfl
theorem sub_pass {P : Program} {w : World} : ∀ (H : Hp) (s : Shared) (e : Value) (s' : Shared), L2.CX P w [] H s (fun _ _ _ => False) e s' → False := fun H s e s' h => by
  obtain ⟨_, _, _, _, _, _, _, _, _, _, _, _, z⟩ := h
  exact z
end PD
end

section
set_option Elab.async false
set_option linter.all false
set_option maxRecDepth 100000
set_option maxHeartbeats 0
namespace PD
open PySem PySem.Spec PyProof.Rows L2
/-- a law's end, the classes of errors said world by world -/
theorem walk_ofW {l : PySem.W.OpenLaw} {n k : Nat} {q : Program} {loose : List Str} {XP : (Str → Option Value) → Heap → Prop} {YP : World → Heap → Prop} {d : DefRec} {CX : World → CXT} {x : Str}
    (hn : l.most = some n) (hn2 : n ≤ sizeLine) (hdf : d.params.defaults = []) (hr : Room k callerA)
    (F : ∀ (w : World) (mg : Str → Option Value) (fa : Addr) (h : Heap), YP w h → h.Ns mainGlobals mg → mg d.name = some (.ref fa) →
      ∃ (K : PySem.W.Frag) (fd : FuncData) (sp : Sp), K.In h ∧ (∀ (s : Shared) (u : Value), BindsTo s fd ⟨[u], []⟩ [(x, u)]) ∧
        (∀ (H : Hp) (a : Addr) (ns : List Int), ns.length ≤ n → Only H → SqL K H a (ns.map V.int) → sp [.ref a] H (fun v _ => v = .bl true) fun _ _ _ => False) ∧
        ∀ base : Heap, K.In base → base.Ns mainGlobals mg → FnOk l.prog w K mg base (CX w) k fa fd [x] sp)
    (hCX : ∀ (w : World) (H : Hp) (s : Shared) (e : Value) (s' : Shared), CX w [] H s (fun _ _ _ => False) e s' → False) :
    PySem.W.WalkO q loose XP YP l.row.toRowW d [] (fun f vs => PySem.call f vs) := by
  refine Att.attach_call hn hdf fun w s₀ s₁ mg mb fa o pm cd doc a vs ns G Y ho hd hcd hmg hobj hints hlen hg => ?_
  obtain ⟨K, fd, sp, KX, hb, hsp, hF⟩ := F w mg fa _ Y G.T.g hmg
  exact law_call KX G.T.g G.T.b G.T.builtins G.T.nolimit hg hobj hints (Nat.le_trans hlen hn2) hr hF hb (fun H hO hS => hsp H a ns hlen hO hS) fun H e s' => hCX w H s₁ e s'
end PD
end

section
set_option Elab.async false
set_option linter.all false
set_option maxRecDepth 100000
/-! PD, part 19: how a text of the small language is worked out. -/
namespace PD
open PySem
variable {T : Tab} {ρ ρ' : Env} {a b c e : Ex} {x y z : D}
theorem guardR_t {α : Type} {c : Bool} {r : R α} (h : c = true) : guardR c r = r := by rw [h]; rfl
theorem bindO {α β : Type} {r : R α} {x : α} {f : α → R β} {w : R β} (h : r = .ok x) (h2 : f x = w) : r.bind f = w := by rw [h]; exact h2
theorem bindX {α β : Type} {r : R α} {x : Xc} {f : α → R β} (h : r = .exc x) : r.bind f = .exc x := by rw [h]; rfl
theorem ev_bin {o : BinO} (ha : ev T a ρ = .ok x) (hb : ev T b ρ = .ok y) : ev T (.bin o a b) ρ = binD o x y := bindO ha (bindO hb rfl)
theorem ev_cmp {o : CmpO} (ha : ev T a ρ = .ok x) (hb : ev T b ρ = .ok y) : ev T (.cmp o a b) ρ = cmpD o x y := bindO ha (bindO hb rfl)
theorem ev_idx (ha : ev T a ρ = .ok x) (hb : ev T b ρ = .ok y) : ev T (.idx a b) ρ = idxD x y := bindO ha (bindO hb rfl)
theorem ev_call {f : Nat} {es : Exs} {xs : List D} {r : R D} (h : evs T es ρ = .ok xs) (h2 : T.fn f xs = r) : ev T (.call f es) ρ = r := bindO h h2
theorem ev_mk {c f : Nat} {es : Exs} {xs : List D} {r : R D} (h : evs T es ρ = .ok xs) (h2 : T.fn f xs = r) : ev T (.mk c f es) ρ = r := bindO h h2
theorem ev_bi {f : Blt} {es : Exs} {xs : List D} {r : R D} (h : evs T es ρ = .ok xs) (h2 : biD f xs = r) : ev T (.bi f es) ρ = r := bindO h h2
theorem evs1 (h : ev T a ρ = .ok x) : evs T (.cons a .nil) ρ = .ok [x] := bindO h rfl
theorem evsC {es : Exs} {xs : List D} (h : ev T a ρ = .ok x) (h2 : evs T es ρ = .ok xs) : evs T (.cons a es) ρ = .ok (x :: xs) := bindO h (bindO h2 rfl)
theorem evNot {k : Bool} (h : ev T a ρ = .ok (.bl k)) : ev T (.not a) ρ = .ok (.bl (!k)) := bindO h rfl
theorem ev_and_t {r : R D} (h : ev T a ρ = .ok (.bl true)) (h2 : ev T b ρ = r) : ev T (.and a b) ρ = r := bindO h h2
theorem ev_and_f (h : ev T a ρ = .ok (.bl false)) : ev T (.and a b) ρ = .ok (.bl false) := bindO h rfl
theorem ev_or_f {r : R D} (h : ev T a ρ = .ok (.bl false)) (h2 : ev T b ρ = r) : ev T (.or a b) ρ = r := bindO h h2
theorem ev_or_t (h : ev T a ρ = .ok (.bl true)) : ev T (.or a b) ρ = .ok (.bl true) := bindO h rfl
theorem evAnd {k l : Bool} (h : ev T a ρ = .ok (.bl k)) (h2 : ev T b ρ = .ok (.bl l)) : ev T (.and a b) ρ = .ok (.bl (k && l)) := by
  cases k with
  | false => exact ev_and_f h
  | true => exact ev_and_t h h2
theorem evOr {k l : Bool} (h : ev T a ρ = .ok (.bl k)) (h2 : ev T b ρ = .ok (.bl l)) : ev T (.or a b) ρ = .ok (.bl (k || l)) := by
  cases k with
  | true => exact ev_or_t h
  | false => exact ev_or_f h h2
theorem ev_cmp2 {o o' : CmpO} {k l : Bool} (ha : ev T a ρ = .ok x) (hb : ev T b ρ = .ok y) (h1 : cmpD o x y = .ok (.bl k)) (hc : ev T c ρ = .ok z) (h2 : cmpD o' y z = .ok (.bl l)) : ev T (.cmp2 o o' a b c) ρ = .ok (.bl (k && l)) := by
  refine bindO ha (bindO hb (bindO h1 ?_))
  cases k with
  | false => rfl
  | true => exact bindO hc h2
/-! numbers -/
theorem ltD_i (i j : Int) : ltD (.int i) (.int j) = decide (i < j) := PySem.W.dataLt_int i j
theorem lt_i (i j : Int) : cmpD .lt (.int i) (.int j) = .ok (.bl (decide (i < j))) := by rw [← ltD_i i j]; rfl
theorem gt_i (i j : Int) : cmpD .gt (.int i) (.int j) = .ok (.bl (decide (j < i))) := by rw [← ltD_i j i]; rfl
theorem le_i (i j : Int) : cmpD .le (.int i) (.int j) = .ok (.bl (!decide (j < i))) := by rw [← ltD_i j i]; rfl
theorem ge_i (i j : Int) : cmpD .ge (.int i) (.int j) = .ok (.bl (!decide (i < j))) := by rw [← ltD_i i j]; rfl
theorem eqD_i (i j : Int) : eqD (.int i) (.int j) = decide (i = j) := by
  by_cases h : i = j
  · subst h
    rw [decide_eq_true rfl]
    exact beq_self_eq_true i
  · rw [decide_eq_false h]
    exact beq_eq_false_iff_ne.mpr h
theorem eq_i (i j : Int) : cmpD .eq (.int i) (.int j) = .ok (.bl (decide (i = j))) := by
  rw [← eqD_i i j]; rfl
theorem ne_i (i j : Int) : cmpD .ne (.int i) (.int j) = .ok (.bl (!decide (i = j))) := by
  rw [← eqD_i i j]; rfl
theorem mul_i {i j : Int} (h : mulOk i j = true) : binD .mul (.int i) (.int j) = .ok (.int (i * j)) := guardR_t h
theorem mod_i {i j : Int} (h : 0 < j) : binD .mod (.int i) (.int j) = .ok (.int (i % j)) := guardR_t (decide_eq_true h)
theorem fdiv_i {i j : Int} (h : 0 < j) (h2 : j.natAbs.log2 < 9000) : binD .fdiv (.int i) (.int j) = .ok (.int (i / j)) := guardR_t (by rw [decide_eq_true h, decide_eq_true h2]; rfl)
theorem ev_add {i j : Int} (ha : ev T a ρ = .ok (.int i)) (hb : ev T b ρ = .ok (.int j)) : ev T (.bin .add a b) ρ = .ok (.int (i + j)) := (ev_bin ha hb).trans rfl
theorem ev_sub {i j : Int} (ha : ev T a ρ = .ok (.int i)) (hb : ev T b ρ = .ok (.int j)) : ev T (.bin .sub a b) ρ = .ok (.int (i - j)) := (ev_bin ha hb).trans rfl
theorem ev_mul {i j : Int} (ha : ev T a ρ = .ok (.int i)) (hb : ev T b ρ = .ok (.int j)) (h : mulOk i j = true) : ev T (.bin .mul a b) ρ = .ok (.int (i * j)) := (ev_bin ha hb).trans (mul_i h)
theorem ev_mod {i j : Int} (ha : ev T a ρ = .ok (.int i)) (hb : ev T b ρ = .ok (.int j)) (h : 0 < j) : ev T (.bin .mod a b) ρ = .ok (.int (i % j)) := (ev_bin ha hb).trans (mod_i h)
theorem ev_fdiv {i j : Int} (ha : ev T a ρ = .ok (.int i)) (hb : ev T b ρ = .ok (.int j)) (h : 0 < j) (h2 : j.natAbs.log2 < 9000) : ev T (.bin .fdiv a b) ρ = .ok (.int (i / j)) := (ev_bin ha hb).trans (fdiv_i h h2)
theorem ev_lt {i j : Int} (ha : ev T a ρ = .ok (.int i)) (hb : ev T b ρ = .ok (.int j)) : ev T (.cmp .lt a b) ρ = .ok (.bl (decide (i < j))) := (ev_cmp ha hb).trans (lt_i i j)
theorem ev_gt {i j : Int} (ha : ev T a ρ = .ok (.int i)) (hb : ev T b ρ = .ok (.int j)) : ev T (.cmp .gt a b) ρ = .ok (.bl (decide (j < i))) := (ev_cmp ha hb).trans (gt_i i j)
theorem ev_ge {i j : Int} (ha : ev T a ρ = .ok (.int i)) (hb : ev T b ρ = .ok (.int j)) : ev T (.cmp .ge a b) ρ = .ok (.bl (!decide (i < j))) := (ev_cmp ha hb).trans (ge_i i j)
theorem ev_eq {i j : Int} (ha : ev T a ρ = .ok (.int i)) (hb : ev T b ρ = .ok (.int j)) : ev T (.cmp .eq a b) ρ = .ok (.bl (decide (i = j))) := (ev_cmp ha hb).trans (eq_i i j)
theorem ev_ne {i j : Int} (ha : ev T a ρ = .ok (.int i)) (hb : ev T b ρ = .ok (.int j)) : ev T (.cmp .ne a b) ρ = .ok (.bl (!decide (i = j))) := (ev_cmp ha hb).trans (ne_i i j)
theorem small_of {i : Int} (h : -(2 ^ 64) < i) (h2 : i < 2 ^ 64) : small i = true := by
  show (decide _ && decide _) = true
  rw [decide_eq_true h, decide_eq_true h2]; rfl
theorem mulOk_l {i j : Int} (h : small i = true) : mulOk i j = true := by
  show (small i || small j || _) = true
  rw [h]; rfl
theorem mulOk_r {i j : Int} (h : small j = true) : mulOk i j = true := by
  show (small i || small j || _) = true
  rw [h]; cases small i <;> rfl
theorem mulOk_log {i j : Int} (h : i.natAbs.log2 + j.natAbs.log2 < 1000000) : mulOk i j = true := by
  show (small i || small j || decide _) = true
  rw [decide_eq_true h]; cases small i <;> cases small j <;> rfl
theorem log_of {i : Int} {n : Nat} (h0 : 0 ≤ i) (h : i < 2 ^ n) (hn : 0 < n) : i.natAbs.log2 < n := by
  have h1 : i.natAbs < 2 ^ n := by
    have : (i.natAbs : Int) = i := Int.natAbs_of_nonneg h0
    have h2 : ((i.natAbs : Int)) < ((2 ^ n : Nat) : Int) := by rw [this, Int.natCast_pow]; exact h
    exact Int.ofNat_lt.mp h2
  by_cases hz : i.natAbs = 0
  · rw [hz]; simpa using hn
  · exact (Nat.log2_lt hz).mpr h1
theorem log_small {i : Int} (h0 : 0 ≤ i) (h : i < 2 ^ 64) : i.natAbs.log2 < 9000 := Nat.lt_of_lt_of_le (log_of (n := 64) h0 h (by decide)) (by decide)
theorem at_ok {α : Type} {xs : List α} {i : Nat} {x : α} (h : xs[i]? = some x) : L2.atI xs (i : Int) = some x := by
  have hi : i < xs.length := (List.getElem?_eq_some_iff.mp h).1
  have : L2.ixN xs.length (i : Int) = some i := by
    unfold L2.ixN
    rw [if_pos (Int.natCast_nonneg i), if_pos (Int.ofNat_lt.mpr hi)]
    rfl
  unfold L2.atI
  rw [this]
  exact h
theorem idx_l {xs : List D} {i : Nat} {x : D} (h : xs[i]? = some x) : idxD (.lst xs) (.int (i : Int)) = .ok x := by
  show R.ofO (L2.atI xs (i : Int)) = _
  rw [at_ok h]; rfl
theorem idx_s {xs : List D} {i : Nat} {x : D} (h : xs[i]? = some x) : idxD (.scr xs) (.int (i : Int)) = .ok x := by
  show R.ofO (L2.atI xs (i : Int)) = _
  rw [at_ok h]; rfl
/-! statements -/
theorem stepB {α : Type} {s : St} {r : Sts} {X : R α} {g : Fl → R α} (h : rn T s ρ = .ok (.nx ρ')) (h2 : (rns T r ρ').bind g = X) : (rns T (.cons s r) ρ).bind g = X := by
  show ((rn T s ρ).bind _).bind g = X
  rw [h]; exact h2
theorem stp {s : St} {r : Sts} {X : R Fl} (h : rn T s ρ = .ok (.nx ρ')) (h2 : rns T r ρ' = X) : rns T (.cons s r) ρ = X := bindO h h2
theorem keepR_id {rs : List Nat} (h : unown ρ rs = ρ) : keepR ρ rs x = ρ := by
  unfold keepR
  split
  · rfl
  · exact h
theorem keepN_id {rs : List Nat} {f : Bool} (h : unown ρ rs = ρ) : keepN f ρ rs x = ρ := by
  unfold keepN keepRs
  split
  · split
    · rfl
    · exact h
  · exact keepR_id h
theorem rn_asg {i : Nat} (he : ev T e ρ = .ok x) (hu : unown ρ (roots e) = ρ) (hf : ownO (frs e) x = .sh x) (hi : decide (i < ρ.length) = true) : rn T (.asg (.n i) e) ρ = .ok (.nx (ρ.set i (sh x))) := by
  refine bindO he ?_
  rw [keepN_id hu, hf]
  exact guardR_t hi
theorem rn_if_t {s1 s2 : Sts} {X : R Fl} (he : ev T c ρ = .ok (.bl true)) (h : rns T s1 ρ = X) : rn T (.ife c s1 s2) ρ = X := bindO he h
theorem rn_if_f {s1 s2 : Sts} {X : R Fl} (he : ev T c ρ = .ok (.bl false)) (h : rns T s2 ρ = X) : rn T (.ife c s1 s2) ρ = X := bindO he h
theorem rn_if_n {s1 : Sts} (he : ev T c ρ = .ok (.bl false)) : rn T (.ife c s1 .nil) ρ = .ok (.nx ρ) := bindO he rfl
theorem ret_l {s : Sts} {d : D} (he : ev T e ρ = .ok d) : ∃ ρ', rns T (.cons (.ret e) s) ρ = .ok (.rt d ρ') := ⟨_, bindO (bindO he rfl) rfl⟩
theorem ret_b {s : Sts} {d : D} {X : R D} {g : Fl → R D} (he : ev T e ρ = .ok d) (h : ∀ ρ', g (.rt d ρ') = X) : (rns T (.cons (.ret e) s) ρ).bind g = X := by
  obtain ⟨ρ', h1⟩ := ret_l (s := s) he
  rw [h1]; exact h ρ'
theorem callF_run {B : Nat → Option FnI} {fi : Nat → Str → Option Nat} {sub : Nat → Nat → Bool} {fuel k g : Nat} {ds : List D} {f : FnI} {ρ : Env} {X : R D} (hB : B g = some f) (hs : decide (ds.length + f.self = f.np) = true) (hst : f.start ds = ρ)
    (h : (rns ⟨fi, fun f => (B f).bind FnI.cls, callF B fi sub fuel k, fuel, sub⟩ f.body ρ).bind f.fin = X) : callF B fi sub fuel (k + 1) g ds = X := by
  subst hst
  rw [callF, hB]
  show f.run _ ds = X
  rw [FnI.run, hs]
  exact h
theorem rn_par {i j : Nat} (ha : ev T a ρ = .ok x) (hb : ev T b ρ = .ok y) (h : (decide (i < ρ.length) && decide (j < ρ.length) && (froz x && froz y)) = true) : rn T (.par i j a b) ρ = .ok (.nx ((ρ.set i (sh x)).set j (sh y))) := bindO ha (bindO hb (guardR_t h))
theorem rn_exp (he : ev T e ρ = .ok x) : rn T (.exp e) ρ = .ok (.nx ρ) := bindO he rfl
theorem rn_exp_x {w : Xc} (he : ev T e ρ = .exc w) : rn T (.exp e) ρ = .exc w := bindX he
theorem rn_asgt {gs : Tgs} (he : ev T e ρ = .ok x) (hu : unown ρ (roots e) = ρ) (hb : bindT (.t gs) x ρ = .ok ρ') : rn T (.asg (.t gs) e) ρ = .ok (.nx ρ') := by
  refine bindO he ?_
  rw [keepR_id hu]
  exact bindO hb rfl
theorem cons_x {s : St} {r : Sts} {w : Xc} (h : rn T s ρ = .exc w) : rns T (.cons s r) ρ = .exc w := bindX h
theorem rn_app {i : Nat} {ds : List D} (hs : slotE ρ i = some (.f (.ol ds))) (he : ev T e ρ = .ok x) (hu : unown ρ (roots e) = ρ) (hl : ds.length + 1 ≤ line) : rn T (.app i e) ρ = .ok (.nx (ρ.set i (some (.f (.ol (ds ++ [x])))))) := by
  have h1 : rn T (.app i e) ρ = (ev T e ρ).bind fun x => (appO (keepR ρ (roots e) x) i [x]).bind fun ρ => R.ok (Fl.nx ρ) := by
    show (match slotE ρ i with
      | some (.f (.ol _)) => (ev T e ρ).bind fun x => (appO (keepR ρ (roots e) x) i [x]).bind fun ρ => R.ok (Fl.nx ρ)
      | _ => .stk) = _
    rw [hs]
  rw [h1]
  refine bindO he ?_
  rw [keepR_id hu]
  refine bindO (x := ρ.set i (some (.f (.ol (ds ++ [x]))))) ?_ rfl
  unfold appO
  rw [hs]
  exact guardR_t (decide_eq_true hl)
/-- the table of the functions, k calls deep -/
abbrev tb (B : Nat → Option FnI) (fi : Nat → Str → Option Nat) (sub : Nat → Nat → Bool) (fuel k : Nat) : Tab := ⟨fi, fun f => (B f).bind FnI.cls, callF B fi sub fuel k, fuel, sub⟩
theorem cl {B : Nat → Option FnI} {fi : Nat → Str → Option Nat} {sub : Nat → Nat → Bool} {fuel k f : Nat} {es : Exs} {xs : List D} {r : R D} (h : evs (tb B fi sub fuel k) es ρ = .ok xs) (h2 : callF B fi sub fuel k f xs = r) : ev (tb B fi sub fuel k) (.call f es) ρ = r := ev_call h h2
theorem cm {B : Nat → Option FnI} {fi : Nat → Str → Option Nat} {sub : Nat → Nat → Bool} {fuel k f c : Nat} {es : Exs} {xs : List D} {r : R D} (h : evs (tb B fi sub fuel k) es ρ = .ok xs) (h2 : callF B fi sub fuel k f xs = r) : ev (tb B fi sub fuel k) (.mk c f es) ρ = r := ev_mk h h2
/-! loops -/
/-- the loop's own name: nothing at first, then the last number -/
def lv (o : Option OD) (lo : Int) : Nat → Option OD
  | 0 => o
  | i + 1 => sh (.int (lo + i))
theorem loopF_ints {f : D → Env → R Fl} : ∀ (n : Nat) (lo : Int) (P : Nat → Env), (∀ i, i < n → f (.int (lo + i)) (P i) = .ok (.nx (P (i + 1)))) → loopF f (intsD lo n) (P 0) = .ok (.nx (P n))
  | 0, lo, P, h => rfl
  | n + 1, lo, P, h => by
    refine bindO (x := .nx (P 1)) ?_ ?_
    · have := h 0 (Nat.succ_pos n)
      rw [Int.natCast_zero, Int.add_zero] at this
      exact this
    · refine loopF_ints n (lo + 1) (fun i => P (i + 1)) fun i hi => ?_
      have := h (i + 1) (Nat.succ_lt_succ hi)
      rw [show lo + ((i + 1 : Nat) : Int) = lo + 1 + (i : Int) by omega] at this
      exact this
theorem loopF_inv {f : D → Env → R Fl} : ∀ (n : Nat) (lo : Int) (I : Nat → Env → Prop) (ρ : Env), (∀ i ρ, i < n → I i ρ → ∃ ρ', f (.int (lo + i)) ρ = .ok (.nx ρ') ∧ I (i + 1) ρ') → I 0 ρ → ∃ ρ', loopF f (intsD lo n) ρ = .ok (.nx ρ') ∧ I n ρ'
  | 0, lo, I, ρ, h, h0 => ⟨ρ, rfl, h0⟩
  | n + 1, lo, I, ρ, h, h0 => by
    obtain ⟨ρ1, h1, h2⟩ := h 0 ρ (Nat.succ_pos n) h0
    rw [Int.natCast_zero, Int.add_zero] at h1
    obtain ⟨ρ2, h3, h4⟩ := loopF_inv n (lo + 1) (fun i => I (i + 1)) ρ1 (fun i ρ hi hI => by
      have := h (i + 1) ρ (Nat.succ_lt_succ hi) hI
      rw [show lo + ((i + 1 : Nat) : Int) = lo + 1 + (i : Int) by omega] at this
      exact this) h2
    exact ⟨ρ2, bindO h1 h3, h4⟩
/-- for .. in range(n) -/
theorem rn_for {g : Tg} {bd : Sts} {i : Int} {w : R Fl} (hb : ev T b ρ = .ok (.int i)) (hs : smallI i = true) (h : loopF (fun x ρ => (bindT g x ρ).bind fun ρ => rns T bd ρ) (intsD 0 i.toNat) ρ = w) : rn T (.fr g (.r1 b) bd) ρ = w := by
  refine bindO (x := intsD 0 i.toNat) ?_ h
  exact bindO hb (guardR_t hs)
/-- what Euclid's loop leaves -/
theorem loopW_gcd {cnd : Env → R Bool} {f : Env → R Fl} {P : Nat → Nat → Env} (hc : ∀ a b, cnd (P a b) = .ok (decide ((0 : Int) < (b : Int)))) (M : Nat) (hf : ∀ a b, a ≤ M → b ≤ M → 0 < b → f (P a b) = .ok (.nx (P b (a % b)))) : ∀ (n a b : Nat), b < n → a ≤ M → b ≤ M → ∃ z, loopW cnd f n (P a b) = .ok (.nx (P (Nat.gcd b a) z))
  | 0, a, b, h, _, _ => absurd h (Nat.not_lt_zero b)
  | n + 1, a, b, h, h1, h2 => by
    match b, h, h2 with
    | 0, h, h2 =>
      refine ⟨0, bindO (hc a 0) ?_⟩
      show R.ok (Fl.nx (P a 0)) = _
      rw [Nat.gcd_zero_left]
    | b + 1, h, h2 =>
      have hl : a % (b + 1) < b + 1 := Nat.mod_lt _ (Nat.succ_pos b)
      obtain ⟨z, hz⟩ := loopW_gcd hc M hf n (b + 1) (a % (b + 1)) (by omega) h2 (by omega)
      refine ⟨z, bindO (hc a (b + 1)) ?_⟩
      have hd : decide ((0 : Int) < ((b + 1 : Nat) : Int)) = true := decide_eq_true (by omega)
      rw [hd]
      refine bindO (hf a (b + 1) h1 h2 (Nat.succ_pos b)) ?_
      show loopW cnd f n (P (b + 1) (a % (b + 1))) = _
      rw [hz, Nat.gcd_rec (b + 1) a]
theorem pow_le2 {a b : Nat} (h : a ≤ b) : (2 : Int) ^ a ≤ 2 ^ b := by
  have := Nat.pow_le_pow_right (n := 2) (by decide) h
  have h2 : ((2 ^ a : Nat) : Int) ≤ ((2 ^ b : Nat) : Int) := Int.ofNat_le.mpr this
  rwa [Int.natCast_pow, Int.natCast_pow] at h2
/-- i * i * .. -/
def pw (b : Int) : Nat → Int
  | 0 => 1
  | n + 1 => pw b n * b
theorem pw_le {b : Int} {w : Nat} (h0 : 0 ≤ b) (h : b ≤ 2 ^ w) : ∀ n, 0 ≤ pw b n ∧ pw b n ≤ 2 ^ (w * n)
  | 0 => ⟨Int.zero_le_ofNat 1, by show (1 : Int) ≤ _; rw [Nat.mul_zero]; exact Int.le_refl 1⟩
  | n + 1 => by
    obtain ⟨h1, h2⟩ := pw_le h0 h n
    refine ⟨Int.mul_nonneg h1 h0, ?_⟩
    have h3 : pw b n * b ≤ 2 ^ (w * n) * 2 ^ w := Int.mul_le_mul h2 h h0 (Int.le_trans h1 h2)
    rw [Nat.mul_succ, Int.pow_add]
    exact h3
theorem pw_pos {b : Int} (h : 0 < b) : ∀ n, 0 < pw b n
  | 0 => Int.zero_lt_one
  | n + 1 => Int.mul_pos (pw_pos h n) h
/-- n over i -/
def chv (n : Int) : Nat → Int
  | 0 => 1
  | i + 1 => chv n i * (n - (0 + (i : Int))) / ((0 + (i : Int)) + 1)
theorem chv_le {n : Nat} (h : n ≤ 1000) : ∀ i, i ≤ n → 0 ≤ chv n i ∧ chv n i ≤ 2 ^ (10 * i)
  | 0, _ => ⟨Int.zero_le_ofNat 1, by show (1 : Int) ≤ _; rw [Nat.mul_zero]; exact Int.le_refl 1⟩
  | i + 1, hi => by
    obtain ⟨h1, h2⟩ := chv_le h i (by omega)
    have ha : (0 : Int) ≤ (n : Int) - (0 + (i : Int)) := by omega
    have hb : (n : Int) - (0 + (i : Int)) ≤ 2 ^ 10 := by
      have : (2 : Int) ^ 10 = 1024 := by decide
      rw [this]; omega
    have hc : 0 ≤ chv n i * ((n : Int) - (0 + (i : Int))) := Int.mul_nonneg h1 ha
    refine ⟨Int.ediv_nonneg hc (by omega), ?_⟩
    refine Int.le_trans (Int.ediv_le_self _ hc) ?_
    rw [Nat.mul_succ, Int.pow_add]
    exact Int.mul_le_mul h2 hb ha (Int.le_trans h1 h2)
end PD
end

section
set_option Elab.async false
set_option linter.all false
set_option maxRecDepth 100000
/-! PD, part 20: the functions that most laws share, under one number in every law. -/
namespace PD.Core
open PySem PD
-- _law_cell ['script', 'k']
def b0 : Sts := (.cons (.ife (.cmp .lt (.var 1) (.bi .len (.cons (.var 0) .nil))) (.cons (.ret (.idx (.var 0) (.var 1))) .nil) .nil) (.cons (.ret (.cI 0)) .nil))
def f0 : FnI := ⟨2, 2, none, b0⟩
-- _law_numbers ['script', 'at', 'many']
def b1 : Sts := (.cons (.asg (.n 3) (.bi .abs (.cons (.call 0 (.cons (.var 0) (.cons (.var 1) .nil))) .nil))) (.cons (.asg (.n 4) (.cmp .ge (.var 3) (.bin .pow (.cI 10) (.cI 18)))) (.cons (.asg (.n 5) (.lst .nil)) (.cons (.fr (.n 6) (.r1 (.var 2)) (.cons (.ife (.and (.var 4) (.cmp .eq (.var 3) (.cI 0))) (.cons (.asg (.n 4) (.cB false)) (.cons (.asg (.n 3) (.bin .add (.bi .abs (.cons (.call 0 (.cons (.var 0) (.cons (.bin .add (.var 1) (.cI 1)) .nil))) .nil)) (.var 6))) .nil)) .nil) (.cons (.ife (.var 4) (.cons (.app 5 (.bin .mod (.bi .intOf (.cons (.var 3) .nil)) (.cI 840))) (.cons (.asg (.n 3) (.bin .fdiv (.var 3) (.cI 840))) .nil)) (.cons (.asg (.n 3) (.bin .mod (.bi .intOf (.cons (.bin .add (.bin .add (.bin .mul (.var 3) (.cI 48271)) (.bin .mul (.cI 7) (.var 6))) (.cI 11)) .nil)) (.cI 2147483647))) (.cons (.app 5 (.bin .fdiv (.var 3) (.cI 13))) .nil))) .nil))) (.cons (.ret (.var 5)) .nil)))))
def f1 : FnI := ⟨3, 7, none, b1⟩
-- all_rows ['many', 'bound']
def b2 : Sts := (.cons (.asg (.n 2) (.lst (.cons (.tup .nil) .nil))) (.cons (.whl (.cmp .lt (.bi .len (.cons (.idx (.var 2) (.cI 0)) .nil)) (.var 0)) (.cons (.asg (.n 2) (.lc2 [3, 4] [4] (.n 3) (.e (.var 2)) .nil (.n 4) (.r1 (.var 1)) .nil (.bin .add (.var 3) (.tup (.cons (.var 4) .nil))))) .nil)) (.cons (.ret (.var 2)) .nil)))
def f2 : FnI := ⟨2, 5, none, b2⟩
-- is_whole ['thing']
def b3 : Sts := (.cons (.ret (.and (.isi (.var 0) .int) (.not (.isi (.var 0) .bool)))) .nil)
def f3 : FnI := ⟨1, 1, none, b3⟩
-- is_below ['thing', 'bound']
def b4 : Sts := (.cons (.ret (.and (.call 3 (.cons (.var 0) .nil)) (.cmp2 .le .lt (.cI 0) (.var 0) (.var 1)))) .nil)
def f4 : FnI := ⟨2, 2, none, b4⟩
-- is_back ['thing']
def b5 : Sts := (.cons (.ife (.or (.not (.isi (.var 0) .tuple)) (.not (.cmp2 .le .le (.cI 1) (.bi .len (.cons (.var 0) .nil)) (.gI "MOST_KINDS" 4)))) (.cons (.ret (.cB false)) .nil) .nil) (.cons (.ife (.not (.bi .all (.cons (.lc [1] (.n 1) (.e (.var 0)) .nil (.call 4 (.cons (.var 1) (.cons (.bi .len (.cons (.var 0) .nil)) .nil)))) .nil))) (.cons (.ret (.cB false)) .nil) .nil) (.cons (.ret (.bi .all (.cons (.lc [1] (.n 1) (.r1 (.bi .len (.cons (.var 0) .nil))) .nil (.cmp .eq (.idx (.var 0) (.idx (.var 0) (.var 1))) (.var 1))) .nil))) .nil)))
def f5 : FnI := ⟨1, 2, none, b5⟩
-- are_below ['thing', 'many', 'bound']
def b6 : Sts := (.cons (.ife (.or (.not (.isi (.var 0) .tuple)) (.cmp .ne (.bi .len (.cons (.var 0) .nil)) (.var 1))) (.cons (.ret (.cB false)) .nil) .nil) (.cons (.ret (.bi .all (.cons (.lc [3] (.n 3) (.e (.var 0)) .nil (.call 4 (.cons (.var 3) (.cons (.var 2) .nil)))) .nil))) .nil))
def f6 : FnI := ⟨3, 4, none, b6⟩
-- orders_of ['back', 'trio']
def b7 : Sts := (.cons (.asg (.t (.cons (.n 2) (.cons (.n 3) (.cons (.n 4) .nil)))) (.var 1)) (.cons (.ret (.lst (.cons (.tup (.cons (.var 2) (.cons (.var 3) (.cons (.var 4) .nil)))) (.cons (.tup (.cons (.idx (.var 0) (.var 2)) (.cons (.var 4) (.cons (.var 3) .nil)))) (.cons (.tup (.cons (.var 4) (.cons (.idx (.var 0) (.var 3)) (.cons (.var 2) .nil)))) (.cons (.tup (.cons (.idx (.var 0) (.var 3)) (.cons (.idx (.var 0) (.var 2)) (.cons (.idx (.var 0) (.var 4)) .nil)))) (.cons (.tup (.cons (.var 3) (.cons (.idx (.var 0) (.var 4)) (.cons (.idx (.var 0) (.var 2)) .nil)))) (.cons (.tup (.cons (.idx (.var 0) (.var 4)) (.cons (.var 2) (.cons (.idx (.var 0) (.var 3)) .nil)))) .nil)))))))) .nil))
def f7 : FnI := ⟨2, 5, none, b7⟩
-- are_barred ['back', 'thing']
def b8 : Sts := (.cons (.ife (.or (.not (.isi (.var 1) .tuple)) (.not (.bi .all (.cons (.lc [3] (.n 3) (.e (.var 1)) .nil (.call 6 (.cons (.var 3) (.cons (.cI 3) (.cons (.bi .len (.cons (.var 0) .nil)) .nil))))) .nil)))) (.cons (.ret (.cB false)) .nil) .nil) (.cons (.ife (.not (.bi .all (.cons (.lc [3] (.n 3) (.e (.var 1)) .nil (.cmp .eq (.var 3) (.bi .min1 (.cons (.call 7 (.cons (.var 0) (.cons (.var 3) .nil))) .nil)))) .nil))) (.cons (.ret (.cB false)) .nil) .nil) (.cons (.ret (.bi .all (.cons (.lc [2] (.n 2) (.r2 (.cI 1) (.bi .len (.cons (.var 1) .nil))) .nil (.cmp .lt (.idx (.var 1) (.bin .sub (.var 2) (.cI 1))) (.idx (.var 1) (.var 2)))) .nil))) .nil)))
def f8 : FnI := ⟨2, 4, none, b8⟩
-- Book.__init__ ['self', 'back', 'barred']
def b9 : Sts := (.cons (.ife (.not (.call 5 (.cons (.var 1) .nil))) (.cons .nev .nil) .nil) (.cons (.ife (.not (.call 8 (.cons (.var 1) (.cons (.var 2) .nil)))) (.cons .nev .nil) .nil) (.cons (.fset "back" (.var 1)) (.cons (.fset "barred" (.var 2)) (.cons (.fset "kinds" (.bi .len (.cons (.var 1) .nil))) (.cons (.fset "lets" (.newD true)) (.cons (.fset "known_knit" .cN) (.cons (.fr (.n 3) (.e (.call 2 (.cons (.cI 3) (.cons (.bi .len (.cons (.var 1) .nil)) .nil)))) (.cons (.ife (.cmp .notin (.bi .min1 (.cons (.call 7 (.cons (.var 1) (.cons (.var 3) .nil))) .nil)) (.var 2)) (.cons (.fsub "lets" (.var 3) (.cB true)) .nil) .nil) .nil)) .nil))))))))
def f9 : FnI := ⟨3, 4, some 0, b9⟩
-- _law_backs []
def b10 : Sts := (.cons (.asg (.n 0) (.lst (.cons (.tup (.cons (.cI 0) .nil)) (.cons (.tup (.cons (.cI 0) (.cons (.cI 1) .nil))) (.cons (.tup (.cons (.cI 1) (.cons (.cI 0) .nil))) (.cons (.tup (.cons (.cI 0) (.cons (.cI 1) (.cons (.cI 2) .nil)))) (.cons (.tup (.cons (.cI 1) (.cons (.cI 0) (.cons (.cI 2) .nil)))) (.cons (.tup (.cons (.cI 2) (.cons (.cI 1) (.cons (.cI 0) .nil)))) (.cons (.tup (.cons (.cI 0) (.cons (.cI 2) (.cons (.cI 1) .nil)))) (.cons (.tup (.cons (.cI 0) (.cons (.cI 1) (.cons (.cI 2) (.cons (.cI 3) .nil))))) (.cons (.tup (.cons (.cI 1) (.cons (.cI 0) (.cons (.cI 2) (.cons (.cI 3) .nil))))) .nil))))))))))) (.cons (.asg (.n 0) (.bin .add (.var 0) (.lst (.cons (.tup (.cons (.cI 2) (.cons (.cI 1) (.cons (.cI 0) (.cons (.cI 3) .nil))))) (.cons (.tup (.cons (.cI 3) (.cons (.cI 1) (.cons (.cI 2) (.cons (.cI 0) .nil))))) (.cons (.tup (.cons (.cI 0) (.cons (.cI 2) (.cons (.cI 1) (.cons (.cI 3) .nil))))) (.cons (.tup (.cons (.cI 0) (.cons (.cI 3) (.cons (.cI 2) (.cons (.cI 1) .nil))))) (.cons (.tup (.cons (.cI 0) (.cons (.cI 1) (.cons (.cI 3) (.cons (.cI 2) .nil))))) (.cons (.tup (.cons (.cI 1) (.cons (.cI 0) (.cons (.cI 3) (.cons (.cI 2) .nil))))) (.cons (.tup (.cons (.cI 2) (.cons (.cI 3) (.cons (.cI 0) (.cons (.cI 1) .nil))))) .nil)))))))))) (.cons (.ret (.bin .add (.var 0) (.lst (.cons (.tup (.cons (.cI 3) (.cons (.cI 2) (.cons (.cI 1) (.cons (.cI 0) .nil))))) .nil)))) .nil)))
def f10 : FnI := ⟨0, 1, none, b10⟩
-- _law_tellings ['back', 'p', 'q', 'r']
def b11 : Sts := (.cons (.asg (.n 4) (.lst (.cons (.tup (.cons (.var 1) (.cons (.var 2) (.cons (.var 3) .nil)))) (.cons (.tup (.cons (.idx (.var 0) (.var 1)) (.cons (.var 3) (.cons (.var 2) .nil)))) (.cons (.tup (.cons (.var 3) (.cons (.idx (.var 0) (.var 2)) (.cons (.var 1) .nil)))) (.cons (.tup (.cons (.idx (.var 0) (.var 2)) (.cons (.idx (.var 0) (.var 1)) (.cons (.idx (.var 0) (.var 3)) .nil)))) (.cons (.tup (.cons (.var 2) (.cons (.idx (.var 0) (.var 3)) (.cons (.idx (.var 0) (.var 1)) .nil)))) .nil))))))) (.cons (.ret (.bin .add (.var 4) (.lst (.cons (.tup (.cons (.idx (.var 0) (.var 3)) (.cons (.var 1) (.cons (.idx (.var 0) (.var 2)) .nil)))) .nil)))) .nil))
def f11 : FnI := ⟨4, 5, none, b11⟩
-- _law_form ['back', 'p', 'q', 'r']
def b12 : Sts := (.cons (.ret (.bi .min1 (.cons (.call 11 (.cons (.var 0) (.cons (.var 1) (.cons (.var 2) (.cons (.var 3) .nil))))) .nil))) .nil)
def f12 : FnI := ⟨4, 4, none, b12⟩
-- _law_forms ['back']
def b13 : Sts := (.cons (.asg (.n 1) (.lst .nil)) (.cons (.asg (.n 2) (.bi .len (.cons (.var 0) .nil))) (.cons (.fr (.n 3) (.r1 (.bin .mul (.bin .mul (.var 2) (.var 2)) (.var 2))) (.cons (.asg (.n 4) (.call 12 (.cons (.var 0) (.cons (.bin .fdiv (.var 3) (.bin .mul (.var 2) (.var 2))) (.cons (.bin .mod (.bin .fdiv (.var 3) (.var 2)) (.var 2)) (.cons (.bin .mod (.var 3) (.var 2)) .nil)))))) (.cons (.ife (.cmp .notin (.var 4) (.var 1)) (.cons (.app 1 (.var 4)) .nil) .nil) .nil))) (.cons (.ret (.bi .sorted (.cons (.var 1) .nil))) .nil))))
def f13 : FnI := ⟨1, 5, none, b13⟩
-- _law_any_book ['numbers']
def b14 : Sts := (.cons (.asg (.n 1) (.idx (.call 10 .nil) (.bin .mod (.idx (.var 0) (.cI 0)) (.cI 17)))) (.cons (.asg (.n 2) (.call 13 (.cons (.var 1) .nil))) (.cons (.asg (.n 3) (.lst .nil)) (.cons (.fr (.n 4) (.r1 (.bi .len (.cons (.var 2) .nil))) (.cons (.ife (.cmp .eq (.bin .mod (.bin .fdiv (.idx (.var 0) (.bin .add (.cI 1) (.bin .mod (.var 4) (.bin .sub (.bi .len (.cons (.var 0) .nil)) (.cI 1))))) (.bin .add (.cI 1) (.bin .fdiv (.var 4) (.cI 7)))) (.cI 3)) (.cI 1)) (.cons (.app 3 (.idx (.var 2) (.var 4))) .nil) .nil) .nil)) (.cons (.ret (.tup (.cons (.var 1) (.cons (.bi .tupleOf (.cons (.var 3) .nil)) .nil)))) .nil)))))
def f14 : FnI := ⟨1, 5, none, b14⟩
-- _law_is_number ['thing']
def b15 : Sts := (.cons (.ret (.and (.isi (.var 0) .int) (.not (.isi (.var 0) .bool)))) .nil)
def f15 : FnI := ⟨1, 1, none, b15⟩
-- _law_let ['back', 'barred', 'p', 'q', 'r']
def b16 : Sts := (.cons (.ret (.cmp .notin (.call 12 (.cons (.var 0) (.cons (.var 2) (.cons (.var 3) (.cons (.var 4) .nil))))) (.var 1))) .nil)
def f16 : FnI := ⟨5, 5, none, b16⟩
variable {B : Nat → Option FnI} {fi : Nat → Str → Option Nat} {sub : Nat → Nat → Bool} {fu : Nat}
/-! the script's numbers -/
theorem c0 (h0 : B 0 = some f0) {k : Nat} (ns : List Int) (i : Nat) : ∃ v : Int, callF B fi sub fu (k+1) 0 [.scr (ns.map .int), .int (i : Int)] = .ok (.int v) := by
  by_cases h : i < ns.length
  · refine ⟨ns[i], ?_⟩
    refine callF_run (f := f0) (ρ := [sh (.scr (ns.map .int)), sh (.int i)]) h0 rfl rfl ?_
    have g1 : ev (tb B fi sub fu k) (.cmp .lt (.var 1) (.bi .len (.cons (.var 0) .nil))) [sh (.scr (ns.map .int)), sh (.int i)] = .ok (.bl true) := (ev_cmp rfl rfl).trans ((lt_i _ _).trans (by rw [decide_eq_true (by rw [List.length_map]; omega)]))
    have g2 : ev (tb B fi sub fu k) (.idx (.var 0) (.var 1)) [sh (.scr (ns.map .int)), sh (.int i)] = .ok (.int ns[i]) := (ev_idx rfl rfl).trans (idx_s (by rw [List.getElem?_map, List.getElem?_eq_getElem h]; rfl))
    obtain ⟨ρ', h1⟩ := ret_l (T := tb B fi sub fu k) (s := .nil) g2
    exact bindO (bindO (rn_if_t g1 h1) rfl) rfl
  · refine ⟨0, ?_⟩
    refine callF_run (f := f0) (ρ := [sh (.scr (ns.map .int)), sh (.int i)]) h0 rfl rfl ?_
    have g1 : ev (tb B fi sub fu k) (.cmp .lt (.var 1) (.bi .len (.cons (.var 0) .nil))) [sh (.scr (ns.map .int)), sh (.int i)] = .ok (.bl false) := (ev_cmp rfl rfl).trans ((lt_i _ _).trans (by rw [decide_eq_false (by rw [List.length_map]; omega)]))
    refine stepB (rn_if_n g1) ?_
    exact ret_b rfl fun _ => rfl
theorem abs_nat (v : Int) : ∃ c : Nat, (if v < 0 then -v else v) = (c : Int) := ⟨v.natAbs, by split <;> omega⟩
abbrev nD (a : Nat) : D := .int (a : Int)
abbrev NV (ss : List D) (c : Nat) (g : Bool) (nm : List Nat) (o : Option OD) : PD.Env := [sh (.scr ss), sh (.int 0), sh (.int 30), sh (.int (c : Int)), sh (.bl g), some (.f (.ol (nm.map nD))), o]
theorem c1 (h0 : B 0 = some f0) (hB1 : B 1 = some f1) {k : Nat} (ns : List Int) : ∃ nm : List Nat, nm.length = 30 ∧ callF B fi sub fu (k+2) 1 [.scr (ns.map .int), .int 0, .int 30] = .ok (.lst (nm.map nD)) := by
  obtain ⟨v0, hv0⟩ := c0 (B := B) (fi := fi) (sub := sub) (fu := fu) h0 (k := k) ns 0
  obtain ⟨v1, hv1⟩ := c0 (B := B) (fi := fi) (sub := sub) (fu := fu) h0 (k := k) ns 1
  obtain ⟨z0, hz0⟩ := abs_nat v0
  obtain ⟨z1, hz1⟩ := abs_nat v1
  have w0 : biD .abs [.int v0] = .ok (.int (z0 : Int)) := by rw [← hz0]; rfl
  have w1 : biD .abs [.int v1] = .ok (.int (z1 : Int)) := by rw [← hz1]; rfl
  obtain ⟨ρ', h1, c, g, nm, hl, he⟩ := loopF_inv (f := fun x ρ => (bindT (.n 6) x ρ).bind fun ρ => rns (tb B fi sub fu (k+1)) (.cons (.ife (.and (.var 4) (.cmp .eq (.var 3) (.cI 0))) (.cons (.asg (.n 4) (.cB false)) (.cons (.asg (.n 3) (.bin .add (.bi .abs (.cons (.call 0 (.cons (.var 0) (.cons (.bin .add (.var 1) (.cI 1)) .nil))) .nil)) (.var 6))) .nil)) .nil) (.cons (.ife (.var 4) (.cons (.app 5 (.bin .mod (.bi .intOf (.cons (.var 3) .nil)) (.cI 840))) (.cons (.asg (.n 3) (.bin .fdiv (.var 3) (.cI 840))) .nil)) (.cons (.asg (.n 3) (.bin .mod (.bi .intOf (.cons (.bin .add (.bin .add (.bin .mul (.var 3) (.cI 48271)) (.bin .mul (.cI 7) (.var 6))) (.cI 11)) .nil)) (.cI 2147483647))) (.cons (.app 5 (.bin .fdiv (.var 3) (.cI 13))) .nil))) .nil)) ρ)
    30 0 (fun i ρ => ∃ (c : Nat) (g : Bool) (nm : List Nat), nm.length = i ∧ ρ = NV (ns.map .int) c g nm (lv none 0 i)) (NV (ns.map .int) z0 (!decide ((z0 : Int) < 1000000000000000000)) [] none) (fun i ρ hi hI => by
      obtain ⟨c, g, nm, hl, he⟩ := hI
      subst he
      have s1 : ∃ (c' : Nat) (g' : Bool), rn (tb B fi sub fu (k+1)) (.ife (.and (.var 4) (.cmp .eq (.var 3) (.cI 0))) (.cons (.asg (.n 4) (.cB false)) (.cons (.asg (.n 3) (.bin .add (.bi .abs (.cons (.call 0 (.cons (.var 0) (.cons (.bin .add (.var 1) (.cI 1)) .nil))) .nil)) (.var 6))) .nil)) .nil) (NV (ns.map .int) c g nm (sh (.int (0 + i)))) = .ok (.nx (NV (ns.map .int) c' g' nm (sh (.int (0 + i))))) := by
        cases g with
        | false => exact ⟨c, false, rn_if_n (ev_and_f rfl)⟩
        | true =>
          cases hc : decide ((c : Int) = 0) with
          | false => exact ⟨c, true, rn_if_n (ev_and_t rfl ((ev_cmp rfl rfl).trans ((eq_i _ _).trans (by rw [hc]))))⟩
          | true =>
            refine ⟨z1 + i, false, rn_if_t (ev_and_t rfl ((ev_cmp rfl rfl).trans ((eq_i _ _).trans (by rw [hc])))) (stp (ρ' := NV (ns.map .int) c false nm (sh (.int (0 + i)))) rfl (stp (ρ' := NV (ns.map .int) (z1 + i) false nm (sh (.int (0 + i)))) ?_ rfl))⟩
            rw [show NV (ns.map .int) (z1 + i) false nm (sh (.int (0 + i))) = (NV (ns.map .int) c false nm (sh (.int (0 + i)))).set 3 (sh (.int ((z1 : Int) + (0 + (i : Int))))) by
              show [_, _, _, sh (.int ((z1 + i : Nat) : Int)), _, _, _] = [_, _, _, sh (.int ((z1 : Int) + (0 + (i : Int)))), _, _, _]
              rw [show ((z1 + i : Nat) : Int) = (z1 : Int) + (0 + (i : Int)) by omega]]
            exact rn_asg (ev_add (ev_bi (evs1 (cl (xs := [.scr (ns.map .int), .int 1]) rfl hv1)) w1) rfl) rfl rfl rfl
      obtain ⟨c', g', s1⟩ := s1
      have hmap : ∀ v : Nat, (nm.map nD) ++ [D.int (v : Int)] = (nm ++ [v]).map nD := fun v => by rw [List.map_append]; rfl
      have hlen : (nm.map nD).length + 1 ≤ line := by
        rw [List.length_map, hl]
        exact Nat.le_trans (show i + 1 ≤ 30 by omega) (by decide)
      have s2 : ∃ (c'' v : Nat), rn (tb B fi sub fu (k+1)) (.ife (.var 4) (.cons (.app 5 (.bin .mod (.bi .intOf (.cons (.var 3) .nil)) (.cI 840))) (.cons (.asg (.n 3) (.bin .fdiv (.var 3) (.cI 840))) .nil)) (.cons (.asg (.n 3) (.bin .mod (.bi .intOf (.cons (.bin .add (.bin .add (.bin .mul (.var 3) (.cI 48271)) (.bin .mul (.cI 7) (.var 6))) (.cI 11)) .nil)) (.cI 2147483647))) (.cons (.app 5 (.bin .fdiv (.var 3) (.cI 13))) .nil))) (NV (ns.map .int) c' g' nm (sh (.int (0 + i)))) = .ok (.nx (NV (ns.map .int) c'' g' (nm ++ [v]) (sh (.int (0 + i))))) := by
        cases g' with
        | true =>
          refine ⟨c' / 840, c' % 840, rn_if_t rfl (stp (ρ' := NV (ns.map .int) c' true (nm ++ [c' % 840]) (sh (.int (0 + i)))) ?_ (stp (ρ' := NV (ns.map .int) (c' / 840) true (nm ++ [c' % 840]) (sh (.int (0 + i)))) ?_ rfl))⟩
          · unfold NV
            rw [← hmap]
            exact rn_app rfl ((ev_bin (ev_bi (evs1 rfl) rfl) rfl).trans (mod_i (by decide))) rfl hlen
          · exact rn_asg ((ev_bin rfl rfl).trans (fdiv_i (by decide) (by decide))) rfl rfl rfl
        | false =>
          let w : Nat := (c' * 48271 + 7 * i + 11) % 2147483647
          refine ⟨w, w / 13, rn_if_f rfl (stp (ρ' := NV (ns.map .int) w false nm (sh (.int (0 + i)))) ?_ (stp (ρ' := NV (ns.map .int) w false (nm ++ [w / 13]) (sh (.int (0 + i)))) ?_ rfl))⟩
          · have hw : ((c' : Int) * 48271 + 7 * (0 + (i : Int)) + 11) % 2147483647 = (w : Int) := by
              show _ = (((c' * 48271 + 7 * i + 11) % 2147483647 : Nat) : Int)
              omega
            rw [show NV (ns.map .int) w false nm (sh (.int (0 + i))) = (NV (ns.map .int) c' false nm (sh (.int (0 + i)))).set 3 (sh (.int (((c' : Int) * 48271 + 7 * (0 + (i : Int)) + 11) % 2147483647))) by
              rw [hw]; rfl]
            exact rn_asg (ev_mod (ev_bi (evs1 (ev_add (ev_add (ev_mul rfl rfl (mulOk_r (by decide))) (ev_mul rfl rfl (mulOk_l (by decide)))) rfl)) rfl) rfl (by decide)) rfl rfl rfl
          · unfold NV
            rw [← hmap]
            exact rn_app rfl ((ev_bin rfl rfl).trans (fdiv_i (by decide) (by decide))) rfl hlen
      obtain ⟨c'', v, s2⟩ := s2
      refine ⟨_, bindO (x := NV (ns.map .int) c g nm (sh (.int (0 + i)))) rfl (stp s1 (stp s2 rfl)), c'', g', nm ++ [v], by rw [List.length_append, hl]; rfl, rfl⟩) ⟨z0, _, [], rfl, rfl⟩
  subst he
  refine ⟨nm, hl, ?_⟩
  refine callF_run (f := f1) (ρ := [sh (.scr (ns.map .int)), sh (.int 0), sh (.int 30), none, none, none, none]) hB1 rfl rfl ?_
  refine stepB (ρ' := [sh (.scr (ns.map .int)), sh (.int 0), sh (.int 30), sh (.int z0), none, none, none]) (rn_asg (ev_bi (evs1 (cl (xs := [.scr (ns.map .int), .int 0]) rfl hv0)) w0) rfl rfl rfl) ?_
  refine stepB (ρ' := [sh (.scr (ns.map .int)), sh (.int 0), sh (.int 30), sh (.int z0), sh (.bl (!decide ((z0 : Int) < 1000000000000000000))), none, none]) (rn_asg ((ev_cmp (y := .int 1000000000000000000) rfl rfl).trans (ge_i _ _)) rfl rfl rfl) ?_
  refine stepB (ρ' := NV (ns.map .int) z0 (!decide ((z0 : Int) < 1000000000000000000)) [] none) rfl ?_
  refine stepB (rn_for (i := 30) rfl rfl h1) ?_
  exact ret_b rfl fun _ => rfl
end PD.Core
end

section
set_option Elab.async false
set_option linter.all false
set_option maxRecDepth 100000
/-! PD, part 21: comprehensions, loops over any list. -/
namespace PD
open PySem
variable {T : Tab} {ρ ρ' : Env} {a b c e : Ex} {x y z : D}
theorem collect_map {f : D → R (List D)} {F : D → D} : ∀ {xs : List D}, (∀ x ∈ xs, f x = .ok [F x]) → collect f xs = .ok (xs.map F)
  | [], _ => rfl
  | x :: xs, h => by
    refine bindO (h x List.mem_cons_self) ?_
    exact bindO (collect_map fun y hy => h y (List.mem_cons_of_mem _ hy)) rfl
theorem collect_filter {f : D → R (List D)} {F : D → D} {p : D → Bool} : ∀ {xs : List D}, (∀ x ∈ xs, f x = .ok (match p x with
    | true => [F x]
    | false => [])) → collect f xs = .ok ((xs.filter p).map F)
  | [], _ => rfl
  | x :: xs, h => by
    refine bindO (h x List.mem_cons_self) ?_
    refine bindO (collect_filter fun y hy => h y (List.mem_cons_of_mem _ hy)) ?_
    rw [List.filter_cons]
    cases p x <;> rfl
theorem evIt_r1 {j : Int} (ha : ev T a ρ = .ok (.int j)) (h : smallI j = true) : evIt T (.r1 a) ρ = .ok (intsD 0 j.toNat) := bindO ha (guardR_t h)
theorem evIt_r2 {i j : Int} (ha : ev T a ρ = .ok (.int i)) (hb : ev T b ρ = .ok (.int j)) (h : (smallI i && smallI j) = true) : evIt T (.r2 a b) ρ = .ok (intsD i (j - i).toNat) := bindO ha (bindO hb (guardR_t h))
theorem evIt_e {xs : List D} (ha : ev T a ρ = .ok x) (h : itemsD x = .ok xs) : evIt T (.e a) ρ = .ok xs := bindO ha h
/-- [e for g in it] -/
theorem ev_lc {own : List Nat} {g : Tg} {it : It} {xs : List D} {F : D → D} (hi : evIt T it ρ = .ok xs) (hl : xs.length ≤ line)
    (h : ∀ x ∈ xs, ∃ ρx, bindT g x (wipeE (unown ρ (rootsI it)) own) = .ok ρx ∧ ev T e ρx = .ok (F x)) : ev T (.lc own g it .nil e) ρ = .ok (.lst (xs.map F)) := by
  refine bindO hi ?_
  refine bindO (x := xs.map F) ?_ ?_
  · refine Eq.trans (congrArg noExc (collect_map (F := F) fun x hx => ?_)) rfl
    obtain ⟨ρx, h1, h2⟩ := h x hx
    exact bindO h1 (bindO (x := true) rfl (bindO h2 rfl))
  · exact guardR_t (decide_eq_true (by rw [List.length_map]; exact hl))
/-- [e for g in it if c] -/
theorem ev_lcf {own : List Nat} {g : Tg} {it : It} {xs : List D} {F : D → D} {p : D → Bool} (hi : evIt T it ρ = .ok xs) (hl : xs.length ≤ line)
    (h : ∀ x ∈ xs, ∃ ρx, bindT g x (wipeE (unown ρ (rootsI it)) own) = .ok ρx ∧ ev T c ρx = .ok (.bl (p x)) ∧ (p x = true → ev T e ρx = .ok (F x))) : ev T (.lc own g it (.cons c .nil) e) ρ = .ok (.lst ((xs.filter p).map F)) := by
  refine bindO hi ?_
  refine bindO (x := (xs.filter p).map F) ?_ ?_
  · refine Eq.trans (congrArg noExc (collect_filter (F := F) (p := p) fun x hx => ?_)) rfl
    obtain ⟨ρx, h1, h2, h3⟩ := h x hx
    refine bindO h1 ?_
    cases hp : p x with
    | true => exact bindO (x := true) (bindO h2 (by rw [hp]; rfl)) (bindO (h3 hp) rfl)
    | false => exact bindO (x := false) (bindO h2 (by rw [hp]; rfl)) rfl
  · exact guardR_t (decide_eq_true (Nat.le_trans (by rw [List.length_map]; exact List.length_filter_le _ _) hl))
/-- all([..]) of truths -/
theorem isBls_map {α : Type} {p : α → Bool} : ∀ {xs : List α}, isBls (xs.map fun x => D.bl (p x)) = some (xs.map p)
  | [] => rfl
  | x :: xs => by
    show (isBls (xs.map fun x => D.bl (p x))).map (p x :: ·) = _
    rw [isBls_map]; rfl
theorem all_bls {α : Type} {p : α → Bool} {xs : List α} : biD .all [.lst (xs.map fun x => D.bl (p x))] = .ok (.bl (xs.all p)) := by
  show (R.ofO (isBls (xs.map fun x => D.bl (p x)))).bind _ = _
  rw [isBls_map]
  show R.ok (D.bl ((xs.map p).all id)) = _
  rw [List.all_map]; rfl
/-- a loop over any list, by what is there behind each part of it -/
theorem loopF_pre {f : D → Env → R Fl} : ∀ (xs pre : List D) (P : List D → Env), (∀ x l, x ∈ xs → f x (P l) = .ok (.nx (P (l ++ [x])))) → loopF f xs (P pre) = .ok (.nx (P (pre ++ xs)))
  | [], pre, P, _ => by rw [List.append_nil]; rfl
  | x :: xs, pre, P, h => by
    refine bindO (h x pre List.mem_cons_self) ?_
    have := loopF_pre xs (pre ++ [x]) P fun y l hy => h y l (List.mem_cons_of_mem _ hy)
    rw [List.append_assoc] at this
    exact this
/-- .. where the part is what stands ahead -/
theorem loopF_at {f : D → Env → R Fl} {whole : List D} (P : List D → Env) (h : ∀ l x r, whole = l ++ x :: r → f x (P l) = .ok (.nx (P (l ++ [x])))) : ∀ (xs pre : List D), whole = pre ++ xs → loopF f xs (P pre) = .ok (.nx (P whole))
  | [], pre, e => by rw [List.append_nil] at e; subst e; rfl
  | x :: xs, pre, e => by
    refine bindO (h pre x xs e) ?_
    exact loopF_at P h xs (pre ++ [x]) (by rw [List.append_assoc]; exact e)
theorem rn_fset {y : Str} {cc j : Nat} {fs : List OF} (he : ev T e ρ = .ok x) (hu : unown ρ (roots e) = ρ) (hs : slotE ρ 0 = some (.oo cc fs)) (hf : T.fi cc y = some j) (hj : (decide (j ≤ fs.length) && decide (fs.length < 100)) = true) :
    rn T (.fset y e) ρ = .ok (.nx (ρ.set 0 (some (.oo cc (setF fs j (ownO (frs e) x)))))) := by
  rw [rn]
  refine bindO he ?_
  rw [keepR_id hu, hs]
  refine bindO (x := j) (by rw [hf]; rfl) ?_
  exact guardR_t hj
theorem rn_fsub {w : Str} {cc j : Nat} {fs : List OF} {t : Bool} {kvs : List (D × D)} (he : ev T e ρ = .ok x) (hu : unown ρ (roots e) = ρ) (hs : slotE ρ 0 = some (.oo cc fs)) (hf : T.fi cc w = some j) (hj : fs[j]? = some (.od t kvs)) (hk : ev T a ρ = .ok y) (hz : froz y = true)
    (ho : (keyOk t y && decide (kvs.length < line)) = true) : rn T (.fsub w a e) ρ = .ok (.nx (ρ.set 0 (some (.oo cc (fs.set j (.od t (putK kvs y x))))))) := by
  rw [rn]
  refine bindO he ?_
  rw [keepR_id hu, hs]
  refine bindO (x := j) (by rw [hf]; rfl) ?_
  rw [hj]
  refine bindO hk ?_
  rw [hz]
  have h1 : subO (.od t kvs) y x = .ok (.od t (putK kvs y x)) := by
    rw [subO]
    exact guardR_t ho
  exact bindO h1 rfl
theorem putK_new {kvs : List (D × D)} {k v : D} (h : (kvs.any fun p => eqD p.1 k) = false) : putK kvs k v = kvs ++ [(k, v)] := by
  unfold putK
  rw [h]; rfl
/-! the same datum, sign by sign -/
mutual
def beqD : D → D → Bool
  | .non, .non => true
  | .bl a, .bl b => decide (a = b)
  | .int a, .int b => decide (a = b)
  | .str a, .str b => decide (a = b)
  | .tup a, .tup b => beqDs a b
  | .lst a, .lst b => beqDs a b
  | _, _ => false
def beqDs : List D → List D → Bool
  | [], [] => true
  | a :: r, b :: s => beqD a b && beqDs r s
  | _, _ => false
end
mutual
theorem beqD_ok : ∀ {a b : D}, beqD a b = true → a = b
  | .non, b, h => by cases b <;> first | rfl | exact absurd h Bool.false_ne_true
  | .bl a, b, h => by
    cases b <;> first
      | (rw [beqD] at h; rw [of_decide_eq_true h])
      | exact absurd h Bool.false_ne_true
  | .int a, b, h => by
    cases b <;> first
      | (rw [beqD] at h; rw [of_decide_eq_true h])
      | exact absurd h Bool.false_ne_true
  | .str a, b, h => by
    cases b <;> first
      | (rw [beqD] at h; rw [of_decide_eq_true h])
      | exact absurd h Bool.false_ne_true
  | .tup a, b, h => by
    cases b <;> first
      | (rw [beqD] at h; rw [beqDs_ok h])
      | exact absurd h Bool.false_ne_true
  | .lst a, b, h => by
    cases b <;> first
      | (rw [beqD] at h; rw [beqDs_ok h])
      | exact absurd h Bool.false_ne_true
  | .scr a, b, h => by cases b <;> exact absurd h Bool.false_ne_true
  | .dct t a, b, h => by cases b <;> exact absurd h Bool.false_ne_true
  | .obj c a, b, h => by cases b <;> exact absurd h Bool.false_ne_true
theorem beqDs_ok : ∀ {a b : List D}, beqDs a b = true → a = b
  | [], b, h => by cases b <;> first | rfl | exact absurd h Bool.false_ne_true
  | x :: r, b, h => by
    cases b with
    | nil => exact absurd h Bool.false_ne_true
    | cons y s =>
      rw [beqDs, Bool.and_eq_true] at h
      rw [beqD_ok h.1, beqDs_ok h.2]
end
end PD
end

section
set_option Elab.async false
set_option linter.all false
set_option maxRecDepth 100000
/-! PD, part 22: a book, whatever it bars. -/
namespace PD.Core
open PySem PD
variable {B : Nat → Option FnI} {fi : Nat → Str → Option Nat} {sub : Nat → Nat → Bool} {fu : Nat}
theorem smallI_nat {m : Nat} (h : m ≤ 100000) : smallI (m : Int) = true := by
  show (decide _ && decide _) = true
  rw [decide_eq_true (by omega), decide_eq_true (by omega)]; rfl
theorem map_true (xs : List D) : (xs.map fun _ => D.bl true) = xs.map fun x => D.bl ((fun _ => true) x) := rfl
theorem all_true (xs : List D) : biD .all [.lst (xs.map fun _ => D.bl true)] = .ok (.bl true) := by
  rw [map_true, all_bls]
  show R.ok (D.bl (xs.all fun _ => true)) = _
  rw [show (xs.all fun _ => true) = true from List.all_eq_true.mpr fun _ _ => rfl]
theorem c8 (h8 : B 8 = some f8) {k : Nat} {bb bs : List D} (hl : bs.length ≤ 1000)
    (hbel : ∀ t ∈ bs, callF B fi sub fu k 6 [t, .int 3, .int bb.length] = .ok (.bl true))
    (hfm : ∀ t ∈ bs, ∃ os, callF B fi sub fu k 7 [.tup bb, t] = .ok (.lst os) ∧ biD .min1 [.lst os] = .ok t)
    (heq : ∀ t ∈ bs, cmpD .eq t t = .ok (.bl true))
    (hord : ∀ i, i + 1 < bs.length → ∃ x y, bs[i]? = some x ∧ bs[i + 1]? = some y ∧ cmpD .lt x y = .ok (.bl true)) :
    callF B fi sub fu (k+1) 8 [.tup bb, .tup bs] = .ok (.bl true) := by
  have hl2 : bs.length ≤ line := Nat.le_trans hl (by decide)
  refine callF_run (f := f8) (ρ := [sh (.tup bb), sh (.tup bs), none, none]) h8 rfl rfl ?_
  have g1 : ev (tb B fi sub fu k) (.not (.bi .all (.cons (.lc [3] (.n 3) (.e (.var 1)) .nil (.call 6 (.cons (.var 3) (.cons (.cI 3) (.cons (.bi .len (.cons (.var 0) .nil)) .nil))))) .nil))) [sh (.tup bb), sh (.tup bs), none, none] = .ok (.bl false) := by
    refine evNot (k := true) (ev_bi (evs1 (ev_lc (xs := bs) (F := fun _ => .bl true) rfl hl2 fun x hx => ⟨[sh (.tup bb), sh (.tup bs), none, sh x], rfl, ?_⟩)) (all_true bs))
    exact cl (xs := [x, .int 3, .int bb.length]) rfl (hbel x hx)
  refine stepB (rn_if_n (ev_or_f (evNot (k := true) rfl) g1)) ?_
  have g2 : ev (tb B fi sub fu k) (.not (.bi .all (.cons (.lc [3] (.n 3) (.e (.var 1)) .nil (.cmp .eq (.var 3) (.bi .min1 (.cons (.call 7 (.cons (.var 0) (.cons (.var 3) .nil))) .nil)))) .nil))) [sh (.tup bb), sh (.tup bs), none, none] = .ok (.bl false) := by
    refine evNot (k := true) (ev_bi (evs1 (ev_lc (xs := bs) (F := fun _ => .bl true) rfl hl2 fun x hx => ⟨[sh (.tup bb), sh (.tup bs), none, sh x], rfl, ?_⟩)) (all_true bs))
    obtain ⟨os, h1, h2⟩ := hfm x hx
    exact (ev_cmp rfl (ev_bi (evs1 (cl (xs := [.tup bb, x]) rfl h1)) h2)).trans (heq x hx)
  refine stepB (rn_if_n g2) ?_
  refine ret_b (d := .bl true) ?_ fun _ => rfl
  have hz : intsD 1 ((bs.length : Int) - 1).toNat = intsD 1 (bs.length - 1) := by
    rw [show ((bs.length : Int) - 1).toNat = bs.length - 1 by omega]
  refine ev_bi (evs1 (ev_lc (xs := intsD 1 (bs.length - 1)) (F := fun _ => .bl true) ?_ ?_ fun x hx => ?_)) (all_true _)
  · rw [← hz]
    refine evIt_r2 rfl rfl ?_
    rw [smallI_nat (m := bs.length) (by omega)]; rfl
  · have : ∀ (n : Nat) (lo : Int), (intsD lo n).length = n := fun n => by
      induction n with
      | zero => intro lo; rfl
      | succ n ih => intro lo; rw [intsD, List.length_cons, ih]
    rw [this]
    exact Nat.le_trans (Nat.sub_le _ _) hl2
  · have : ∀ (n : Nat) (lo : Nat), x ∈ intsD lo n → ∃ i : Nat, x = .int (i : Int) ∧ lo ≤ i ∧ i < lo + n := fun n => by
      induction n with
      | zero => intro lo h; exact absurd h (by simp [intsD])
      | succ n ih =>
        intro lo h
        rw [intsD, List.mem_cons] at h
        rcases h with h | h
        · exact ⟨lo, h, Nat.le_refl _, by omega⟩
        · obtain ⟨i, h1, h2, h3⟩ := ih (lo + 1) h
          exact ⟨i, h1, by omega, by omega⟩
    obtain ⟨i, rfl, h1, h2⟩ := this _ 1 hx
    obtain ⟨x, y, hx1, hy1, h3⟩ := hord (i - 1) (by omega)
    refine ⟨[sh (.tup bb), sh (.tup bs), sh (.int (i : Int)), none], rfl, ?_⟩
    have e1 : (i : Int) - 1 = ((i - 1 : Nat) : Int) := by omega
    have e2 : i - 1 + 1 = i := by omega
    rw [e2] at hy1
    have q1 : idxD (.tup bs) (.int ((i : Int) - 1)) = .ok x := by
      rw [e1]
      show R.ofO (L2.atI bs ((i - 1 : Nat) : Int)) = _
      rw [at_ok hx1]; rfl
    have q2 : idxD (.tup bs) (.int (i : Int)) = .ok y := by
      show R.ofO (L2.atI bs (i : Int)) = _
      rw [at_ok hy1]; rfl
    exact (ev_cmp ((ev_idx rfl (ev_sub rfl rfl)).trans q1) ((ev_idx rfl rfl).trans q2)).trans h3
/-- the rows that a book lets -/
def letK (form : D → D) (bs : List D) (t : D) : Bool := !(bs.any fun y => eqD y (form t))
def lets (form : D → D) (bs l : List D) : List (D × D) := (l.filter (letK form bs)).map fun t => (t, D.bl true)
def lastO (l : List D) : Option OD := match l.getLast? with
  | none => none
  | some x => sh x
theorem lastO_app (l : List D) (x : D) : lastO (l ++ [x]) = sh x := by
  unfold lastO
  rw [List.getLast?_append]
  rfl
abbrev bkE (form : D → D) (bb bs : List D) (n : Int) (l : List D) : PD.Env := [some (.oo 0 [.sh (.tup bb), .sh (.tup bs), .sh (.int n), .od true (lets form bs l), .sh .non]), sh (.tup bb), sh (.tup bs), lastO l]
theorem c9 (h9 : B 9 = some f9) (hfi : ∀ x, fi 0 x = idxS ["back", "barred", "kinds", "lets", "known_knit"] x) {k : Nat} {bb bs rows : List D} {form : D → D} (hl : rows.length ≤ 1000)
    (h5 : callF B fi sub fu k 5 [.tup bb] = .ok (.bl true)) (h8 : callF B fi sub fu k 8 [.tup bb, .tup bs] = .ok (.bl true))
    (h2 : callF B fi sub fu k 2 [.int 3, .int bb.length] = .ok (.lst rows))
    (hfm : ∀ t ∈ rows, ∃ os, callF B fi sub fu k 7 [.tup bb, t] = .ok (.lst os) ∧ biD .min1 [.lst os] = .ok (form t))
    (hni : ∀ t ∈ rows, cmpD .notin (form t) (.tup bs) = .ok (.bl (letK form bs t)))
    (hkey : ∀ t ∈ rows, keyOk true t = true ∧ froz t = true)
    (hdis : ∀ l x r, rows = l ++ x :: r → ∀ t ∈ l, eqD t x = false) :
    callF B fi sub fu (k+1) 9 [.tup bb, .tup bs] = .ok (.obj 0 [.tup bb, .tup bs, .int bb.length, .dct true (lets form bs rows), .non]) := by
  refine callF_run (f := f9) (ρ := [some (.oo 0 []), sh (.tup bb), sh (.tup bs), none]) h9 rfl rfl ?_
  refine stepB (rn_if_n (evNot (k := true) (cl (xs := [.tup bb]) rfl h5))) ?_
  refine stepB (rn_if_n (evNot (k := true) (cl (xs := [.tup bb, .tup bs]) rfl h8))) ?_
  refine stepB (ρ' := [some (.oo 0 [.sh (.tup bb)]), sh (.tup bb), sh (.tup bs), none]) (rn_fset (T := tb B fi sub fu k) (ρ := [some (.oo 0 []), sh (.tup bb), sh (.tup bs), none]) (y := "back") (e := .var 1) (j := 0) (cc := 0) (fs := []) (x := .tup bb) rfl rfl rfl ((hfi "back").trans rfl) rfl) ?_
  refine stepB (ρ' := [some (.oo 0 [.sh (.tup bb), .sh (.tup bs)]), sh (.tup bb), sh (.tup bs), none]) (rn_fset (T := tb B fi sub fu k) (ρ := [some (.oo 0 [.sh (.tup bb)]), sh (.tup bb), sh (.tup bs), none]) (y := "barred") (e := .var 2) (j := 1) (cc := 0) (fs := [.sh (.tup bb)]) (x := .tup bs) rfl rfl rfl ((hfi "barred").trans rfl) rfl) ?_
  refine stepB (ρ' := [some (.oo 0 [.sh (.tup bb), .sh (.tup bs), .sh (.int bb.length)]), sh (.tup bb), sh (.tup bs), none]) (rn_fset (T := tb B fi sub fu k) (ρ := [some (.oo 0 [.sh (.tup bb), .sh (.tup bs)]), sh (.tup bb), sh (.tup bs), none]) (y := "kinds") (e := .bi .len (.cons (.var 1) .nil)) (j := 2) (cc := 0) (fs := [.sh (.tup bb), .sh (.tup bs)]) (x := .int bb.length) rfl rfl rfl ((hfi "kinds").trans rfl) rfl) ?_
  refine stepB (ρ' := [some (.oo 0 [.sh (.tup bb), .sh (.tup bs), .sh (.int bb.length), .od true []]), sh (.tup bb), sh (.tup bs), none]) (rn_fset (T := tb B fi sub fu k) (ρ := [some (.oo 0 [.sh (.tup bb), .sh (.tup bs), .sh (.int bb.length)]), sh (.tup bb), sh (.tup bs), none]) (y := "lets") (e := .newD true) (j := 3) (cc := 0) (fs := [.sh (.tup bb), .sh (.tup bs), .sh (.int bb.length)]) (x := .dct true []) rfl rfl rfl ((hfi "lets").trans rfl) rfl) ?_
  refine stepB (ρ' := bkE form bb bs bb.length []) (rn_fset (T := tb B fi sub fu k) (ρ := [some (.oo 0 [.sh (.tup bb), .sh (.tup bs), .sh (.int bb.length), .od true []]), sh (.tup bb), sh (.tup bs), none]) (y := "known_knit") (e := .cN) (j := 4) (cc := 0) (fs := [.sh (.tup bb), .sh (.tup bs), .sh (.int bb.length), .od true []]) (x := .non) rfl rfl rfl ((hfi "known_knit").trans rfl) rfl) ?_
  refine stepB (ρ' := bkE form bb bs bb.length rows) (bindO (evIt_e (x := .lst rows) (cl (xs := [.int 3, .int bb.length]) rfl h2) rfl) ?_) rfl
  refine loopF_at (whole := rows) (fun l => bkE form bb bs bb.length l) (fun l x r e => ?_) rows [] rfl
  have hx : x ∈ rows := by rw [e]; exact List.mem_append_right _ List.mem_cons_self
  obtain ⟨os, h7, hm⟩ := hfm x hx
  obtain ⟨hk1, hk2⟩ := hkey x hx
  refine bindO (x := [some (.oo 0 [.sh (.tup bb), .sh (.tup bs), .sh (.int bb.length), .od true (lets form bs l), .sh .non]), sh (.tup bb), sh (.tup bs), sh x]) rfl ?_
  have g : ev (tb B fi sub fu k) (.cmp .notin (.bi .min1 (.cons (.call 7 (.cons (.var 1) (.cons (.var 3) .nil))) .nil)) (.var 2)) [some (.oo 0 [.sh (.tup bb), .sh (.tup bs), .sh (.int bb.length), .od true (lets form bs l), .sh .non]), sh (.tup bb), sh (.tup bs), sh x] = .ok (.bl (letK form bs x)) :=
    (ev_cmp (ev_bi (evs1 (cl (xs := [.tup bb, x]) rfl h7)) hm) rfl).trans (hni x hx)
  show rns (tb B fi sub fu k) _ _ = .ok (.nx [some (.oo 0 [.sh (.tup bb), .sh (.tup bs), .sh (.int bb.length), .od true (lets form bs (l ++ [x])), .sh .non]), sh (.tup bb), sh (.tup bs), lastO (l ++ [x])])
  rw [lastO_app]
  cases c : letK form bs x with
  | false =>
    rw [c] at g
    have e2 : lets form bs (l ++ [x]) = lets form bs l := by
      unfold lets
      rw [List.filter_append, List.filter_cons, c]
      simp
    rw [e2]
    exact stp (rn_if_n g) rfl
  | true =>
    rw [c] at g
    have e2 : lets form bs (l ++ [x]) = putK (lets form bs l) x (.bl true) := by
      rw [putK_new]
      · unfold lets
        rw [List.filter_append, List.filter_cons, c]
        simp
      · rw [Bool.eq_false_iff]
        intro z
        obtain ⟨p, hp, hq⟩ := List.any_eq_true.mp z
        obtain ⟨t, ht, rfl⟩ := List.mem_map.mp hp
        have := hdis l x r e t (List.mem_filter.mp ht).1
        rw [this] at hq
        cases hq
    have hlen : (lets form bs l).length < line := by
      unfold lets
      rw [List.length_map]
      have h1 : (l.filter (letK form bs)).length ≤ l.length := List.length_filter_le _ _
      have h2 : l.length ≤ rows.length := by rw [e, List.length_append]; omega
      have h3 : 1000 < line := by decide
      omega
    rw [e2]
    refine stp (rn_if_t g (stp (rn_fsub (j := 3) (y := x) (x := .bl true) rfl rfl rfl ((hfi "lets").trans rfl) rfl rfl hk2 ?_) rfl)) rfl
    rw [hk1, decide_eq_true hlen]; rfl
end PD.Core
end

section
set_option Elab.async false
set_option linter.all false
set_option maxRecDepth 100000
/-! PD, part 23: rows of whole numbers, as plain lists. -/
namespace PD.Core
open PySem PD PySem.W
/-- a row -/
abbrev rD (a : List Nat) : D := .tup (a.map nD)
abbrev lD (a : List Nat) : D := .lst (a.map nD)
def ltR : List Nat → List Nat → Bool
  | [], [] => false
  | [], _ :: _ => true
  | _ :: _, [] => false
  | x :: xs, y :: ys => if x = y then ltR xs ys else decide (x < y)
theorem toPs_n : ∀ a : List Nat, toPs (a.map nD) = (a.map fun (x : Nat) => (x : Int)).map PyData.int
  | [] => rfl
  | x :: a => by
    show PyData.int x :: toPs (a.map nD) = _
    rw [toPs_n a]; rfl
theorem toP_r (a : List Nat) : toP (rD a) = .tuple ((a.map fun (x : Nat) => (x : Int)).map PyData.int) := by
  show PyData.tuple (toPs (a.map nD)) = _
  rw [toPs_n]
theorem eqv_ints : ∀ a b : List Nat, PyData.eqvAll ((a.map fun (x : Nat) => (x : Int)).map PyData.int) ((b.map fun (x : Nat) => (x : Int)).map PyData.int) = decide (a = b)
  | [], [] => by rw [List.map_nil, List.map_nil, PyData.eqvAll]; rfl
  | [], y :: ys => by
    rw [List.map_cons, List.map_cons, List.map_nil, List.map_nil, PyData.eqvAll]
    · rw [decide_eq_false (by intro h; cases h)]
    all_goals simp
  | x :: xs, [] => by
    rw [List.map_cons, List.map_cons, List.map_nil, List.map_nil, PyData.eqvAll]
    · rw [decide_eq_false (by intro h; cases h)]
    all_goals simp
  | x :: xs, y :: ys => by
    rw [List.map_cons, List.map_cons, List.map_cons, List.map_cons, eqv_all_cons, eqv_ints xs ys]
    have h : PyData.eqv (.int (x : Int)) (.int (y : Int)) = decide (x = y) := by
      have := eqD_i (x : Int) (y : Int)
      rw [show eqD (.int (x : Int)) (.int (y : Int)) = PyData.eqv (.int (x : Int)) (.int (y : Int)) from rfl] at this
      rw [this]
      exact decide_eq_decide.mpr Int.ofNat_inj
    rw [h, ← Bool.decide_and]
    exact decide_eq_decide.mpr ⟨fun ⟨h1, h2⟩ => by rw [h1, h2], fun h => by injection h with h1 h2; exact ⟨h1, h2⟩⟩
theorem eqD_r (a b : List Nat) : eqD (rD a) (rD b) = decide (a = b) := by
  show PyData.eqv (toP (rD a)) (toP (rD b)) = _
  rw [toP_r, toP_r, PyData.eqv, eqv_ints]
theorem eqD_n (a b : Nat) : eqD (nD a) (nD b) = decide (a = b) := by
  rw [eqD_i]
  exact decide_eq_decide.mpr Int.ofNat_inj
theorem ltR_of : ∀ a b : List Nat, decide ((a.map fun (x : Nat) => (x : Int)) < (b.map fun (x : Nat) => (x : Int))) = ltR a b
  | [], [] => by simp [ltR]
  | [], y :: ys => by simp [ltR]
  | x :: xs, [] => by simp [ltR]
  | x :: xs, y :: ys => by
    rw [ltR, ← ltR_of xs ys]
    by_cases h : x = y
    · subst h
      simp [List.cons_lt_cons_iff]
    · have h' : ¬ (x : Int) = (y : Int) := by omega
      simp [List.cons_lt_cons_iff, h, h']
theorem ltD_r (a b : List Nat) : ltD (rD a) (rD b) = ltR a b := by
  show dataLt (toP (rD a)) (toP (rD b)) = _
  rw [toP_r, toP_r, dataLt_tuple]
  exact (dataLt_ints _ _).trans (ltR_of a b)
theorem plains_n : ∀ a : List Nat, plains (a.map nD) = true
  | [] => rfl
  | x :: a => by
    show (true && plains (a.map nD)) = true
    rw [plains_n a]; rfl
theorem plain_r (a : List Nat) : plain (rD a) = true := plains_n a
theorem frozs_n : ∀ a : List Nat, frozs (a.map nD) = true
  | [] => rfl
  | x :: a => by
    show (true && frozs (a.map nD)) = true
    rw [frozs_n a]; rfl
theorem froz_r (a : List Nat) : froz (rD a) = true := frozs_n a
theorem plains_r : ∀ a : List (List Nat), plains (a.map rD) = true
  | [] => rfl
  | x :: a => by
    show (plain (rD x) && plains (a.map rD)) = true
    rw [plain_r, plains_r a]; rfl
theorem frozs_r : ∀ a : List (List Nat), frozs (a.map rD) = true
  | [] => rfl
  | x :: a => by
    show (froz (rD x) && frozs (a.map rD)) = true
    rw [froz_r, frozs_r a]; rfl
theorem depth_n : ∀ a : List Nat, PyData.depthAll ((a.map fun (x : Nat) => (x : Int)).map PyData.int) ≤ 1
  | [] => by simp [PyData.depthAll]
  | x :: a => by
    rw [List.map_cons, List.map_cons, PyData.depthAll]
    have := depth_n a
    have h : PyData.depth (.int (x : Int)) ≤ 1 := by simp [PyData.depth]
    omega
theorem deep_r (a : List Nat) : deep (rD a) ≤ 2 := by
  show PyData.depth (toP (rD a)) ≤ 2
  rw [toP_r, PyData.depth]
  have := depth_n a
  omega
theorem alikeAll_n : ∀ a b : List Nat, alikeAll ((a.map fun (x : Nat) => (x : Int)).map PyData.int) ((b.map fun (x : Nat) => (x : Int)).map PyData.int) = true
  | [], _ => by rw [List.map_nil, List.map_nil, alikeAll]
  | x :: xs, [] => by
    rw [List.map_nil, List.map_nil, List.map_cons, List.map_cons, alikeAll]
  | x :: xs, y :: ys => by
    rw [List.map_cons, List.map_cons, List.map_cons, List.map_cons, alikeAll, alikeAll_n xs ys, alike]; rfl
theorem alike_r (a b : List Nat) : alikeD (rD a) (rD b) = true := by
  show alike (toP (rD a)) (toP (rD b)) = true
  rw [toP_r, toP_r, alike]
  exact alikeAll_n a b
theorem eqOk_r (a b : List Nat) : eqOk (rD a) (rD b) = true := by
  unfold eqOk
  have := deep_r a
  rw [plain_r, plain_r, decide_eq_true (by omega)]; rfl
theorem ordOk_r (a b : List Nat) : ordOk (rD a) (rD b) = true := by
  unfold ordOk
  have := deep_r a
  rw [plain_r, plain_r, alike_r, decide_eq_true (by omega)]; rfl
theorem req (a b : List Nat) : cmpD .eq (rD a) (rD b) = .ok (.bl (decide (a = b))) := by
  rw [cmpD, eqD_r]; exact guardR_t (eqOk_r a b)
theorem rne (a b : List Nat) : cmpD .ne (rD a) (rD b) = .ok (.bl (!decide (a = b))) := by
  rw [cmpD, eqD_r]; exact guardR_t (eqOk_r a b)
theorem rlt (a b : List Nat) : cmpD .lt (rD a) (rD b) = .ok (.bl (ltR a b)) := by
  rw [cmpD, ltD_r]; exact guardR_t (ordOk_r a b)
theorem any_r (a : List Nat) (l : List (List Nat)) : ((l.map rD).any fun y => eqD y (rD a)) = decide (a ∈ l) := by
  induction l with
  | nil => simp
  | cons x l ih =>
    rw [List.map_cons, List.any_cons, ih, eqD_r, ← Bool.decide_or]
    refine decide_eq_decide.mpr ?_
    rw [List.mem_cons]
    exact ⟨fun h => h.imp Eq.symm id, fun h => h.imp Eq.symm id⟩
theorem any_n (a : Nat) (l : List Nat) : ((l.map nD).any fun y => eqD y (nD a)) = decide (a ∈ l) := by
  induction l with
  | nil => simp
  | cons x l ih =>
    rw [List.map_cons, List.any_cons, ih, eqD_n, ← Bool.decide_or]
    refine decide_eq_decide.mpr ?_
    rw [List.mem_cons]
    exact ⟨fun h => h.imp Eq.symm id, fun h => h.imp Eq.symm id⟩
theorem rin_t (a : List Nat) (l : List (List Nat)) : cmpD .isin (rD a) (.tup (l.map rD)) = .ok (.bl (decide (a ∈ l))) := by
  have := deep_r a
  rw [cmpD, any_r]; exact guardR_t (by rw [plain_r, plains_r, decide_eq_true (by omega)]; rfl)
theorem rin_l (a : List Nat) (l : List (List Nat)) : cmpD .isin (rD a) (.lst (l.map rD)) = .ok (.bl (decide (a ∈ l))) := by
  have := deep_r a
  rw [cmpD, any_r]; exact guardR_t (by rw [plain_r, plains_r, decide_eq_true (by omega)]; rfl)
theorem rni_t (a : List Nat) (l : List (List Nat)) : cmpD .notin (rD a) (.tup (l.map rD)) = .ok (.bl (!decide (a ∈ l))) := by
  have := deep_r a
  rw [cmpD, any_r]; exact guardR_t (by rw [plain_r, plains_r, decide_eq_true (by omega)]; rfl)
theorem rni_l (a : List Nat) (l : List (List Nat)) : cmpD .notin (rD a) (.lst (l.map rD)) = .ok (.bl (!decide (a ∈ l))) := by
  have := deep_r a
  rw [cmpD, any_r]; exact guardR_t (by rw [plain_r, plains_r, decide_eq_true (by omega)]; rfl)
theorem deep_n (a : Nat) : deep (nD a) ≤ 1 := by
  show PyData.depth (.int (a : Int)) ≤ 1
  simp [PyData.depth]
theorem nin_t (a : Nat) (l : List Nat) : cmpD .isin (nD a) (rD l) = .ok (.bl (decide (a ∈ l))) := by
  have := deep_n a
  rw [cmpD, any_n]; exact guardR_t (by rw [plains_n, decide_eq_true (by omega)]; rfl)
theorem nin_l (a : Nat) (l : List Nat) : cmpD .isin (nD a) (lD l) = .ok (.bl (decide (a ∈ l))) := by
  have := deep_n a
  rw [cmpD, any_n]; exact guardR_t (by rw [plains_n, decide_eq_true (by omega)]; rfl)
theorem neq (a b : Nat) : cmpD .eq (nD a) (nD b) = .ok (.bl (decide (a = b))) := by
  rw [eq_i]
  rw [show decide ((a : Int) = (b : Int)) = decide (a = b) from decide_eq_decide.mpr Int.ofNat_inj]
/-- lists of numbers, alike -/
theorem toP_l (a : List Nat) : toP (lD a) = .list ((a.map fun (x : Nat) => (x : Int)).map PyData.int) := by
  show PyData.list (toPs (a.map nD)) = _
  rw [toPs_n]
theorem lne (a b : List Nat) : cmpD .ne (lD a) (lD b) = .ok (.bl (!decide (a = b))) := by
  have h1 : eqD (lD a) (lD b) = decide (a = b) := by
    show PyData.eqv (toP (lD a)) (toP (lD b)) = _
    rw [toP_l, toP_l, PyData.eqv, eqv_ints]
  have h2 : deep (lD a) ≤ 2 := by
    show PyData.depth (toP (lD a)) ≤ 2
    rw [toP_l, PyData.depth]
    have := depth_n a
    omega
  rw [cmpD, h1]
  refine guardR_t ?_
  unfold eqOk
  rw [show plain (lD a) = true from plains_n a, show plain (lD b) = true from plains_n b, decide_eq_true (by omega)]; rfl
/-- the least of rows -/
def minR (x : List Nat) (xs : List (List Nat)) : List Nat := xs.foldl (fun a y => if ltR y a then y else a) x
theorem minDD_r : ∀ (xs : List (List Nat)) (x : List Nat), minDD (rD x) (xs.map rD) = rD (minR x xs)
  | [], x => rfl
  | y :: xs, x => by
    show (xs.map rD).foldl _ (if ltD (rD y) (rD x) then rD y else rD x) = _
    rw [ltD_r, ← apply_ite rD]
    exact minDD_r xs _
theorem sortOk_r (xs : List (List Nat)) : sortOk (xs.map rD) = true := by
  unfold sortOk
  rw [Bool.and_eq_true, Bool.and_eq_true]
  refine ⟨⟨plains_r xs, List.all_eq_true.mpr fun x hx => List.all_eq_true.mpr fun y hy => ?_⟩, List.all_eq_true.mpr fun x hx => ?_⟩
  · obtain ⟨a, _, rfl⟩ := List.mem_map.mp hx
    obtain ⟨b, _, rfl⟩ := List.mem_map.mp hy
    exact alike_r a b
  · obtain ⟨a, _, rfl⟩ := List.mem_map.mp hx
    have := deep_r a
    rw [decide_eq_true (by omega)]; rfl
theorem min1_r (x : List Nat) (xs : List (List Nat)) : biD .min1 [.lst ((x :: xs).map rD)] = .ok (rD (minR x xs)) := by
  show guardR (sortOk (rD x :: xs.map rD)) (.ok (minDD (rD x) (xs.map rD))) = _
  rw [guardR_t (show sortOk (rD x :: xs.map rD) = true from sortOk_r (x :: xs)), minDD_r]
theorem idx_t {xs : List D} {i : Nat} {x : D} (h : xs[i]? = some x) : idxD (.tup xs) (.int (i : Int)) = .ok x := by
  show R.ofO (L2.atI xs (i : Int)) = _
  rw [at_ok h]; rfl
theorem idx_r {a : List Nat} {i v : Nat} (h : a[i]? = some v) : idxD (rD a) (nD i) = .ok (nD v) := idx_t (by rw [List.getElem?_map, h]; rfl)
theorem idx_ln {a : List Nat} {i v : Nat} (h : a[i]? = some v) : idxD (lD a) (nD i) = .ok (nD v) := idx_l (by rw [List.getElem?_map, h]; rfl)
theorem intsD_range (n : Nat) : ∀ lo, intsD (lo : Nat) n = (List.range' lo n).map nD := by
  induction n with
  | zero => intro lo; rfl
  | succ n ih =>
    intro lo
    rw [intsD, List.range'_succ, List.map_cons]
    have := ih (lo + 1)
    rw [show ((lo + 1 : Nat) : Int) = (lo : Int) + 1 from rfl] at this
    rw [this]
theorem ints_r (n : Nat) : intsD 0 n = (List.range n).map nD := by
  have := intsD_range n 0
  rw [List.range_eq_range']
  exact this
end PD.Core
end

section
set_option Elab.async false
set_option linter.all false
set_option maxRecDepth 100000
/-! PD, part 24: any book of the seventeen backs. -/
namespace PD.Core
open PySem PD
variable {B : Nat → Option FnI} {fi : Nat → Str → Option Nat} {sub : Nat → Nat → Bool} {fu : Nat}
def backs : List (List Nat) := [[0], [0, 1], [1, 0], [0, 1, 2], [1, 0, 2], [2, 1, 0], [0, 2, 1], [0, 1, 2, 3], [1, 0, 2, 3], [2, 1, 0, 3], [3, 1, 2, 0], [0, 2, 1, 3], [0, 3, 2, 1], [0, 1, 3, 2], [1, 0, 3, 2], [2, 3, 0, 1], [3, 2, 1, 0]]
/-- a kind from the other side -/
def bk (b : List Nat) (p : Nat) : Nat := b.getD p 0
def tells (b : List Nat) (p q r : Nat) : List (List Nat) := [[p, q, r], [bk b p, r, q], [r, bk b q, p], [bk b q, bk b p, bk b r], [q, bk b r, bk b p], [bk b r, p, bk b q]]
def form3 (b : List Nat) (p q r : Nat) : List Nat := minR [p, q, r] [[bk b p, r, q], [r, bk b q, p], [bk b q, bk b p, bk b r], [q, bk b r, bk b p], [bk b r, p, bk b q]]
def formR (b : List Nat) (t : List Nat) : List Nat := form3 b (t.getD 0 0) (t.getD 1 0) (t.getD 2 0)
theorem bk_get {b : List Nat} {p : Nat} (h : p < b.length) : b[p]? = some (bk b p) := by
  unfold bk
  rw [List.getD_eq_getElem?_getD, List.getElem?_eq_getElem h]; rfl
theorem bk_idx {b : List Nat} {p : Nat} (h : p < b.length) : idxD (rD b) (nD p) = .ok (nD (bk b p)) := idx_r (bk_get h)
/-- a tuple of three -/
theorem ev_t3 {T : Tab} {ρ : PD.Env} {a b c : Ex} {x y z : Nat} (ha : ev T a ρ = .ok (nD x)) (hb : ev T b ρ = .ok (nD y)) (hc : ev T c ρ = .ok (nD z)) : ev T (.tup (.cons a (.cons b (.cons c .nil)))) ρ = .ok (rD [x, y, z]) :=
  bindO (evsC ha (evsC hb (evsC hc rfl))) rfl
theorem ev_l1 {T : Tab} {ρ : PD.Env} {a : Ex} {x : D} (ha : ev T a ρ = .ok x) : ev T (.lst (.cons a .nil)) ρ = .ok (.lst [x]) := bindO (evs1 ha) rfl
theorem c7 (h7 : B 7 = some f7) {k : Nat} {b : List Nat} {p q r : Nat} (hp : p < b.length) (hq : q < b.length) (hr : r < b.length) :
    callF B fi sub fu (k+1) 7 [rD b, rD [p, q, r]] = .ok (.lst ((tells b p q r).map rD)) := by
  refine callF_run (f := f7) (ρ := [sh (rD b), sh (rD [p, q, r]), none, none, none]) h7 rfl rfl ?_
  refine stepB (ρ' := [sh (rD b), sh (rD [p, q, r]), sh (nD p), sh (nD q), sh (nD r)]) (rn_asgt (x := rD [p, q, r]) rfl rfl rfl) ?_
  have ip := (ev_idx (T := tb B fi sub fu k) (ρ := [sh (rD b), sh (rD [p, q, r]), sh (nD p), sh (nD q), sh (nD r)]) (a := .var 0) (b := .var 2) rfl rfl).trans (bk_idx hp)
  have iq := (ev_idx (T := tb B fi sub fu k) (ρ := [sh (rD b), sh (rD [p, q, r]), sh (nD p), sh (nD q), sh (nD r)]) (a := .var 0) (b := .var 3) rfl rfl).trans (bk_idx hq)
  have ir := (ev_idx (T := tb B fi sub fu k) (ρ := [sh (rD b), sh (rD [p, q, r]), sh (nD p), sh (nD q), sh (nD r)]) (a := .var 0) (b := .var 4) rfl rfl).trans (bk_idx hr)
  refine ret_b (d := .lst ((tells b p q r).map rD)) ?_ fun _ => rfl
  exact bindO (evsC (ev_t3 (x := p) (y := q) (z := r) rfl rfl rfl) (evsC (ev_t3 ip rfl rfl) (evsC (ev_t3 rfl iq rfl) (evsC (ev_t3 iq ip ir) (evsC (ev_t3 rfl ir ip) (evsC (ev_t3 ir rfl iq) rfl)))))) rfl
theorem c11 (h11 : B 11 = some f11) {k : Nat} {b : List Nat} {p q r : Nat} (hp : p < b.length) (hq : q < b.length) (hr : r < b.length) :
    callF B fi sub fu (k+1) 11 [rD b, nD p, nD q, nD r] = .ok (.lst ((tells b p q r).map rD)) := by
  refine callF_run (f := f11) (ρ := [sh (rD b), sh (nD p), sh (nD q), sh (nD r), none]) h11 rfl rfl ?_
  have ip := (ev_idx (T := tb B fi sub fu k) (ρ := [sh (rD b), sh (nD p), sh (nD q), sh (nD r), none]) (a := .var 0) (b := .var 1) rfl rfl).trans (bk_idx hp)
  have iq := (ev_idx (T := tb B fi sub fu k) (ρ := [sh (rD b), sh (nD p), sh (nD q), sh (nD r), none]) (a := .var 0) (b := .var 2) rfl rfl).trans (bk_idx hq)
  have ir := (ev_idx (T := tb B fi sub fu k) (ρ := [sh (rD b), sh (nD p), sh (nD q), sh (nD r), none]) (a := .var 0) (b := .var 3) rfl rfl).trans (bk_idx hr)
  refine stepB (ρ' := [sh (rD b), sh (nD p), sh (nD q), sh (nD r), some (.f (.ol (([[p, q, r], [bk b p, r, q], [r, bk b q, p], [bk b q, bk b p, bk b r], [q, bk b r, bk b p]]).map rD)))]) ?_ ?_
  · refine bindO (x := .lst (([[p, q, r], [bk b p, r, q], [r, bk b q, p], [bk b q, bk b p, bk b r], [q, bk b r, bk b p]]).map rD)) ?_ ?_
    · exact bindO (evsC (ev_t3 (x := p) (y := q) (z := r) rfl rfl rfl) (evsC (ev_t3 ip rfl rfl) (evsC (ev_t3 rfl iq rfl) (evsC (ev_t3 iq ip ir) (evsC (ev_t3 rfl ir ip) rfl))))) rfl
    · rw [keepN_id rfl]; rfl
  · refine ret_b (d := .lst ((tells b p q r).map rD)) ?_ fun _ => rfl
    have jr := (ev_idx (T := tb B fi sub fu k) (ρ := [sh (rD b), sh (nD p), sh (nD q), sh (nD r), some (.f (.ol (([[p, q, r], [bk b p, r, q], [r, bk b q, p], [bk b q, bk b p, bk b r], [q, bk b r, bk b p]]).map rD)))]) (a := .var 0) (b := .var 3) rfl rfl).trans (bk_idx hr)
    have jq := (ev_idx (T := tb B fi sub fu k) (ρ := [sh (rD b), sh (nD p), sh (nD q), sh (nD r), some (.f (.ol (([[p, q, r], [bk b p, r, q], [r, bk b q, p], [bk b q, bk b p, bk b r], [q, bk b r, bk b p]]).map rD)))]) (a := .var 0) (b := .var 2) rfl rfl).trans (bk_idx hq)
    exact (ev_bin rfl (ev_l1 (ev_t3 jr (y := p) rfl jq))).trans rfl
theorem c12 (h11 : B 11 = some f11) (h12 : B 12 = some f12) {k : Nat} {b : List Nat} {p q r : Nat} (hp : p < b.length) (hq : q < b.length) (hr : r < b.length) :
    callF B fi sub fu (k+2) 12 [rD b, nD p, nD q, nD r] = .ok (rD (form3 b p q r)) := by
  refine callF_run (f := f12) (ρ := [sh (rD b), sh (nD p), sh (nD q), sh (nD r)]) h12 rfl rfl ?_
  exact ret_b (ev_bi (evs1 (cl (xs := [rD b, nD p, nD q, nD r]) rfl (c11 h11 hp hq hr))) (min1_r _ _)) fun _ => rfl
theorem c16 (h11 : B 11 = some f11) (h12 : B 12 = some f12) (h16 : B 16 = some f16) {k : Nat} {b : List Nat} {bs : List (List Nat)} {p q r : Nat} (hp : p < b.length) (hq : q < b.length) (hr : r < b.length) :
    callF B fi sub fu (k+3) 16 [rD b, .tup (bs.map rD), nD p, nD q, nD r] = .ok (.bl (!decide (form3 b p q r ∈ bs))) := by
  refine callF_run (f := f16) (ρ := [sh (rD b), sh (.tup (bs.map rD)), sh (nD p), sh (nD q), sh (nD r)]) h16 rfl rfl ?_
  exact ret_b ((ev_cmp (cl (xs := [rD b, nD p, nD q, nD r]) rfl (c12 h11 h12 hp hq hr)) rfl).trans (rni_t _ _)) fun _ => rfl
/-! all rows of three -/
def tris (n : Nat) : List (List Nat) := (List.range n).flatMap fun p => (List.range n).flatMap fun q => (List.range n).map fun r => [p, q, r]
def rowsOf (n : Nat) : Nat → List (List Nat)
  | 0 => [[]]
  | m + 1 => (rowsOf n m).flatMap fun a => (List.range n).map fun x => a ++ [x]
theorem c2 (h2 : B 2 = some f2) {k m n : Nat} (hn : n = 1 ∨ n = 2 ∨ n = 3 ∨ n = 4) : callF B fi sub (m + 4) (k+1) 2 [.int 3, nD n] = .ok (.lst ((tris n).map rD)) := by
  rcases hn with rfl | rfl | rfl | rfl
  all_goals
    refine callF_run (f := f2) (ρ := [sh (.int 3), sh (nD _), none, none, none]) h2 rfl rfl ?_
    kernel_rfl
theorem c4 (h3 : B 3 = some f3) (h4 : B 4 = some f4) {k p n : Nat} : callF B fi sub fu (k+2) 4 [nD p, nD n] = .ok (.bl (decide (p < n))) := by
  have e3 : callF B fi sub fu (k+1) 3 [nD p] = .ok (.bl true) := by
    refine callF_run (f := f3) (ρ := [sh (nD p)]) h3 rfl rfl ?_
    exact ret_b (d := .bl true) rfl fun _ => rfl
  refine callF_run (f := f4) (ρ := [sh (nD p), sh (nD n)]) h4 rfl rfl ?_
  refine ret_b (d := .bl (decide (p < n))) ?_ fun _ => rfl
  refine ev_and_t (cl (xs := [nD p]) rfl e3) ?_
  have := ev_cmp2 (T := tb B fi sub fu (k+1)) (ρ := [sh (nD p), sh (nD n)]) (o := .le) (o' := .lt) (a := .cI 0) (b := .var 0) (c := .var 1) (k := true) (l := decide ((p : Int) < n)) rfl rfl ((le_i 0 p).trans (by rw [decide_eq_false (by omega)]; rfl)) rfl (lt_i p n)
  rw [this, Bool.true_and, show decide ((p : Int) < (n : Int)) = decide (p < n) from decide_eq_decide.mpr Int.ofNat_lt]
theorem c6 (h3 : B 3 = some f3) (h4 : B 4 = some f4) (h6 : B 6 = some f6) {k n : Nat} {a : List Nat} (ha : a.length ≤ 1000) (hb : ∀ x ∈ a, x < n) : callF B fi sub fu (k+3) 6 [rD a, nD a.length, nD n] = .ok (.bl true) := by
  refine callF_run (f := f6) (ρ := [sh (rD a), sh (nD a.length), sh (nD n), none]) h6 rfl rfl ?_
  refine stepB (rn_if_n (ev_or_f (evNot (k := true) rfl) ((ev_cmp (x := nD a.length) (y := nD a.length) (ev_bi (evs1 (x := rD a) rfl) (by show R.ok (D.int ((a.map nD).length : Int)) = _; rw [List.length_map])) rfl).trans ((ne_i _ _).trans (by rw [decide_eq_true rfl]; rfl))))) ?_
  refine ret_b (d := .bl true) ?_ fun _ => rfl
  refine ev_bi (evs1 (ev_lc (xs := a.map nD) (F := fun _ => .bl true) rfl ?_ fun x hx => ?_)) (all_true _)
  · rw [List.length_map]; exact Nat.le_trans ha (by decide)
  · obtain ⟨y, hy, rfl⟩ := List.mem_map.mp hx
    refine ⟨[sh (rD a), sh (nD a.length), sh (nD n), sh (nD y)], rfl, ?_⟩
    exact cl (xs := [nD y, nD n]) rfl ((c4 h3 h4).trans (by rw [decide_eq_true (hb y hy)]))
theorem c5 (h3 : B 3 = some f3) (h4 : B 4 = some f4) (h5 : B 5 = some f5) {k : Nat} {b : List Nat} (h0 : 0 < b.length) (h1 : b.length ≤ 4) (hb : ∀ x ∈ b, x < b.length) (hi : ∀ p, p < b.length → bk b (bk b p) = p) : callF B fi sub fu (k+3) 5 [rD b] = .ok (.bl true) := by
  have hlen : biD .len [rD b] = .ok (nD b.length) := by show R.ok (D.int ((b.map nD).length : Int)) = _; rw [List.length_map]
  refine callF_run (f := f5) (ρ := [sh (rD b), none]) h5 rfl rfl ?_
  have g1 : ev (tb B fi sub fu (k+2)) (.not (.cmp2 .le .le (.cI 1) (.bi .len (.cons (.var 0) .nil)) (.gI "MOST_KINDS" 4))) [sh (rD b), none] = .ok (.bl false) := by
    refine evNot (k := true) ?_
    refine ev_cmp2 (k := true) (l := true) (y := nD b.length) rfl (ev_bi (evs1 (x := rD b) rfl) hlen) ((le_i 1 b.length).trans (by rw [decide_eq_false (by omega)]; rfl)) rfl ((le_i b.length 4).trans (by rw [decide_eq_false (by omega)]; rfl))
  refine stepB (rn_if_n (ev_or_f (evNot (k := true) rfl) g1)) ?_
  have g2 : ev (tb B fi sub fu (k+2)) (.not (.bi .all (.cons (.lc [1] (.n 1) (.e (.var 0)) .nil (.call 4 (.cons (.var 1) (.cons (.bi .len (.cons (.var 0) .nil)) .nil)))) .nil))) [sh (rD b), none] = .ok (.bl false) := by
    refine evNot (k := true) (ev_bi (evs1 (ev_lc (xs := b.map nD) (F := fun _ => .bl true) rfl ?_ fun x hx => ?_)) (all_true _))
    · rw [List.length_map]; exact Nat.le_trans h1 (by decide)
    · obtain ⟨y, hy, rfl⟩ := List.mem_map.mp hx
      refine ⟨[sh (rD b), sh (nD y)], rfl, ?_⟩
      exact cl (xs := [nD y, nD b.length]) (evsC rfl (evs1 (ev_bi (evs1 (x := rD b) rfl) hlen))) ((c4 h3 h4).trans (by rw [decide_eq_true (hb y hy)]))
  refine stepB (rn_if_n g2) ?_
  refine ret_b (d := .bl true) ?_ fun _ => rfl
  refine ev_bi (evs1 (ev_lc (xs := (List.range b.length).map nD) (F := fun _ => .bl true) ?_ ?_ fun x hx => ?_)) (all_true _)
  · have := evIt_r1 (T := tb B fi sub fu (k+2)) (ρ := [sh (rD b), none]) (a := .bi .len (.cons (.var 0) .nil)) (j := (b.length : Int)) (ev_bi (evs1 (x := rD b) rfl) hlen) (smallI_nat (by omega))
    rw [this, show ((b.length : Int)).toNat = b.length from rfl, ints_r]
  · rw [List.length_map, List.length_range]; exact Nat.le_trans h1 (by decide)
  · obtain ⟨y, hy, rfl⟩ := List.mem_map.mp hx
    have hy := List.mem_range.mp hy
    refine ⟨[sh (rD b), sh (nD y)], rfl, ?_⟩
    have hb2 : bk b y < b.length := hb _ (List.mem_of_getElem? (bk_get hy))
    exact (ev_cmp ((ev_idx rfl ((ev_idx rfl rfl).trans (bk_idx hy))).trans (bk_idx hb2)) rfl).trans ((neq _ _).trans (by rw [hi y hy, decide_eq_true rfl]))
/-! the forms -/
def addF (l : List (List Nat)) (f : List Nat) : List (List Nat) := if f ∈ l then l else l ++ [f]
def formsU (b : List Nat) (i : Nat) : List (List Nat) := (List.range i).foldl (fun l x => addF l (form3 b (x / (b.length * b.length)) (x / b.length % b.length) (x % b.length))) []
theorem formsU_succ (b : List Nat) (i : Nat) : formsU b (i + 1) = addF (formsU b i) (form3 b (i / (b.length * b.length)) (i / b.length % b.length) (i % b.length)) := by
  unfold formsU
  rw [List.range_succ, List.foldl_append]; rfl
theorem formsU_len (b : List Nat) : ∀ i, (formsU b i).length ≤ i
  | 0 => Nat.le_refl 0
  | i + 1 => by
    have := formsU_len b i
    rw [formsU_succ]
    unfold addF
    split
    · omega
    · rw [List.length_append]; show _ + 1 ≤ _; omega
/-- .. as sorted tells them -/
def forms (b : List Nat) : List (List Nat) := (formsU b (b.length * b.length * b.length)).mergeSort fun x y => !ltR y x
def okB (r : R D) (d : D) : Bool := match r with
  | .ok x => beqD x d
  | _ => false
theorem okB_ok {r : R D} {d : D} (h : okB r d = true) : r = .ok d := by
  unfold okB at h
  split at h
  · rw [beqD_ok h]
  · cases h
end PD.Core
end

section
set_option Elab.async false
set_option linter.all false
set_option maxRecDepth 100000
/-! PD, part 25: any book of the seventeen backs, as the laws draw it. -/
namespace PD.Core
open PySem PD PySem.W
variable {B : Nat → Option FnI} {fi : Nat → Str → Option Nat} {sub : Nat → Nat → Bool} {fu : Nat}
abbrev formsOf (b : List Nat) : List (List Nat) := formsU b (b.length * b.length * b.length)
/-- closed facts of the backs -/
def backG (b : List Nat) : Bool := decide (0 < b.length) && decide (b.length ≤ 4) && (b.all fun x => decide (x < b.length)) && ((List.range b.length).all fun p => bk b (bk b p) == p) &&
  ((formsOf b).all fun t => t.length == 3 && (t.all fun x => decide (x < b.length)) && formR b t == t) && decide ((formsOf b).Pairwise fun x y => ltR x y = true ∧ ltR y x = false) && decide ((formsOf b).length ≤ 64) && decide ((tris b.length).Nodup) &&
  ((tris b.length).all fun t => (match t with
    | [p, q, r] => decide (p < b.length) && decide (q < b.length) && decide (r < b.length) && decide (form3 b p q r ∈ formsOf b) && decide (form3 b (bk b p) r q = form3 b p q r)
    | _ => false))
theorem backs_G : backs.all backG = true := by decide +kernel
structure BackOk (b : List Nat) : Prop where
  pos : 0 < b.length
  le : b.length ≤ 4
  bel : ∀ x ∈ b, x < b.length
  inv : ∀ p, p < b.length → bk b (bk b p) = p
  f3 : ∀ t ∈ formsOf b, t.length = 3 ∧ (∀ x ∈ t, x < b.length) ∧ formR b t = t
  fs : (formsOf b).Pairwise fun x y => ltR x y = true ∧ ltR y x = false
  fl : (formsOf b).length ≤ 64
  nd : (tris b.length).Nodup
  tri : ∀ t ∈ tris b.length, ∃ p q r, t = [p, q, r] ∧ p < b.length ∧ q < b.length ∧ r < b.length ∧ form3 b p q r ∈ formsOf b ∧ form3 b (bk b p) r q = form3 b p q r
theorem back_ok {b : List Nat} (hb : b ∈ backs) : BackOk b := by
  have h := List.all_eq_true.mp backs_G b hb
  unfold backG at h
  simp only [Bool.and_eq_true, decide_eq_true_eq, List.all_eq_true, List.mem_range, beq_iff_eq] at h
  obtain ⟨⟨⟨⟨⟨⟨⟨⟨h1, h2⟩, h3⟩, h4⟩, h5⟩, h6⟩, h7⟩, h8⟩, h9⟩ := h
  refine ⟨h1, h2, h3, h4, fun t ht => ⟨(h5 t ht).1.1, (h5 t ht).1.2, (h5 t ht).2⟩, h6, h7, h8, fun t ht => ?_⟩
  have h := h9 t ht
  match t, h with
  | [p, q, r], h =>
    simp only [Bool.and_eq_true, decide_eq_true_eq] at h
    exact ⟨p, q, r, rfl, h.1.1.1.1, h.1.1.1.2, h.1.1.2, h.1.2, h.2⟩
theorem mem_tris {n p q r : Nat} (hp : p < n) (hq : q < n) (hr : r < n) : [p, q, r] ∈ tris n := by
  unfold tris
  exact List.mem_flatMap.mpr ⟨p, List.mem_range.mpr hp, List.mem_flatMap.mpr ⟨q, List.mem_range.mpr hq, List.mem_map.mpr ⟨r, List.mem_range.mpr hr, rfl⟩⟩⟩
/-- the loop's own name -/
def lvN (o : Option OD) : Nat → Option OD
  | 0 => o
  | i + 1 => sh (nD i)
theorem loopN {f : D → PD.Env → R Fl} (n : Nat) (I : Nat → PD.Env → Prop) (ρ : PD.Env) (h : ∀ i ρ, i < n → I i ρ → ∃ ρ', f (nD i) ρ = .ok (.nx ρ') ∧ I (i + 1) ρ') (h0 : I 0 ρ) : ∃ ρ', loopF f (intsD 0 n) ρ = .ok (.nx ρ') ∧ I n ρ' :=
  loopF_inv n 0 I ρ (fun i ρ hi hI => by rw [show (0 : Int) + (i : Int) = (i : Int) by omega]; exact h i ρ hi hI) h0
theorem len_r (a : List Nat) : biD .len [rD a] = .ok (nD a.length) := by show R.ok (D.int ((a.map nD).length : Int)) = _; rw [List.length_map]
theorem len_lr (a : List (List Nat)) : biD .len [.lst (a.map rD)] = .ok (nD a.length) := by show R.ok (D.int ((a.map rD).length : Int)) = _; rw [List.length_map]
theorem len_ln (a : List Nat) : biD .len [lD a] = .ok (nD a.length) := by show R.ok (D.int ((a.map nD).length : Int)) = _; rw [List.length_map]
theorem nmul (a b : Nat) : ((a : Int) * (b : Int)) = ((a * b : Nat) : Int) := rfl
section
variable {T : Tab} {ρ : PD.Env} {e e' : Ex} {x y : Nat}
theorem evn_mul (ha : ev T e ρ = .ok (nD x)) (hb : ev T e' ρ = .ok (nD y)) (h : x < 2 ^ 60) : ev T (.bin .mul e e') ρ = .ok (nD (x * y)) := ev_mul ha hb (mulOk_l (small_of (by omega) (by omega)))
theorem evn_add (ha : ev T e ρ = .ok (nD x)) (hb : ev T e' ρ = .ok (nD y)) : ev T (.bin .add e e') ρ = .ok (nD (x + y)) := ev_add ha hb
theorem evn_sub (ha : ev T e ρ = .ok (nD x)) (hb : ev T e' ρ = .ok (nD y)) (h : y ≤ x) : ev T (.bin .sub e e') ρ = .ok (nD (x - y)) := by
  rw [ev_sub ha hb, show (x : Int) - (y : Int) = ((x - y : Nat) : Int) by omega]
theorem evn_mod (ha : ev T e ρ = .ok (nD x)) (hb : ev T e' ρ = .ok (nD y)) (h : 0 < y) : ev T (.bin .mod e e') ρ = .ok (nD (x % y)) := ev_mod ha hb (by omega)
theorem evn_fdiv (ha : ev T e ρ = .ok (nD x)) (hb : ev T e' ρ = .ok (nD y)) (h : 0 < y) (h2 : y < 2 ^ 60) : ev T (.bin .fdiv e e') ρ = .ok (nD (x / y)) := ev_fdiv ha hb (by omega) (log_small (by omega) (by omega))
theorem evn_eq (ha : ev T e ρ = .ok (nD x)) (hb : ev T e' ρ = .ok (nD y)) : ev T (.cmp .eq e e') ρ = .ok (.bl (decide (x = y))) := (ev_cmp ha hb).trans (neq x y)
end
/-! the law's forms -/
abbrev FV (b : List Nat) (l : List (List Nat)) (o3 o4 : Option OD) : PD.Env := [sh (rD b), some (.f (.ol (l.map rD))), sh (nD b.length), o3, o4]
theorem c13 (h11 : B 11 = some f11) (h12 : B 12 = some f12) (h13 : B 13 = some f13) {k : Nat} {b : List Nat} (hb : BackOk b) :
    callF B fi sub fu (k+3) 13 [rD b] = .ok (.lst ((formsOf b).map rD)) := by
  have hn := hb.pos
  have hn4 := hb.le
  have hnn : 0 < b.length * b.length := Nat.mul_pos hn hn
  have hnl : b.length * b.length ≤ 4 * 4 := Nat.mul_le_mul hn4 hn4
  have hnl3 : b.length * b.length * b.length ≤ 4 * 4 * 4 := Nat.mul_le_mul hnl hn4
  refine callF_run (f := f13) (ρ := [sh (rD b), none, none, none, none]) h13 rfl rfl ?_
  refine stepB (ρ' := [sh (rD b), some (.f (.ol [])), none, none, none]) rfl ?_
  refine stepB (ρ' := FV b [] none none) (rn_asg (ev_bi (evs1 (x := rD b) rfl) (len_r b)) rfl rfl rfl) ?_
  obtain ⟨ρ', h1, o4, he⟩ := loopN (f := fun x ρ => (bindT (.n 3) x ρ).bind fun ρ => rns (tb B fi sub fu (k+2)) (.cons (.asg (.n 4) (.call 12 (.cons (.var 0) (.cons (.bin .fdiv (.var 3) (.bin .mul (.var 2) (.var 2))) (.cons (.bin .mod (.bin .fdiv (.var 3) (.var 2)) (.var 2)) (.cons (.bin .mod (.var 3) (.var 2)) .nil)))))) (.cons (.ife (.cmp .notin (.var 4) (.var 1)) (.cons (.app 1 (.var 4)) .nil) .nil) .nil)) ρ)
    (b.length * b.length * b.length) (fun i ρ => ∃ o4, ρ = FV b (formsU b i) (lvN none i) o4) (FV b [] none none) (fun i ρ hi ⟨o4, e⟩ => by
      subst e
      have hp : i / (b.length * b.length) < b.length := (Nat.div_lt_iff_lt_mul hnn).mpr (by rw [Nat.mul_comm b.length (b.length * b.length)]; exact hi)
      have hq : i / b.length % b.length < b.length := Nat.mod_lt _ hn
      have hr : i % b.length < b.length := Nat.mod_lt _ hn
      refine ⟨FV b (formsU b (i + 1)) (sh (nD i)) (sh (rD (form3 b (i / (b.length * b.length)) (i / b.length % b.length) (i % b.length)))), bindO (x := FV b (formsU b i) (sh (nD i)) o4) rfl ?_, _, rfl⟩
      refine stp (ρ' := FV b (formsU b i) (sh (nD i)) (sh (rD (form3 b (i / (b.length * b.length)) (i / b.length % b.length) (i % b.length))))) ?_ ?_
      · refine rn_asg (cl (xs := [rD b, nD (i / (b.length * b.length)), nD (i / b.length % b.length), nD (i % b.length)]) ?_ (c12 h11 h12 hp hq hr)) rfl rfl rfl
        refine evsC rfl (evsC (evn_fdiv rfl (evn_mul (x := b.length) (y := b.length) rfl rfl (by omega)) hnn (by omega)) (evsC (evn_mod (evn_fdiv (x := i) (y := b.length) rfl rfl hn (by omega)) rfl hn) (evsC (evn_mod (x := i) (y := b.length) rfl rfl hn) rfl)))
      · have hg : ev (tb B fi sub fu (k+2)) (.cmp .notin (.var 4) (.var 1)) (FV b (formsU b i) (sh (nD i)) (sh (rD (form3 b (i / (b.length * b.length)) (i / b.length % b.length) (i % b.length))))) = .ok (.bl (!decide (form3 b (i / (b.length * b.length)) (i / b.length % b.length) (i % b.length) ∈ formsU b i))) := (ev_cmp rfl rfl).trans (rni_l _ _)
        rw [formsU_succ]
        unfold addF
        by_cases hm : form3 b (i / (b.length * b.length)) (i / b.length % b.length) (i % b.length) ∈ formsU b i
        · rw [decide_eq_true hm] at hg
          rw [if_pos hm]
          exact stp (rn_if_n hg) rfl
        · rw [decide_eq_false hm] at hg
          rw [if_neg hm]
          refine stp (rn_if_t hg (stp ?_ rfl)) rfl
          unfold FV
          rw [List.map_append]
          refine rn_app rfl rfl rfl ?_
          rw [List.length_map]
          have := formsU_len b i
          exact Nat.le_trans (show (formsU b i).length + 1 ≤ 64 by omega) (by decide)) ⟨none, rfl⟩
  subst he
  refine stepB (rn_for (i := ((b.length * b.length * b.length : Nat) : Int)) (evn_mul (evn_mul (x := b.length) (y := b.length) rfl rfl (by omega)) rfl (by omega)) (smallI_nat (by omega)) h1) ?_
  refine ret_b (d := .lst ((formsOf b).map rD)) ?_ fun _ => rfl
  refine ev_bi (evs1 (x := D.lst ((formsOf b).map rD)) rfl) ?_
  show guardR (sortOk ((formsOf b).map rD) && tups1 ((formsOf b).map rD)) (R.ok (D.lst (((formsOf b).map rD).mergeSort (dataLe false toP)))) = _
  have ht : tups1 ((formsOf b).map rD) = true := by
    unfold tups1
    rw [Bool.or_eq_true]
    refine .inl (List.all_eq_true.mpr fun x hx => ?_)
    obtain ⟨a, ha, rfl⟩ := List.mem_map.mp hx
    have := (hb.f3 a ha).1
    match a, this with
    | p :: a, _ => rfl
  rw [guardR_t (by rw [sortOk_r, ht]; rfl)]
  rw [List.mergeSort_of_pairwise]
  rw [List.pairwise_map]
  refine hb.fs.imp fun {x y} h => ?_
  rw [dataLe_eq]
  show (!dataLt (toP (rD y)) (toP (rD x))) = true
  rw [show dataLt (toP (rD y)) (toP (rD x)) = ltR y x from ltD_r y x, h.2]; rfl
theorem c10 (h10 : B 10 = some f10) {k : Nat} : callF B fi sub fu (k+1) 10 [] = .ok (.lst (backs.map rD)) := by
  refine callF_run (f := f10) (ρ := [none]) h10 rfl rfl ?_
  kernel_rfl
/-! the law's book -/
abbrev AV (nm b : List Nat) (bs : List (List Nat)) (o : Option OD) : PD.Env := [sh (lD nm), sh (rD b), sh (.lst ((formsOf b).map rD)), some (.f (.ol (bs.map rD))), o]
theorem c14 (h10 : B 10 = some f10) (h11 : B 11 = some f11) (h12 : B 12 = some f12) (h13 : B 13 = some f13) (h14 : B 14 = some f14) {k : Nat} {nm : List Nat} (hl : nm.length = 30) :
    ∃ b bs, b ∈ backs ∧ List.Sublist bs (formsOf b) ∧ callF B fi sub fu (k+4) 14 [lD nm] = .ok (.tup [rD b, .tup (bs.map rD)]) := by
  have hnm : ∀ i, i < 30 → ∃ v, nm[i]? = some v := fun i hi => ⟨nm[i]'(by omega), List.getElem?_eq_getElem _⟩
  obtain ⟨v0, hv0⟩ := hnm 0 (by omega)
  have h17 : v0 % 17 < backs.length := Nat.mod_lt _ (by decide)
  obtain ⟨b, hbi⟩ : ∃ b, backs[v0 % 17]? = some b := ⟨_, List.getElem?_eq_getElem h17⟩
  have hbm : b ∈ backs := List.mem_of_getElem? hbi
  have hb := back_ok hbm
  obtain ⟨ρ', h1, bs, hs, he⟩ := loopN (f := fun x ρ => (bindT (.n 4) x ρ).bind fun ρ => rns (tb B fi sub fu (k+3)) (.cons (.ife (.cmp .eq (.bin .mod (.bin .fdiv (.idx (.var 0) (.bin .add (.cI 1) (.bin .mod (.var 4) (.bin .sub (.bi .len (.cons (.var 0) .nil)) (.cI 1))))) (.bin .add (.cI 1) (.bin .fdiv (.var 4) (.cI 7)))) (.cI 3)) (.cI 1)) (.cons (.app 3 (.idx (.var 2) (.var 4))) .nil) .nil) .nil) ρ)
    (formsOf b).length (fun i ρ => ∃ bs, List.Sublist bs ((formsOf b).take i) ∧ ρ = AV nm b bs (lvN none i)) (AV nm b [] none) (fun i ρ hi ⟨bs, hs, e⟩ => by
      subst e
      obtain ⟨v, hv⟩ := hnm (1 + i % 29) (by have := Nat.mod_lt i (show 0 < 29 by decide); omega)
      have hg : ev (tb B fi sub fu (k+3)) (.cmp .eq (.bin .mod (.bin .fdiv (.idx (.var 0) (.bin .add (.cI 1) (.bin .mod (.var 4) (.bin .sub (.bi .len (.cons (.var 0) .nil)) (.cI 1))))) (.bin .add (.cI 1) (.bin .fdiv (.var 4) (.cI 7)))) (.cI 3)) (.cI 1)) (AV nm b bs (sh (nD i))) = .ok (.bl (decide (v / (1 + i / 7) % 3 = 1))) := by
        refine evn_eq (x := v / (1 + i / 7) % 3) (y := 1) (evn_mod (y := 3) (evn_fdiv ?_ (evn_add (x := 1) rfl (evn_fdiv (x := i) (y := 7) rfl rfl (by omega) (by omega))) (by omega) ?_) rfl (by omega)) rfl
        · refine (ev_idx (y := nD (1 + i % 29)) rfl (evn_add (x := 1) rfl (evn_mod (x := i) (y := 29) rfl ?_ (by omega)))).trans (idx_ln hv)
          have := evn_sub (T := tb B fi sub fu (k+3)) (ρ := AV nm b bs (sh (nD i))) (e := .bi .len (.cons (.var 0) .nil)) (e' := .cI 1) (x := nm.length) (y := 1) (ev_bi (evs1 (x := lD nm) rfl) (len_ln nm)) rfl (by omega)
          rw [this, hl]
        · have := hb.fl
          omega
      have htk : (formsOf b).take (i + 1) = (formsOf b).take i ++ [(formsOf b)[i]] := (List.take_append_getElem hi).symm
      by_cases hc : v / (1 + i / 7) % 3 = 1
      · rw [decide_eq_true hc] at hg
        refine ⟨AV nm b (bs ++ [(formsOf b)[i]]) (sh (nD i)), bindO (x := AV nm b bs (sh (nD i))) rfl (stp (rn_if_t hg (stp ?_ rfl)) rfl), bs ++ [(formsOf b)[i]], ?_, rfl⟩
        · unfold AV
          rw [List.map_append]
          refine rn_app rfl ((ev_idx (x := .lst ((formsOf b).map rD)) (y := nD i) rfl rfl).trans (idx_l (by rw [List.getElem?_map, List.getElem?_eq_getElem hi]; rfl))) rfl ?_
          rw [List.length_map]
          have h1 := hs.length_le
          rw [List.length_take] at h1
          have := hb.fl
          exact Nat.le_trans (show bs.length + 1 ≤ 65 by omega) (by decide)
        · rw [htk]
          exact hs.append (List.Sublist.refl _)
      · rw [decide_eq_false hc] at hg
        refine ⟨AV nm b bs (sh (nD i)), bindO (x := AV nm b bs (sh (nD i))) rfl (stp (rn_if_n hg) rfl), bs, ?_, rfl⟩
        rw [htk]
        exact hs.trans (List.sublist_append_left _ _)) ⟨[], List.nil_sublist _, rfl⟩
  subst he
  rw [List.take_length] at hs
  refine ⟨b, bs, hbm, hs, ?_⟩
  refine callF_run (f := f14) (ρ := [sh (lD nm), none, none, none, none]) h14 rfl rfl ?_
  refine stepB (ρ' := [sh (lD nm), sh (rD b), none, none, none]) (rn_asg ((ev_idx (x := .lst (backs.map rD)) (y := nD (v0 % 17)) (cl (xs := []) rfl (c10 h10)) (evn_mod (y := 17) ((ev_idx (x := lD nm) (y := nD 0) rfl rfl).trans (idx_ln hv0)) rfl (by omega))).trans (idx_l (by rw [List.getElem?_map, hbi]; rfl))) rfl rfl rfl) ?_
  refine stepB (ρ' := [sh (lD nm), sh (rD b), sh (.lst ((formsOf b).map rD)), none, none]) (rn_asg (cl (xs := [rD b]) rfl (c13 h11 h12 h13 hb)) rfl rfl rfl) ?_
  refine stepB (ρ' := AV nm b [] none) rfl ?_
  refine stepB (rn_for (i := ((formsOf b).length : Nat)) (ev_bi (evs1 (x := .lst ((formsOf b).map rD)) rfl) (len_lr _)) (smallI_nat (by have := hb.fl; omega)) h1) ?_
  exact ret_b rfl fun _ => rfl
/-! the program's book -/
def letB (b : List Nat) (bs : List (List Nat)) (t : List Nat) : Bool := !decide (formR b t ∈ bs)
def letsL (b : List Nat) (bs : List (List Nat)) : List (D × D) := ((tris b.length).filter (letB b bs)).map fun t => (rD t, D.bl true)
def bookD (b : List Nat) (bs : List (List Nat)) : D := .obj 0 [rD b, .tup (bs.map rD), nD b.length, .dct true (letsL b bs), .non]
def formD (b : List Nat) : D → D
  | .tup [.int p, .int q, .int r] => rD (form3 b p.toNat q.toNat r.toNat)
  | _ => .non
theorem c9b (h2 : B 2 = some f2) (h3 : B 3 = some f3) (h4 : B 4 = some f4) (h5 : B 5 = some f5) (h6 : B 6 = some f6) (h7 : B 7 = some f7) (h8 : B 8 = some f8) (h9 : B 9 = some f9) (hfi : ∀ x, fi 0 x = idxS ["back", "barred", "kinds", "lets", "known_knit"] x) {k m : Nat} {b : List Nat} {bs : List (List Nat)} (hb : BackOk b) (hs : List.Sublist bs (formsOf b)) :
    callF B fi sub (m + 4) (k+5) 9 [rD b, .tup (bs.map rD)] = .ok (bookD b bs) := by
  have hfl := hb.fl
  have hsl := hs.length_le
  have hmem : ∀ t ∈ bs, t ∈ formsOf b := fun t ht => hs.subset ht
  have hn := hb.pos
  have hn4 := hb.le
  have hl : (b.map nD).length = b.length := List.length_map ..
  have h8' : callF B fi sub (m + 4) (k+4) 8 [.tup (b.map nD), .tup (bs.map rD)] = .ok (.bl true) := by
    refine c8 (k := k+3) h8 (by rw [List.length_map]; omega) (fun t ht => ?_) (fun t ht => ?_) (fun t ht => ?_) fun i hi => ?_
    · obtain ⟨a, ha, rfl⟩ := List.mem_map.mp ht
      obtain ⟨g1, g2, g3⟩ := hb.f3 a (hmem a ha)
      have := c6 (B := B) (fi := fi) (sub := sub) (fu := m + 4) (k := k) (n := b.length) (a := a) h3 h4 h6 (by omega) g2
      rw [g1] at this
      rw [hl]
      exact this
    · obtain ⟨a, ha, rfl⟩ := List.mem_map.mp ht
      obtain ⟨g1, g2, g3⟩ := hb.f3 a (hmem a ha)
      match a, g1, g2, g3 with
      | [p, q, r], g1, g2, g3 =>
        refine ⟨_, c7 h7 (g2 p (by simp)) (g2 q (by simp)) (g2 r (by simp)), ?_⟩
        refine (min1_r _ _).trans ?_
        exact congrArg (fun x => R.ok (rD x)) g3
    · obtain ⟨a, ha, rfl⟩ := List.mem_map.mp ht
      rw [req, decide_eq_true rfl]
    · rw [List.length_map] at hi
      refine ⟨rD (bs[i]'(by omega)), rD (bs[i + 1]'hi), by rw [List.getElem?_map, List.getElem?_eq_getElem (show i < bs.length by omega)]; rfl, by rw [List.getElem?_map, List.getElem?_eq_getElem hi]; rfl, ?_⟩
      rw [rlt, ((List.pairwise_iff_getElem.mp (hb.fs.sublist hs)) i (i + 1) (by omega) hi (by omega)).1]
  have h5' := c5 (B := B) (fi := fi) (sub := sub) (fu := m + 4) (k := k+1) h3 h4 h5 hn hn4 hb.bel hb.inv
  have h2' := c2 (B := B) (fi := fi) (sub := sub) (k := k+3) (m := m) (n := b.length) h2 (by omega)
  have key : ∀ t ∈ tris b.length, letK (formD b) (bs.map rD) (rD t) = letB b bs t := fun t ht => by
    obtain ⟨p, q, r, rfl, _⟩ := hb.tri t ht
    show (!((bs.map rD).any fun y => eqD y (rD (form3 b p q r)))) = _
    rw [any_r]; rfl
  have := c9 (B := B) (fi := fi) (sub := sub) (fu := m + 4) (k := k+4) (bb := b.map nD) (bs := bs.map rD) (rows := (tris b.length).map rD) (form := formD b) h9 hfi ?_ h5' h8' (by rw [hl]; exact h2') ?_ ?_ ?_ ?_
  · rw [this]
    unfold bookD
    rw [hl]
    have e : lets (formD b) (bs.map rD) ((tris b.length).map rD) = letsL b bs := by
      unfold lets letsL
      rw [List.filter_map, List.map_map]
      exact congrArg (List.map fun t => (rD t, D.bl true)) (List.filter_congr fun t ht => key t ht)
    rw [e]
  · rw [List.length_map]
    unfold tris
    rcases (show b.length = 1 ∨ b.length = 2 ∨ b.length = 3 ∨ b.length = 4 by omega) with h | h | h | h <;> rw [h] <;> decide
  · intro t ht
    obtain ⟨a, ha, rfl⟩ := List.mem_map.mp ht
    obtain ⟨p, q, r, rfl, hp, hq, hr, _⟩ := hb.tri a ha
    exact ⟨_, c7 h7 hp hq hr, min1_r _ _⟩
  · intro t ht
    obtain ⟨a, ha, rfl⟩ := List.mem_map.mp ht
    obtain ⟨p, q, r, rfl, hp, hq, hr, _⟩ := hb.tri a ha
    rw [key _ ha]
    exact rni_t _ _
  · intro t ht
    obtain ⟨a, ha, rfl⟩ := List.mem_map.mp ht
    refine ⟨?_, froz_r a⟩
    show (true && (a.map nD).all isAtom) = true
    rw [Bool.true_and, List.all_eq_true]
    intro x hx
    obtain ⟨y, _, rfl⟩ := List.mem_map.mp hx
    rfl
  · intro l x r e t ht
    have hnd : ((tris b.length).map rD).Nodup := hb.nd.map (f := rD) fun a c hac h => hac (by
      have := eqD_r a c
      rw [show rD a = rD c from h] at this
      rw [eqD_r, decide_eq_true rfl] at this
      exact (of_decide_eq_true this.symm))
    have hx : x ∈ (tris b.length).map rD := by rw [e]; exact List.mem_append_right _ List.mem_cons_self
    have ht' : t ∈ (tris b.length).map rD := by rw [e]; exact List.mem_append_left _ ht
    obtain ⟨a, ha, rfl⟩ := List.mem_map.mp hx
    obtain ⟨c, hc, rfl⟩ := List.mem_map.mp ht'
    rw [eqD_r]
    refine decide_eq_false fun h => ?_
    subst h
    rw [e] at hnd
    exact (List.nodup_append.mp hnd).2.2 _ ht _ List.mem_cons_self rfl
/-- what the book lets -/
theorem findK_r (l : List (List Nat)) (t : List Nat) : (findK (l.map fun t => (rD t, D.bl true)) (rD t)).isSome = decide (t ∈ l) := by
  unfold findK
  rw [Option.isSome_map]
  induction l with
  | nil => simp
  | cons x l ih =>
    rw [List.map_cons, List.find?_cons, show eqD (rD x, D.bl true).1 (rD t) = decide (x = t) from eqD_r x t]
    by_cases h : x = t
    · subst h
      rw [decide_eq_true rfl, decide_eq_true List.mem_cons_self]; rfl
    · rw [decide_eq_false h]
      show (List.find? _ _).isSome = _
      rw [ih]
      refine decide_eq_decide.mpr ?_
      rw [List.mem_cons]
      exact ⟨.inr, fun z => z.resolve_left fun e => h e.symm⟩
theorem in_lets {b : List Nat} {bs : List (List Nat)} {t : List Nat} (ht : t ∈ tris b.length) : cmpD .isin (rD t) (.dct true (letsL b bs)) = .ok (.bl (letB b bs t)) := by
  have hk : keyOk true (rD t) = true := by
    show (true && (t.map nD).all isAtom) = true
    rw [Bool.true_and, List.all_eq_true]
    intro x hx
    obtain ⟨y, _, rfl⟩ := List.mem_map.mp hx
    rfl
  rw [cmpD, guardR_t hk]
  unfold letsL
  rw [findK_r]
  congr 2
  rw [← Bool.decide_coe (letB b bs t)]
  exact decide_eq_decide.mpr ⟨fun h => (List.mem_filter.mp h).2, fun h => List.mem_filter.mpr ⟨ht, h⟩⟩
end PD.Core
end

section
set_option Elab.async false
set_option linter.all false
set_option maxRecDepth 100000
/-! PD, part 26: what comes of bonds one behind the other. -/
namespace PD.Core
open PySem PD PySem.W
-- all_kinds ['book']
def b17 : Sts := (.cons (.ret (.tR (.r1 (.fld (.var 0) "kinds")))) .nil)
def f17 : FnI := ⟨1, 1, none, b17⟩
-- bonds_after ['book', 'p', 'q']
def b18 : Sts := (.cons (.asg (.n 3) (.fld (.var 0) "kinds")) (.cons (.ife (.cmp .eq (.var 1) (.var 3)) (.cons (.ret (.lst (.cons (.var 2) .nil))) .nil) .nil) (.cons (.ife (.cmp .eq (.var 2) (.var 3)) (.cons (.ret (.lst (.cons (.var 1) .nil))) .nil) .nil) (.cons (.asg (.n 4) (.lc [5] (.n 5) (.e (.call 17 (.cons (.var 0) .nil))) (.cons (.cmp .isin (.tup (.cons (.var 1) (.cons (.var 2) (.cons (.var 5) .nil)))) (.fld (.var 0) "lets")) .nil) (.var 5))) (.cons (.ret (.ite (.cmp .eq (.var 2) (.idx (.fld (.var 0) "back") (.var 1))) (.bin .add (.var 4) (.lst (.cons (.var 3) .nil))) (.var 4))) .nil)))))
def f18 : FnI := ⟨3, 6, none, b18⟩
-- bonds_table ['book']
def b19 : Sts := (.cons (.asg (.n 1) (.lR (.r1 (.bin .add (.fld (.var 0) "kinds") (.cI 1))))) (.cons (.ret (.bi .tupleOf (.cons (.lc [2] (.n 2) (.e (.var 1)) .nil (.bi .tupleOf (.cons (.lc [3] (.n 3) (.e (.var 1)) .nil (.bi .tupleOf (.cons (.call 18 (.cons (.var 0) (.cons (.var 2) (.cons (.var 3) .nil)))) .nil))) .nil))) .nil))) .nil))
def f19 : FnI := ⟨1, 4, none, b19⟩
-- after ['book', 'p', 'q']
def b20 (e : Nat) : Sts := (.cons (.fr (.n 3) (.e (.tup (.cons (.var 1) (.cons (.var 2) .nil)))) (.cons (.ife (.not (.call 4 (.cons (.var 3) (.cons (.bin .add (.fld (.var 0) "kinds") (.cI 1)) .nil)))) (.cons (.rse e .nil) .nil) .nil) .nil)) (.cons (.ret (.bi .tupleOf (.cons (.call 18 (.cons (.var 0) (.cons (.var 1) (.cons (.var 2) .nil)))) .nil))) .nil))
def f20 (e : Nat) : FnI := ⟨3, 4, none, b20 e⟩
-- _law_after ['back', 'barred', 'p', 'q']
def b21 : Sts := (.cons (.asg (.n 4) (.bi .len (.cons (.var 0) .nil))) (.cons (.ife (.cmp .eq (.var 2) (.var 4)) (.cons (.ret (.lst (.cons (.var 3) .nil))) .nil) .nil) (.cons (.ife (.cmp .eq (.var 3) (.var 4)) (.cons (.ret (.lst (.cons (.var 2) .nil))) .nil) .nil) (.cons (.asg (.n 5) (.lc [6] (.n 6) (.r1 (.var 4)) (.cons (.call 16 (.cons (.var 0) (.cons (.var 1) (.cons (.var 2) (.cons (.var 3) (.cons (.var 6) .nil)))))) .nil) (.var 6))) (.cons (.ife (.cmp .eq (.idx (.var 0) (.var 2)) (.var 3)) (.cons (.app 5 (.var 4)) .nil) .nil) (.cons (.ret (.var 5)) .nil))))))
def f21 : FnI := ⟨4, 7, none, b21⟩
-- _law_is_row ['thing', 'many', 'bound']
def b22 : Sts := (.cons (.ife (.or (.not (.isi (.var 0) .tuple)) (.cmp .ne (.bi .len (.cons (.var 0) .nil)) (.var 1))) (.cons (.ret (.cB false)) .nil) .nil) (.cons (.fr (.n 3) (.e (.var 0)) (.cons (.ife (.or (.not (.call 15 (.cons (.var 3) .nil))) (.or (.cmp .lt (.var 3) (.cI 0)) (.cmp .ge (.var 3) (.var 2)))) (.cons (.ret (.cB false)) .nil) .nil) .nil)) (.cons (.ret (.cB true)) .nil)))
def f22 : FnI := ⟨3, 4, none, b22⟩
variable {B : Nat → Option FnI} {fi : Nat → Str → Option Nat} {sub : Nat → Nat → Bool} {fu : Nat}
abbrev BkFi (fi : Nat → Str → Option Nat) : Prop := ∀ x, fi 0 x = idxS ["back", "barred", "kinds", "lets", "known_knit"] x
section
variable {k : Nat} {ρ : PD.Env} {e : Ex} {b : List Nat} {bs : List (List Nat)}
theorem fld_kinds (hf : BkFi fi) (he : ev (tb B fi sub fu k) e ρ = .ok (bookD b bs)) : ev (tb B fi sub fu k) (.fld e "kinds") ρ = .ok (nD b.length) :=
  bindO he (by show (R.ofO (fi 0 "kinds")).bind _ = _; rw [hf]; rfl)
theorem fld_back (hf : BkFi fi) (he : ev (tb B fi sub fu k) e ρ = .ok (bookD b bs)) : ev (tb B fi sub fu k) (.fld e "back") ρ = .ok (rD b) :=
  bindO he (by show (R.ofO (fi 0 "back")).bind _ = _; rw [hf]; rfl)
theorem fld_barred (hf : BkFi fi) (he : ev (tb B fi sub fu k) e ρ = .ok (bookD b bs)) : ev (tb B fi sub fu k) (.fld e "barred") ρ = .ok (.tup (bs.map rD)) :=
  bindO he (by show (R.ofO (fi 0 "barred")).bind _ = _; rw [hf]; rfl)
theorem fld_lets (hf : BkFi fi) (he : ev (tb B fi sub fu k) e ρ = .ok (bookD b bs)) : ev (tb B fi sub fu k) (.fld e "lets") ρ = .ok (.dct true (letsL b bs)) :=
  bindO he (by show (R.ofO (fi 0 "lets")).bind _ = _; rw [hf]; rfl)
end
theorem loopF_c {f : D → PD.Env → R Fl} {x : D} {xs : List D} {ρ ρ1 : PD.Env} {w : R Fl} (h : f x ρ = .ok (.nx ρ1)) (h2 : loopF f xs ρ1 = w) : loopF f (x :: xs) ρ = w := bindO h h2
theorem loopF_rt {f : D → PD.Env → R Fl} {x d : D} {xs : List D} {ρ ρ1 : PD.Env} (h : f x ρ = .ok (.rt d ρ1)) : loopF f (x :: xs) ρ = .ok (.rt d ρ1) := bindO h rfl
theorem loopF_x {f : D → PD.Env → R Fl} {x : D} {xs : List D} {ρ : PD.Env} {w : Xc} (h : f x ρ = .exc w) : loopF f (x :: xs) ρ = .exc w := bindX h
theorem rn_fr {T : Tab} {g : Tg} {it : It} {bd : Sts} {ρ : PD.Env} {xs : List D} {w : R Fl} (hi : evIt T it ρ = .ok xs) (hu : unown ρ (rootsI it) = ρ) (h : loopF (fun x ρ => (bindT g x ρ).bind fun ρ => rns T bd ρ) xs ρ = w) : rn T (.fr g it bd) ρ = w := by
  refine bindO hi ?_
  rw [hu]; exact h
theorem rn_asl {T : Tab} {e : Ex} {ρ : PD.Env} {i : Nat} {ds : List D} (he : ev T e ρ = .ok (.lst ds)) (hu : unown ρ (roots e) = ρ) (hf : frs e = true) (hi : decide (i < ρ.length) = true) : rn T (.asg (.n i) e) ρ = .ok (.nx (ρ.set i (some (.f (.ol ds))))) := by
  refine bindO he ?_
  rw [keepN_id hu, hf]
  exact guardR_t hi
theorem ev_ite_t {T : Tab} {c a b : Ex} {ρ : PD.Env} {r : R D} (h : ev T c ρ = .ok (.bl true)) (h2 : ev T a ρ = r) : ev T (.ite c a b) ρ = r := bindO h h2
theorem ev_ite_f {T : Tab} {c a b : Ex} {ρ : PD.Env} {r : R D} (h : ev T c ρ = .ok (.bl false)) (h2 : ev T b ρ = r) : ev T (.ite c a b) ρ = r := bindO h h2
theorem len_map_n (a : List Nat) : (a.map nD).length = a.length := List.length_map ..
/-- range(n) -/
theorem evIt_n {T : Tab} {ρ : PD.Env} {a : Ex} {n : Nat} (h : ev T a ρ = .ok (nD n)) (hn : n ≤ 100000) : evIt T (.r1 a) ρ = .ok ((List.range n).map nD) := by
  rw [evIt_r1 (j := (n : Int)) h (smallI_nat hn), show ((n : Int)).toNat = n from rfl, ints_r]
theorem line_of {n : Nat} (h : n ≤ 100000) : n ≤ line := Nat.le_trans h (by decide)
theorem c17 (hf : BkFi fi) (h17 : B 17 = some f17) {k : Nat} {b : List Nat} {bs : List (List Nat)} (hb : BackOk b) : callF B fi sub fu (k+1) 17 [bookD b bs] = .ok (rD (List.range b.length)) := by
  refine callF_run (f := f17) (ρ := [sh (bookD b bs)]) h17 rfl rfl ?_
  refine ret_b (d := rD (List.range b.length)) ?_ fun _ => rfl
  have := hb.le
  refine bindO (evIt_n (fld_kinds hf rfl) (by omega)) (guardR_t (decide_eq_true ?_))
  rw [List.length_map, List.length_range]
  exact line_of (by omega)
/-- what comes of two bonds -/
def aft (b : List Nat) (bs : List (List Nat)) (p q : Nat) : List Nat := if p = b.length then [q] else if q = b.length then [p] else (List.range b.length).filter (fun r => letB b bs [p, q, r]) ++ (if q = bk b p then [b.length] else [])
theorem aft_le {b : List Nat} {bs : List (List Nat)} {p q : Nat} (hp : p ≤ b.length) (hq : q ≤ b.length) : ∀ r ∈ aft b bs p q, r < b.length + 1 := by
  intro r hr
  unfold aft at hr
  split at hr
  · rw [List.mem_singleton] at hr; omega
  · split at hr
    · rw [List.mem_singleton] at hr; omega
    · rcases List.mem_append.mp hr with hr | hr
      · have := List.mem_range.mp (List.mem_filter.mp hr).1; omega
      · split at hr
        · rw [List.mem_singleton] at hr; omega
        · cases hr
theorem aft_len (b : List Nat) (bs : List (List Nat)) (p q : Nat) : (aft b bs p q).length ≤ b.length + 1 := by
  unfold aft
  split
  · exact Nat.succ_le_succ (Nat.zero_le _)
  · split
    · exact Nat.succ_le_succ (Nat.zero_le _)
    · rw [List.length_append]
      have h1 := List.length_filter_le (fun r => letB b bs [p, q, r]) (List.range b.length)
      rw [List.length_range] at h1
      split
      · show _ + 1 ≤ _; omega
      · show _ + 0 ≤ _; omega
abbrev BV (b : List Nat) (bs : List (List Nat)) (p q : Nat) (o4 o5 : Option OD) : PD.Env := [sh (bookD b bs), sh (nD p), sh (nD q), sh (nD b.length), o4, o5]
theorem binD_addl (a b : List Nat) (h : a.length + b.length ≤ 100000) : binD .add (lD a) (lD b) = .ok (lD (a ++ b)) := by
  show guardR (decide ((a.map nD).length + (b.map nD).length ≤ line)) (.ok (D.lst (a.map nD ++ b.map nD))) = _
  rw [guardR_t (decide_eq_true (by rw [List.length_map, List.length_map]; exact line_of h)), ← List.map_append]
theorem filter_nD (p : Nat → Bool) (P : D → Bool) (h : ∀ x, P (nD x) = p x) : ∀ l : List Nat, (l.map nD).filter P = (l.filter p).map nD
  | [] => rfl
  | x :: l => by
    rw [List.map_cons, List.filter_cons, List.filter_cons, h x, filter_nD p P h l]
    cases p x <;> rfl
def nat0 : D → Nat
  | .int i => i.toNat
  | _ => 0
theorem nat0_n (x : Nat) : nat0 (nD x) = x := rfl
theorem c18 (hf : BkFi fi) (h17 : B 17 = some f17) (h18 : B 18 = some f18) {k : Nat} {b : List Nat} {bs : List (List Nat)} {p q : Nat} (hb : BackOk b) (hp : p ≤ b.length) (hq : q ≤ b.length) :
    callF B fi sub fu (k+2) 18 [bookD b bs, nD p, nD q] = .ok (lD (aft b bs p q)) := by
  have hle := hb.le
  refine callF_run (f := f18) (ρ := [sh (bookD b bs), sh (nD p), sh (nD q), none, none, none]) h18 rfl rfl ?_
  refine stepB (ρ' := BV b bs p q none none) (rn_asg (fld_kinds hf rfl) rfl rfl rfl) ?_
  by_cases h1 : p = b.length
  · refine (bindO (x := .rt (lD [q]) (BV b bs p q none none)) (bindO (x := .rt (lD [q]) (BV b bs p q none none)) (rn_if_t ((evn_eq rfl rfl).trans (by rw [decide_eq_true h1])) ?_) rfl) ?_)
    · rfl
    · unfold aft; rw [if_pos h1]; rfl
  · refine stepB (rn_if_n ((evn_eq (x := p) (y := b.length) rfl rfl).trans (by rw [decide_eq_false h1]))) ?_
    by_cases h2 : q = b.length
    · refine (bindO (x := .rt (lD [p]) (BV b bs p q none none)) (bindO (x := .rt (lD [p]) (BV b bs p q none none)) (rn_if_t ((evn_eq rfl rfl).trans (by rw [decide_eq_true h2])) ?_) rfl) ?_)
      · rfl
      · unfold aft; rw [if_neg h1, if_pos h2]; rfl
    · refine stepB (rn_if_n ((evn_eq (x := q) (y := b.length) rfl rfl).trans (by rw [decide_eq_false h2]))) ?_
      have hl := ev_lcf (T := tb B fi sub fu (k+1)) (ρ := BV b bs p q none none) (own := [5]) (g := .n 5) (it := .e (.call 17 (.cons (.var 0) .nil))) (c := .cmp .isin (.tup (.cons (.var 1) (.cons (.var 2) (.cons (.var 5) .nil)))) (.fld (.var 0) "lets")) (e := .var 5)
        (xs := (List.range b.length).map nD) (F := fun x => x) (p := fun x => letB b bs [p, q, nat0 x]) (evIt_e (cl (xs := [bookD b bs]) rfl (c17 hf h17 hb)) rfl) (by rw [List.length_map, List.length_range]; exact line_of (by omega)) fun x hx => by
          obtain ⟨r, hr, rfl⟩ := List.mem_map.mp hx
          have hr := List.mem_range.mp hr
          refine ⟨BV b bs p q none (sh (nD r)), rfl, ?_, fun _ => rfl⟩
          exact (ev_cmp (ev_t3 (x := p) (y := q) (z := r) rfl rfl rfl) (fld_lets hf rfl)).trans (in_lets (mem_tris (by omega) (by omega) hr))
      rw [List.map_id', filter_nD (fun r => letB b bs [p, q, r]) _ fun x => rfl] at hl
      refine stepB (ρ' := BV b bs p q (some (.f (.ol (((List.range b.length).filter fun r => letB b bs [p, q, r]).map nD)))) none) (rn_asl hl rfl rfl rfl) ?_
      · refine ret_b (d := lD (aft b bs p q)) ?_ fun _ => rfl
        unfold aft
        rw [if_neg h1, if_neg h2]
        have hc := (evn_eq (T := tb B fi sub fu (k+1)) (ρ := BV b bs p q (some (.f (.ol (((List.range b.length).filter fun r => letB b bs [p, q, r]).map nD)))) none) (e := .var 2) (e' := .idx (.fld (.var 0) "back") (.var 1)) (x := q) (y := bk b p) rfl ((ev_idx (fld_back hf rfl) rfl).trans (bk_idx (by omega))))
        by_cases h3 : q = bk b p
        · rw [decide_eq_true h3] at hc
          rw [if_pos h3]
          refine ev_ite_t hc ?_
          refine Eq.trans (b := binD .add (lD ((List.range b.length).filter fun r => letB b bs [p, q, r])) (lD [b.length])) (ev_bin rfl (ev_l1 rfl)) (binD_addl _ _ ?_)
          have := List.length_filter_le (fun r => letB b bs [p, q, r]) (List.range b.length)
          rw [List.length_range] at this
          show _ + 1 ≤ _
          omega
        · rw [decide_eq_false h3] at hc
          rw [if_neg h3, List.append_nil]
          exact ev_ite_f hc rfl
/-- the law's own -/
abbrev LV (b : List Nat) (bs : List (List Nat)) (p q : Nat) (o5 o6 : Option OD) : PD.Env := [sh (rD b), sh (.tup (bs.map rD)), sh (nD p), sh (nD q), sh (nD b.length), o5, o6]
theorem c21 (h11 : B 11 = some f11) (h12 : B 12 = some f12) (h16 : B 16 = some f16) (h21 : B 21 = some f21) {k : Nat} {b : List Nat} {bs : List (List Nat)} {p q : Nat} (hb : BackOk b) (hp : p ≤ b.length) (hq : q ≤ b.length) :
    callF B fi sub fu (k+4) 21 [rD b, .tup (bs.map rD), nD p, nD q] = .ok (lD (aft b bs p q)) := by
  have hle := hb.le
  refine callF_run (f := f21) (ρ := [sh (rD b), sh (.tup (bs.map rD)), sh (nD p), sh (nD q), none, none, none]) h21 rfl rfl ?_
  refine stepB (ρ' := LV b bs p q none none) (rn_asg (ev_bi (evs1 (x := rD b) rfl) (len_r b)) rfl rfl rfl) ?_
  by_cases h1 : p = b.length
  · refine (bindO (x := .rt (lD [q]) (LV b bs p q none none)) (bindO (x := .rt (lD [q]) (LV b bs p q none none)) (rn_if_t ((evn_eq rfl rfl).trans (by rw [decide_eq_true h1])) ?_) rfl) ?_)
    · rfl
    · unfold aft; rw [if_pos h1]; rfl
  · refine stepB (rn_if_n ((evn_eq (x := p) (y := b.length) rfl rfl).trans (by rw [decide_eq_false h1]))) ?_
    by_cases h2 : q = b.length
    · refine (bindO (x := .rt (lD [p]) (LV b bs p q none none)) (bindO (x := .rt (lD [p]) (LV b bs p q none none)) (rn_if_t ((evn_eq rfl rfl).trans (by rw [decide_eq_true h2])) ?_) rfl) ?_)
      · rfl
      · unfold aft; rw [if_neg h1, if_pos h2]; rfl
    · refine stepB (rn_if_n ((evn_eq (x := q) (y := b.length) rfl rfl).trans (by rw [decide_eq_false h2]))) ?_
      have hl := ev_lcf (T := tb B fi sub fu (k+3)) (ρ := LV b bs p q none none) (own := [6]) (g := .n 6) (it := .r1 (.var 4)) (c := .call 16 (.cons (.var 0) (.cons (.var 1) (.cons (.var 2) (.cons (.var 3) (.cons (.var 6) .nil)))))) (e := .var 6)
        (xs := (List.range b.length).map nD) (F := fun x => x) (p := fun x => letB b bs [p, q, nat0 x]) (evIt_n (n := b.length) rfl (by omega)) (by rw [List.length_map, List.length_range]; exact line_of (by omega)) fun x hx => by
          obtain ⟨r, hr, rfl⟩ := List.mem_map.mp hx
          have hr := List.mem_range.mp hr
          refine ⟨LV b bs p q none (sh (nD r)), rfl, ?_, fun _ => rfl⟩
          exact cl (xs := [rD b, .tup (bs.map rD), nD p, nD q, nD r]) rfl (c16 h11 h12 h16 (by omega) (by omega) hr)
      rw [List.map_id', filter_nD (fun r => letB b bs [p, q, r]) _ fun x => rfl] at hl
      refine stepB (ρ' := LV b bs p q (some (.f (.ol (((List.range b.length).filter fun r => letB b bs [p, q, r]).map nD)))) none) (rn_asl hl rfl rfl rfl) ?_
      · unfold aft
        rw [if_neg h1, if_neg h2]
        have hc := (evn_eq (T := tb B fi sub fu (k+3)) (ρ := LV b bs p q (some (.f (.ol (((List.range b.length).filter fun r => letB b bs [p, q, r]).map nD)))) none) (e := .idx (.var 0) (.var 2)) (e' := .var 3) (x := bk b p) (y := q) ((ev_idx rfl rfl).trans (bk_idx (by omega))) rfl)
        by_cases h3 : q = bk b p
        · rw [decide_eq_true h3.symm] at hc
          rw [if_pos h3]
          refine stepB (rn_if_t hc (stp (rn_app rfl (x := nD b.length) rfl rfl ?_) rfl)) ?_
          · have := List.length_filter_le (fun r => letB b bs [p, q, r]) (List.range b.length)
            rw [List.length_range] at this
            rw [List.length_map]
            exact line_of (by omega)
          · refine ret_b (d := _) rfl fun _ => ?_
            show R.ok (D.lst (_ ++ [nD b.length])) = R.ok (D.lst ((_ ++ [b.length]).map nD))
            rw [List.map_append]; rfl
        · rw [decide_eq_false fun h => h3 h.symm] at hc
          rw [if_neg h3, List.append_nil]
          refine stepB (rn_if_n hc) ?_
          exact ret_b rfl fun _ => rfl
theorem c20 {er : Nat} (hf : BkFi fi) (h3 : B 3 = some f3) (h4 : B 4 = some f4) (h17 : B 17 = some f17) (h18 : B 18 = some f18) (h20 : B 20 = some (f20 er)) {k : Nat} {b : List Nat} {bs : List (List Nat)} {p q : Nat} (hb : BackOk b) (hp : p ≤ b.length) (hq : q ≤ b.length) :
    callF B fi sub fu (k+3) 20 [bookD b bs, nD p, nD q] = .ok (rD (aft b bs p q)) := by
  refine callF_run (f := f20 er) (ρ := [sh (bookD b bs), sh (nD p), sh (nD q), none]) h20 rfl rfl ?_
  have g : ∀ x, x ≤ b.length → rns (tb B fi sub fu (k+2)) (.cons (.ife (.not (.call 4 (.cons (.var 3) (.cons (.bin .add (.fld (.var 0) "kinds") (.cI 1)) .nil)))) (.cons (.rse er .nil) .nil) .nil) .nil) [sh (bookD b bs), sh (nD p), sh (nD q), sh (nD x)] = .ok (.nx [sh (bookD b bs), sh (nD p), sh (nD q), sh (nD x)]) := fun x hx => by
    refine stp (rn_if_n (evNot (k := true) (cl (xs := [nD x, nD (b.length + 1)]) (evsC rfl (evs1 (evn_add (y := 1) (fld_kinds hf rfl) rfl))) ((c4 h3 h4).trans (by rw [decide_eq_true (by omega)]))))) rfl
  refine stepB (ρ' := [sh (bookD b bs), sh (nD p), sh (nD q), sh (nD q)]) ?_ ?_
  · refine rn_fr (xs := [nD p, nD q]) rfl rfl ?_
    refine loopF_c (ρ1 := [sh (bookD b bs), sh (nD p), sh (nD q), sh (nD p)]) (bindO (x := [sh (bookD b bs), sh (nD p), sh (nD q), sh (nD p)]) rfl (g p hp)) ?_
    exact loopF_c (ρ1 := [sh (bookD b bs), sh (nD p), sh (nD q), sh (nD q)]) (bindO (x := [sh (bookD b bs), sh (nD p), sh (nD q), sh (nD q)]) rfl (g q hq)) rfl
  · refine ret_b (d := rD (aft b bs p q)) (ev_bi (evs1 (x := lD (aft b bs p q)) (cl (xs := [bookD b bs, nD p, nD q]) rfl (c18 hf h17 h18 hb hp hq))) rfl) fun _ => rfl
def tableD (b : List Nat) (bs : List (List Nat)) : D := .tup ((List.range (b.length + 1)).map fun p => .tup ((List.range (b.length + 1)).map fun q => rD (aft b bs p q)))
theorem c19 (hf : BkFi fi) (h17 : B 17 = some f17) (h18 : B 18 = some f18) (h19 : B 19 = some f19) {k : Nat} {b : List Nat} {bs : List (List Nat)} (hb : BackOk b) : callF B fi sub fu (k+3) 19 [bookD b bs] = .ok (tableD b bs) := by
  have hle := hb.le
  refine callF_run (f := f19) (ρ := [sh (bookD b bs), none, none, none]) h19 rfl rfl ?_
  refine stepB (ρ' := [sh (bookD b bs), some (.f (.ol ((List.range (b.length + 1)).map nD))), none, none]) ?_ ?_
  · refine bindO (x := lD (List.range (b.length + 1))) (bindO (evIt_n (evn_add (y := 1) (fld_kinds hf rfl) rfl) (by omega)) (guardR_t (decide_eq_true ?_))) ?_
    · rw [List.length_map, List.length_range]
      exact line_of (by omega)
    · rw [keepN_id rfl]; rfl
  have e1 : ∀ p, p ≤ b.length → ev (tb B fi sub fu (k+2)) (.bi .tupleOf (.cons (.lc [3] (.n 3) (.e (.var 1)) .nil (.bi .tupleOf (.cons (.call 18 (.cons (.var 0) (.cons (.var 2) (.cons (.var 3) .nil)))) .nil))) .nil)) [sh (bookD b bs), sh (lD (List.range (b.length + 1))), sh (nD p), none] = .ok (.tup ((List.range (b.length + 1)).map fun q => rD (aft b bs p q))) := fun p hp => by
    refine ev_bi (evs1 (x := D.lst ((List.range (b.length + 1)).map fun q => rD (aft b bs p q))) ?_) rfl
    have := ev_lc (T := tb B fi sub fu (k+2)) (ρ := [sh (bookD b bs), sh (lD (List.range (b.length + 1))), sh (nD p), none]) (own := [3]) (g := .n 3) (it := .e (.var 1)) (e := .bi .tupleOf (.cons (.call 18 (.cons (.var 0) (.cons (.var 2) (.cons (.var 3) .nil)))) .nil))
      (xs := (List.range (b.length + 1)).map nD) (F := fun x => rD (aft b bs p (nat0 x))) rfl (by rw [List.length_map, List.length_range]; exact line_of (by omega)) fun x hx => by
        obtain ⟨q, hq, rfl⟩ := List.mem_map.mp hx
        have hq := List.mem_range.mp hq
        refine ⟨[sh (bookD b bs), sh (lD (List.range (b.length + 1))), sh (nD p), sh (nD q)], rfl, ?_⟩
        exact ev_bi (evs1 (x := lD (aft b bs p q)) (cl (xs := [bookD b bs, nD p, nD q]) rfl (c18 hf h17 h18 hb hp (by omega)))) rfl
    rw [List.map_map] at this
    exact this
  refine ret_b (d := tableD b bs) ?_ fun _ => rfl
  refine ev_bi (evs1 (x := D.lst ((List.range (b.length + 1)).map fun p => .tup ((List.range (b.length + 1)).map fun q => rD (aft b bs p q)))) ?_) rfl
  have := ev_lc (T := tb B fi sub fu (k+2)) (ρ := [sh (bookD b bs), some (.f (.ol ((List.range (b.length + 1)).map nD))), none, none]) (own := [2]) (g := .n 2) (it := .e (.var 1)) (e := .bi .tupleOf (.cons (.lc [3] (.n 3) (.e (.var 1)) .nil (.bi .tupleOf (.cons (.call 18 (.cons (.var 0) (.cons (.var 2) (.cons (.var 3) .nil)))) .nil))) .nil))
    (xs := (List.range (b.length + 1)).map nD) (F := fun x => .tup ((List.range (b.length + 1)).map fun q => rD (aft b bs (nat0 x) q))) rfl (by rw [List.length_map, List.length_range]; exact line_of (by omega)) fun x hx => by
      obtain ⟨p, hp, rfl⟩ := List.mem_map.mp hx
      have hp := List.mem_range.mp hp
      exact ⟨[sh (bookD b bs), sh (lD (List.range (b.length + 1))), sh (nD p), none], rfl, e1 p (by omega)⟩
  rw [List.map_map] at this
  exact this
theorem bl_ne (x y : Bool) : cmpD .ne (.bl x) (.bl y) = .ok (.bl (x != y)) := by cases x <;> cases y <;> rfl
theorem c15 (h15 : B 15 = some f15) {k x : Nat} : callF B fi sub fu (k+1) 15 [nD x] = .ok (.bl true) := by
  refine callF_run (f := f15) (ρ := [sh (nD x)]) h15 rfl rfl ?_
  exact ret_b (d := .bl true) rfl fun _ => rfl
/-- a row by the law -/
theorem c22 (h15 : B 15 = some f15) (h22 : B 22 = some f22) {k n : Nat} {a : List Nat} (hb : ∀ x ∈ a, x < n) : callF B fi sub fu (k+2) 22 [rD a, nD a.length, nD n] = .ok (.bl true) := by
  refine callF_run (f := f22) (ρ := [sh (rD a), sh (nD a.length), sh (nD n), none]) h22 rfl rfl ?_
  refine stepB (rn_if_n (ev_or_f (evNot (k := true) rfl) ((ev_cmp (x := nD a.length) (y := nD a.length) (ev_bi (evs1 (x := rD a) rfl) (len_r a)) rfl).trans ((ne_i _ _).trans (by rw [decide_eq_true rfl]; rfl))))) ?_
  have hl : ∀ (l : List Nat) (o : Option OD), (∀ x ∈ l, x < n) → ∃ o', loopF (fun x ρ => (bindT (.n 3) x ρ).bind fun ρ => rns (tb B fi sub fu (k+1)) (.cons (.ife (.or (.not (.call 15 (.cons (.var 3) .nil))) (.or (.cmp .lt (.var 3) (.cI 0)) (.cmp .ge (.var 3) (.var 2)))) (.cons (.ret (.cB false)) .nil) .nil) .nil) ρ) (l.map nD) [sh (rD a), sh (nD a.length), sh (nD n), o] = .ok (.nx [sh (rD a), sh (nD a.length), sh (nD n), o']) := fun l => by
    induction l with
    | nil => intro o _; exact ⟨o, rfl⟩
    | cons x l ih =>
      intro o hx
      obtain ⟨o', h⟩ := ih (sh (nD x)) fun y hy => hx y (List.mem_cons_of_mem _ hy)
      refine ⟨o', loopF_c (ρ1 := [sh (rD a), sh (nD a.length), sh (nD n), sh (nD x)]) (bindO (x := [sh (rD a), sh (nD a.length), sh (nD n), sh (nD x)]) rfl (stp (rn_if_n ?_) rfl)) h⟩
      have hx := hx x List.mem_cons_self
      refine ev_or_f (evNot (k := true) (cl (xs := [nD x]) rfl (c15 h15))) (ev_or_f ?_ ?_)
      · exact (ev_lt (i := (x : Int)) (j := 0) rfl rfl).trans (by rw [decide_eq_false (by omega)])
      · exact (ev_ge (i := (x : Int)) (j := (n : Int)) rfl rfl).trans (by rw [decide_eq_true (by omega)]; rfl)
  obtain ⟨o', h⟩ := hl a none hb
  refine stepB (ρ' := [sh (rD a), sh (nD a.length), sh (nD n), o']) (rn_fr (xs := a.map nD) rfl rfl h) ?_
  exact ret_b (d := .bl true) rfl fun _ => rfl
end PD.Core
end

section
set_option Elab.async false
set_option linter.all false
set_option maxRecDepth 100000
/-! PD, part 27: companies: the functions. -/
namespace PD.Core
open PySem PD
-- _law_known ['number']
def b23 : Sts := (.cons (.asg (.n 1) (.lst (.cons (.tup (.cons (.tup (.cons (.cI 1) (.cons (.cI 0) .nil))) (.cons (.tup (.cons (.tup (.cons (.cI 0) (.cons (.cI 0) (.cons (.cI 1) .nil)))) .nil)) .nil))) (.cons (.tup (.cons (.tup (.cons (.cI 0) (.cons (.cI 1) .nil))) (.cons (.tup (.cons (.tup (.cons (.cI 0) (.cons (.cI 0) (.cons (.cI 1) .nil)))) .nil)) .nil))) (.cons (.tup (.cons (.tup (.cons (.cI 0) (.cons (.cI 1) .nil))) (.cons (.tup (.cons (.tup (.cons (.cI 0) (.cons (.cI 0) (.cons (.cI 0) .nil)))) (.cons (.tup (.cons (.cI 0) (.cons (.cI 0) (.cons (.cI 1) .nil)))) .nil))) .nil))) (.cons (.tup (.cons (.tup (.cons (.cI 0) .nil)) (.cons (.tup (.cons (.tup (.cons (.cI 0) (.cons (.cI 0) (.cons (.cI 0) .nil)))) .nil)) .nil))) .nil)))))) (.cons (.asg (.n 1) (.bin .add (.var 1) (.lst (.cons (.tup (.cons (.tup (.cons (.cI 0) (.cons (.cI 1) .nil))) (.cons (.tup (.cons (.tup (.cons (.cI 0) (.cons (.cI 0) (.cons (.cI 1) .nil)))) (.cons (.tup (.cons (.cI 1) (.cons (.cI 1) (.cons (.cI 1) .nil)))) .nil))) .nil))) (.cons (.tup (.cons (.tup (.cons (.cI 0) (.cons (.cI 1) .nil))) (.cons (.tup (.cons (.tup (.cons (.cI 0) (.cons (.cI 0) (.cons (.cI 0) .nil)))) (.cons (.tup (.cons (.cI 0) (.cons (.cI 0) (.cons (.cI 1) .nil)))) (.cons (.tup (.cons (.cI 1) (.cons (.cI 1) (.cons (.cI 1) .nil)))) .nil)))) .nil))) .nil))))) (.cons (.asg (.n 1) (.bin .add (.var 1) (.lst (.cons (.tup (.cons (.tup (.cons (.cI 0) (.cons (.cI 1) .nil))) (.cons (.tup (.cons (.tup (.cons (.cI 0) (.cons (.cI 0) (.cons (.cI 0) .nil)))) .nil)) .nil))) .nil)))) (.cons (.ret (.idx (.var 1) (.bin .mod (.var 0) (.cI 7)))) .nil))))
def f23 : FnI := ⟨1, 2, none, b23⟩
-- _law_knit ['numbers']
def b24 : Sts := (.cons (.asg (.n 1) (.idx (.call 10 .nil) (.bin .mod (.idx (.var 0) (.cI 0)) (.cI 17)))) (.cons (.ife (.cmp .eq (.bin .mod (.idx (.var 0) (.cI 1)) (.cI 5)) (.cI 0)) (.cons (.ret (.call 23 (.cons (.idx (.var 0) (.cI 0)) .nil))) .nil) .nil) (.cons (.ife (.cmp .eq (.bin .mod (.idx (.var 0) (.cI 1)) (.cI 5)) (.cI 1)) (.cons (.ret (.tup (.cons (.var 1) (.cons (.tup .nil) .nil)))) .nil) .nil) (.cons (.asg (.n 2) (.lc [7] (.n 7) (.r1 (.bi .len (.cons (.var 1) .nil))) (.cons (.cmp .eq (.idx (.var 1) (.var 7)) (.var 7)) .nil) (.var 7))) (.cons (.ife (.cmp .eq (.var 2) (.lst .nil)) (.cons (.ret (.tup (.cons (.var 1) (.cons (.tup .nil) .nil)))) .nil) .nil) (.cons (.asg (.n 3) (.idx (.var 2) (.bin .mod (.idx (.var 0) (.cI 2)) (.bi .len (.cons (.var 2) .nil))))) (.cons (.asg (.n 4) (.lst .nil)) (.cons (.asg (.n 5) (.call 13 (.cons (.var 1) .nil))) (.cons (.fr (.n 6) (.r1 (.bi .len (.cons (.var 5) .nil))) (.cons (.ife (.and (.cmp .notin (.var 3) (.idx (.var 5) (.var 6))) (.cmp .eq (.bin .mod (.bin .fdiv (.idx (.var 0) (.bin .add (.cI 3) (.bin .mod (.var 6) (.bin .sub (.bi .len (.cons (.var 0) .nil)) (.cI 3))))) (.bin .add (.cI 1) (.bin .fdiv (.var 6) (.cI 7)))) (.cI 2)) (.cI 1))) (.cons (.app 4 (.idx (.var 5) (.var 6))) .nil) .nil) .nil)) (.cons (.ret (.tup (.cons (.var 1) (.cons (.bi .tupleOf (.cons (.var 4) .nil)) .nil)))) .nil))))))))))
def f24 : FnI := ⟨1, 8, none, b24⟩
-- _law_kind ['back', 'company', 'a', 'b']
def b25 : Sts := (.cons (.ife (.cmp .gt (.var 2) (.var 3)) (.cons (.ret (.idx (.idx (.var 1) (.var 2)) (.var 3))) .nil) .nil) (.cons (.ret (.idx (.var 0) (.idx (.idx (.var 1) (.var 3)) (.var 2)))) .nil))
def f25 : FnI := ⟨4, 4, none, b25⟩
-- _law_lets ['back', 'barred', 'company', 'told', 'person', 'kind']
def b26 : Sts := (.cons (.fr (.n 6) (.e (.var 3)) (.cons (.ife (.not (.call 16 (.cons (.var 0) (.cons (.var 1) (.cons (.idx (.var 6) (.cI 1)) (.cons (.call 25 (.cons (.var 0) (.cons (.var 2) (.cons (.idx (.var 6) (.cI 0)) (.cons (.var 4) .nil))))) (.cons (.var 5) .nil))))))) (.cons (.ret (.cB false)) .nil) .nil) .nil)) (.cons (.ret (.cB true)) .nil))
def f26 : FnI := ⟨6, 7, none, b26⟩
-- _law_row ['back', 'barred', 'company', 'numbers', 'at']
def b27 : Sts := (.cons (.asg (.n 5) (.lst .nil)) (.cons (.asg (.n 6) (.bi .len (.cons (.var 0) .nil))) (.cons (.fr (.n 7) (.r1 (.bi .len (.cons (.var 2) .nil))) (.cons (.asg (.n 8) (.cB false)) (.cons (.fr (.n 9) (.r1 (.var 6)) (.cons (.asg (.n 10) (.bin .mod (.bin .add (.idx (.var 3) (.bin .mod (.bin .add (.var 4) (.var 7)) (.bi .len (.cons (.var 3) .nil)))) (.var 9)) (.var 6))) (.cons (.ife (.and (.not (.var 8)) (.call 26 (.cons (.var 0) (.cons (.var 1) (.cons (.var 2) (.cons (.var 5) (.cons (.var 7) (.cons (.var 10) .nil)))))))) (.cons (.app 5 (.tup (.cons (.var 7) (.cons (.var 10) .nil)))) (.cons (.asg (.n 8) (.cB true)) .nil)) .nil) .nil))) (.cons (.ife (.not (.var 8)) (.cons (.ret .cN) .nil) .nil) .nil)))) (.cons (.ret (.bi .tupleOf (.cons (.lc [11] (.n 11) (.e (.var 5)) .nil (.idx (.var 11) (.cI 1))) .nil))) .nil))))
def f27 : FnI := ⟨5, 12, none, b27⟩
-- _law_company ['back', 'barred', 'numbers', 'many']
def b28 : Sts := (.cons (.asg (.n 4) (.tup .nil)) (.cons (.fr (.n 5) (.r1 (.var 3)) (.cons (.asg (.n 6) (.call 27 (.cons (.var 0) (.cons (.var 1) (.cons (.var 4) (.cons (.var 2) (.cons (.bin .mul (.cI 3) (.var 5)) .nil))))))) (.cons (.ife (.isN (.var 6)) (.cons (.ret (.var 4)) .nil) .nil) (.cons (.asg (.n 4) (.bin .add (.var 4) (.tup (.cons (.var 6) .nil)))) .nil)))) (.cons (.ret (.var 4)) .nil)))
def f28 : FnI := ⟨4, 7, none, b28⟩
-- is_company ['book', 'thing']
def b29 : Sts := (.cons (.ife (.not (.isi (.var 1) .tuple)) (.cons (.ret (.cB false)) .nil) .nil) (.cons (.ret (.bi .all (.cons (.lc [2, 3] (.t (.cons (.n 2) (.cons (.n 3) .nil))) (.en (.var 1)) .nil (.call 6 (.cons (.var 3) (.cons (.var 2) (.cons (.fld (.var 0) "kinds") .nil))))) .nil))) .nil))
def f29 : FnI := ⟨2, 4, none, b29⟩
-- choices_of ['things', 'many']
def b30 : Sts := (.cons (.asg (.n 2) (.lst (.cons (.tup (.cons (.tup .nil) (.cons (.cI 0) .nil))) .nil))) (.cons (.fr (.n 3) (.r1 (.var 1)) (.cons (.asg (.n 4) (.lst .nil)) (.cons (.fr (.t (.cons (.n 5) (.cons (.n 6) .nil))) (.e (.var 2)) (.cons (.ext 4 (.lc [7] (.n 7) (.r2 (.var 6) (.bin .add (.bin .add (.bin .sub (.bi .len (.cons (.var 0) .nil)) (.var 1)) (.var 3)) (.cI 1))) .nil (.tup (.cons (.bin .add (.var 5) (.tup (.cons (.idx (.var 0) (.var 7)) .nil))) (.cons (.bin .add (.var 7) (.cI 1)) .nil))))) .nil)) (.cons (.asg (.n 2) (.var 4)) .nil)))) (.cons (.ret (.lc [5, 6] (.t (.cons (.n 5) (.cons (.n 6) .nil))) (.e (.var 2)) .nil (.var 5))) .nil)))
def f30 : FnI := ⟨2, 8, none, b30⟩
-- kind_from ['book', 'company', 'a', 'b']
def b31 : Sts := (.cons (.ret (.ite (.cmp .lt (.var 3) (.var 2)) (.idx (.idx (.var 1) (.var 2)) (.var 3)) (.idx (.fld (.var 0) "back") (.idx (.idx (.var 1) (.var 3)) (.var 2))))) .nil)
def f31 : FnI := ⟨4, 4, none, b31⟩
-- is_let ['book', 'company', 'a', 'b', 'c']
def b32 : Sts := (.cons (.asg (.n 5) (.tup (.cons (.call 31 (.cons (.var 0) (.cons (.var 1) (.cons (.var 2) (.cons (.var 3) .nil))))) (.cons (.call 31 (.cons (.var 0) (.cons (.var 1) (.cons (.var 3) (.cons (.var 4) .nil))))) (.cons (.call 31 (.cons (.var 0) (.cons (.var 1) (.cons (.var 2) (.cons (.var 4) .nil))))) .nil))))) (.cons (.ret (.cmp .isin (.var 5) (.fld (.var 0) "lets"))) .nil))
def f32 : FnI := ⟨5, 6, none, b32⟩
-- broken_trios ['book', 'company']
def b33 : Sts := (.cons (.asg (.n 2) (.lst .nil)) (.cons (.fr (.t (.cons (.n 3) (.cons (.n 4) (.cons (.n 5) .nil)))) (.e (.call 30 (.cons (.lR (.r1 (.bi .len (.cons (.var 1) .nil)))) (.cons (.cI 3) .nil)))) (.cons (.ife (.not (.call 32 (.cons (.var 0) (.cons (.var 1) (.cons (.var 3) (.cons (.var 4) (.cons (.var 5) .nil))))))) (.cons (.app 2 (.tup (.cons (.var 3) (.cons (.var 4) (.cons (.var 5) .nil))))) .nil) .nil) .nil)) (.cons (.ret (.var 2)) .nil)))
def f33 : FnI := ⟨2, 6, none, b33⟩
-- is_lawful ['book', 'thing']
def b34 : Sts := (.cons (.ret (.and (.call 29 (.cons (.var 0) (.cons (.var 1) .nil))) (.not (.call 33 (.cons (.var 0) (.cons (.var 1) .nil)))))) .nil)
def f34 : FnI := ⟨2, 2, none, b34⟩
-- lawful_asked ['book', 'company']
def b35 (e : Nat) : Sts := (.cons (.ife (.not (.call 34 (.cons (.var 0) (.cons (.var 1) .nil)))) (.cons (.rse e .nil) .nil) .nil) .nil)
def f35 (e : Nat) : FnI := ⟨2, 2, none, b35 e⟩
-- is_lot ['thing', 'bound']
def b36 : Sts := (.cons (.ife (.or (.not (.isi (.var 0) .tuple)) (.not (.bi .all (.cons (.lc [3] (.n 3) (.e (.var 0)) .nil (.call 4 (.cons (.var 3) (.cons (.var 1) .nil)))) .nil)))) (.cons (.ret (.cB false)) .nil) .nil) (.cons (.ret (.bi .all (.cons (.lc [2] (.n 2) (.r2 (.cI 1) (.bi .len (.cons (.var 0) .nil))) .nil (.cmp .lt (.idx (.var 0) (.bin .sub (.var 2) (.cI 1))) (.idx (.var 0) (.var 2)))) .nil))) .nil))
def f36 : FnI := ⟨2, 4, none, b36⟩
end PD.Core
end

section
set_option Elab.async false
set_option linter.all false
set_option maxRecDepth 100000
/-! PD, part 28: companies, as the program judges them. -/
namespace PD.Core
open PySem PD PySem.W
variable {B : Nat → Option FnI} {fi : Nat → Str → Option Nat} {sub : Nat → Nat → Bool} {fu : Nat}
/-! comprehensions over any list of ours -/
section
variable {T : Tab} {ρ : PD.Env} {c e : Ex} {α : Type}
theorem collect_mapA {f : D → R (List D)} {g h : α → D} : ∀ {l : List α}, (∀ a ∈ l, f (g a) = .ok [h a]) → collect f (l.map g) = .ok (l.map h)
  | [], _ => rfl
  | x :: xs, k => bindO (k x List.mem_cons_self) (bindO (collect_mapA fun y hy => k y (List.mem_cons_of_mem _ hy)) rfl)
theorem collect_filA {f : D → R (List D)} {g h : α → D} {p : α → Bool} : ∀ {l : List α}, (∀ a ∈ l, f (g a) = .ok (if p a then [h a] else [])) → collect f (l.map g) = .ok ((l.filter p).map h)
  | [], _ => rfl
  | x :: xs, k => by
    refine bindO (k x List.mem_cons_self) (bindO (collect_filA fun y hy => k y (List.mem_cons_of_mem _ hy)) ?_)
    rw [List.filter_cons]
    cases p x <;> rfl
theorem ev_lcA {own : List Nat} {tg : Tg} {it : It} {l : List α} {g h : α → D} (hi : evIt T it ρ = .ok (l.map g)) (hl : l.length ≤ 100000)
    (k : ∀ a ∈ l, ∃ ρx, bindT tg (g a) (wipeE (unown ρ (rootsI it)) own) = .ok ρx ∧ ev T e ρx = .ok (h a)) : ev T (.lc own tg it .nil e) ρ = .ok (.lst (l.map h)) := by
  refine bindO hi (bindO (x := l.map h) (Eq.trans (congrArg noExc (collect_mapA (h := h) fun a ha => ?_)) rfl) (guardR_t (decide_eq_true (by rw [List.length_map]; exact line_of hl))))
  obtain ⟨ρx, h1, h2⟩ := k a ha
  exact bindO h1 (bindO (x := true) rfl (bindO h2 rfl))
theorem ev_lcfA {own : List Nat} {tg : Tg} {it : It} {l : List α} {g h : α → D} {p : α → Bool} (hi : evIt T it ρ = .ok (l.map g)) (hl : l.length ≤ 100000)
    (k : ∀ a ∈ l, ∃ ρx, bindT tg (g a) (wipeE (unown ρ (rootsI it)) own) = .ok ρx ∧ ev T c ρx = .ok (.bl (p a)) ∧ (p a = true → ev T e ρx = .ok (h a))) : ev T (.lc own tg it (.cons c .nil) e) ρ = .ok (.lst ((l.filter p).map h)) := by
  refine bindO hi (bindO (x := (l.filter p).map h) (Eq.trans (congrArg noExc (collect_filA (h := h) (p := p) fun a ha => ?_)) rfl) (guardR_t (decide_eq_true (by rw [List.length_map]; exact Nat.le_trans (List.length_filter_le _ _) (line_of hl)))))
  obtain ⟨ρx, h1, h2, h3⟩ := k a ha
  refine bindO h1 ?_
  cases hp : p a with
  | true => exact bindO (x := true) (bindO h2 (by rw [hp]; rfl)) (bindO (h3 hp) rfl)
  | false => exact bindO (x := false) (bindO h2 (by rw [hp]; rfl)) rfl
theorem all_A {p : α → Bool} (l : List α) : biD .all [.lst (l.map fun a => D.bl (p a))] = .ok (.bl (l.all p)) := all_bls
end
/-- a loop that may return -/
theorem loopG {f : D → PD.Env → R Fl} {Pd : D → Prop} (n : Nat) (I : Nat → PD.Env → Prop) (ρ : PD.Env) (h : ∀ i ρ, i < n → I i ρ → (∃ ρ', f (nD i) ρ = .ok (.nx ρ') ∧ I (i + 1) ρ') ∨ ∃ d ρ', f (nD i) ρ = .ok (.rt d ρ') ∧ Pd d) (h0 : I 0 ρ) :
    (∃ ρ', loopF f ((List.range n).map nD) ρ = .ok (.nx ρ') ∧ I n ρ') ∨ ∃ d ρ', loopF f ((List.range n).map nD) ρ = .ok (.rt d ρ') ∧ Pd d := by
  have key : ∀ (m i : Nat) (ρ : PD.Env), i + m = n → I i ρ → (∃ ρ', loopF f ((List.range' i m).map nD) ρ = .ok (.nx ρ') ∧ I n ρ') ∨ ∃ d ρ', loopF f ((List.range' i m).map nD) ρ = .ok (.rt d ρ') ∧ Pd d := fun m => by
    induction m with
    | zero => intro i ρ e hI; exact .inl ⟨ρ, rfl, by rw [← e]; exact hI⟩
    | succ m ih =>
      intro i ρ e hI
      rw [List.range'_succ, List.map_cons]
      rcases h i ρ (by omega) hI with ⟨ρ1, h1, h2⟩ | ⟨d, ρ1, h1, h2⟩
      · rcases ih (i + 1) ρ1 (by omega) h2 with ⟨ρ2, h3, h4⟩ | ⟨d, ρ2, h3, h4⟩
        · exact .inl ⟨ρ2, loopF_c h1 h3, h4⟩
        · exact .inr ⟨d, ρ2, loopF_c h1 h3, h4⟩
      · exact .inr ⟨d, ρ1, loopF_rt h1, h2⟩
  rw [List.range_eq_range']
  exact key n 0 ρ (by omega) h0
/-! a company -/
abbrev coD (co : List (List Nat)) : D := .tup (co.map rD)
def cel (co : List (List Nat)) (x y : Nat) : Nat := (co.getD x []).getD y 0
def kindP (b : List Nat) (co : List (List Nat)) (x y : Nat) : Nat := if y < x then cel co x y else bk b (cel co y x)
def Rows (co : List (List Nat)) (n : Nat) : Prop := ∀ (i : Nat) (r : List Nat), co[i]? = some r → r.length = i ∧ ∀ x ∈ r, x < n
theorem cel_ok {co : List (List Nat)} {n x y : Nat} (h : Rows co n) (hx : x < co.length) (hy : y < x) : ∃ r, co[x]? = some r ∧ r[y]? = some (cel co x y) ∧ cel co x y < n := by
  have e : co[x]? = some co[x] := List.getElem?_eq_getElem hx
  obtain ⟨h1, h2⟩ := h x _ e
  have hy' : y < co[x].length := by omega
  have e0 : co.getD x [] = co[x] := by rw [List.getD_eq_getElem?_getD, e]; rfl
  have e2 : cel co x y = co[x][y] := by
    unfold cel
    rw [e0, List.getD_eq_getElem?_getD, List.getElem?_eq_getElem hy']; rfl
  exact ⟨_, e, by rw [e2]; exact List.getElem?_eq_getElem hy', by rw [e2]; exact h2 _ (List.getElem_mem hy')⟩
theorem bk_lt {b : List Nat} {p : Nat} (hb : BackOk b) (hp : p < b.length) : bk b p < b.length := hb.bel _ (List.mem_of_getElem? (bk_get hp))
theorem kindP_lt {b : List Nat} {co : List (List Nat)} {x y : Nat} (hb : BackOk b) (h : Rows co b.length) (hx : x < co.length) (hy : y < co.length) (ne : x ≠ y) : kindP b co x y < b.length := by
  unfold kindP
  split
  · rename_i hh
    obtain ⟨_, _, _, h3⟩ := cel_ok h hx hh
    exact h3
  · obtain ⟨_, _, _, h3⟩ := cel_ok h hy (show x < y by omega)
    exact bk_lt hb h3
section
variable {T : Tab} {ρ : PD.Env} {e1 e2 e3 : Ex} {co : List (List Nat)} {n x y : Nat}
theorem ev_cel (h : Rows co n) (hx : x < co.length) (hy : y < x) (h1 : ev T e1 ρ = .ok (coD co)) (h2 : ev T e2 ρ = .ok (nD x)) (h3 : ev T e3 ρ = .ok (nD y)) : ev T (.idx (.idx e1 e2) e3) ρ = .ok (nD (cel co x y)) := by
  obtain ⟨r, k1, k2, _⟩ := cel_ok h hx hy
  exact (ev_idx ((ev_idx h1 h2).trans (idx_t (x := rD r) (by rw [List.getElem?_map, k1]; rfl))) h3).trans (idx_r k2)
end
theorem len_co (co : List (List Nat)) : biD .len [coD co] = .ok (nD co.length) := by show R.ok (D.int ((co.map rD).length : Int)) = _; rw [List.length_map]
/-- kind_from -/
theorem c31 (hf : BkFi fi) (h31 : B 31 = some f31) {k : Nat} {b : List Nat} {bs co : List (List Nat)} {x y : Nat} (h : Rows co b.length) (hx : x < co.length) (hy : y < co.length) (ne : x ≠ y) :
    callF B fi sub fu (k+1) 31 [bookD b bs, coD co, nD x, nD y] = .ok (nD (kindP b co x y)) := by
  refine callF_run (f := f31) (ρ := [sh (bookD b bs), sh (coD co), sh (nD x), sh (nD y)]) h31 rfl rfl ?_
  have hc := ev_lt (T := tb B fi sub fu k) (ρ := [sh (bookD b bs), sh (coD co), sh (nD x), sh (nD y)]) (a := .var 3) (b := .var 2) (i := (y : Int)) (j := (x : Int)) rfl rfl
  unfold kindP
  by_cases hh : y < x
  · rw [decide_eq_true (Int.ofNat_lt.mpr hh)] at hc
    rw [if_pos hh]
    exact ret_b (ev_ite_t hc (ev_cel h hx hh rfl rfl rfl)) fun _ => rfl
  · rw [decide_eq_false (fun z => hh (Int.ofNat_lt.mp z))] at hc
    rw [if_neg hh]
    obtain ⟨_, _, _, h3⟩ := cel_ok h hy (show x < y by omega)
    exact ret_b (ev_ite_f hc ((ev_idx (fld_back hf rfl) (ev_cel h hy (show x < y by omega) rfl rfl rfl)).trans (bk_idx h3))) fun _ => rfl
/-- the law's own kind -/
theorem c25 (h25 : B 25 = some f25) {k : Nat} {b : List Nat} {co : List (List Nat)} {x y : Nat} (h : Rows co b.length) (hx : x < co.length) (hy : y < co.length) (ne : x ≠ y) :
    callF B fi sub fu (k+1) 25 [rD b, coD co, nD x, nD y] = .ok (nD (kindP b co x y)) := by
  refine callF_run (f := f25) (ρ := [sh (rD b), sh (coD co), sh (nD x), sh (nD y)]) h25 rfl rfl ?_
  have hc := ev_gt (T := tb B fi sub fu k) (ρ := [sh (rD b), sh (coD co), sh (nD x), sh (nD y)]) (a := .var 2) (b := .var 3) (i := (x : Int)) (j := (y : Int)) rfl rfl
  unfold kindP
  by_cases hh : y < x
  · rw [decide_eq_true (Int.ofNat_lt.mpr hh)] at hc
    rw [if_pos hh]
    obtain ⟨ρ', h1⟩ := ret_l (T := tb B fi sub fu k) (s := .nil) (ev_cel (T := tb B fi sub fu k) (ρ := [sh (rD b), sh (coD co), sh (nD x), sh (nD y)]) (e1 := .var 1) (e2 := .var 2) (e3 := .var 3) h hx hh rfl rfl rfl)
    exact bindO (bindO (rn_if_t hc h1) rfl) rfl
  · rw [decide_eq_false (fun z => hh (Int.ofNat_lt.mp z))] at hc
    rw [if_neg hh]
    obtain ⟨_, _, _, h3⟩ := cel_ok h hy (show x < y by omega)
    refine stepB (rn_if_n hc) ?_
    exact ret_b ((ev_idx rfl (ev_cel h hy (show x < y by omega) rfl rfl rfl)).trans (bk_idx h3)) fun _ => rfl
/-- is_let -/
def letC (b : List Nat) (bs co : List (List Nat)) (x y z : Nat) : Bool := letB b bs [kindP b co x y, kindP b co y z, kindP b co x z]
theorem c32 (hf : BkFi fi) (h31 : B 31 = some f31) (h32 : B 32 = some f32) {k : Nat} {b : List Nat} {bs co : List (List Nat)} {x y z : Nat} (hb : BackOk b) (h : Rows co b.length) (hx : x < co.length) (hy : y < co.length) (hz : z < co.length) (n1 : x ≠ y) (n2 : y ≠ z) (n3 : x ≠ z) :
    callF B fi sub fu (k+2) 32 [bookD b bs, coD co, nD x, nD y, nD z] = .ok (.bl (letC b bs co x y z)) := by
  refine callF_run (f := f32) (ρ := [sh (bookD b bs), sh (coD co), sh (nD x), sh (nD y), sh (nD z), none]) h32 rfl rfl ?_
  refine stepB (ρ' := [sh (bookD b bs), sh (coD co), sh (nD x), sh (nD y), sh (nD z), sh (rD [kindP b co x y, kindP b co y z, kindP b co x z])]) (rn_asg (ev_t3 (cl (xs := [bookD b bs, coD co, nD x, nD y]) rfl (c31 hf h31 h hx hy n1)) (cl (xs := [bookD b bs, coD co, nD y, nD z]) rfl (c31 hf h31 h hy hz n2)) (cl (xs := [bookD b bs, coD co, nD x, nD z]) rfl (c31 hf h31 h hx hz n3))) rfl rfl rfl) ?_
  exact ret_b ((ev_cmp rfl (fld_lets hf rfl)).trans (in_lets (mem_tris (kindP_lt hb h hx hy n1) (kindP_lt hb h hy hz n2) (kindP_lt hb h hx hz n3)))) fun _ => rfl
/-! all triples of persons -/
def trips (n : Nat) : List (List Nat) := (List.range n).flatMap fun x => ((List.range n).filter fun y => decide (x < y)).flatMap fun y => ((List.range n).filter fun z => decide (y < z)).map fun z => [x, y, z]
theorem trips_ok {n : Nat} : ∀ t ∈ trips n, ∃ x y z, t = [x, y, z] ∧ x < y ∧ y < z ∧ z < n := fun t ht => by
  unfold trips at ht
  obtain ⟨x, hx, ht⟩ := List.mem_flatMap.mp ht
  obtain ⟨y, hy, ht⟩ := List.mem_flatMap.mp ht
  obtain ⟨z, hz, rfl⟩ := List.mem_map.mp ht
  obtain ⟨hy1, hy2⟩ := List.mem_filter.mp hy
  obtain ⟨hz1, hz2⟩ := List.mem_filter.mp hz
  exact ⟨x, y, z, rfl, of_decide_eq_true hy2, of_decide_eq_true hz2, List.mem_range.mp hz1⟩
theorem c30 (h30 : B 30 = some f30) {k n : Nat} (hn : n ≤ 9) : callF B fi sub fu (k+1) 30 [lD (List.range n), .int 3] = .ok (.lst ((trips n).map rD)) := by
  have : ∀ m, m ≤ 9 → (m = 0 ∨ m = 1 ∨ m = 2 ∨ m = 3 ∨ m = 4 ∨ m = 5 ∨ m = 6 ∨ m = 7 ∨ m = 8 ∨ m = 9) := by omega
  rcases this n hn with rfl | rfl | rfl | rfl | rfl | rfl | rfl | rfl | rfl | rfl
  all_goals
    refine callF_run (f := f30) (ρ := [sh (lD (List.range _)), sh (.int 3), none, none, none, none, none, none]) h30 rfl rfl ?_
    kernel_rfl
def Lawful (b : List Nat) (bs co : List (List Nat)) : Prop := ∀ x y z, x < y → y < z → z < co.length → letC b bs co x y z = true
/-- broken_trios of a lawful company -/
theorem c33 (hf : BkFi fi) (h30 : B 30 = some f30) (h31 : B 31 = some f31) (h32 : B 32 = some f32) (h33 : B 33 = some f33) {k : Nat} {b : List Nat} {bs co : List (List Nat)} (hb : BackOk b) (h : Rows co b.length) (hl : Lawful b bs co) (hn : co.length ≤ 9) :
    callF B fi sub fu (k+3) 33 [bookD b bs, coD co] = .ok (.lst []) := by
  refine callF_run (f := f33) (ρ := [sh (bookD b bs), sh (coD co), none, none, none, none]) h33 rfl rfl ?_
  refine stepB (ρ' := [sh (bookD b bs), sh (coD co), some (.f (.ol [])), none, none, none]) rfl ?_
  have loop : ∀ (l : List (List Nat)) (o3 o4 o5 : Option OD), (∀ t ∈ l, ∃ x y z, t = [x, y, z] ∧ x < y ∧ y < z ∧ z < co.length) → ∃ o3' o4' o5', loopF (fun t ρ => (bindT (.t (.cons (.n 3) (.cons (.n 4) (.cons (.n 5) .nil)))) t ρ).bind fun ρ => rns (tb B fi sub fu (k+2)) (.cons (.ife (.not (.call 32 (.cons (.var 0) (.cons (.var 1) (.cons (.var 3) (.cons (.var 4) (.cons (.var 5) .nil))))))) (.cons (.app 2 (.tup (.cons (.var 3) (.cons (.var 4) (.cons (.var 5) .nil))))) .nil) .nil) .nil) ρ) (l.map rD) [sh (bookD b bs), sh (coD co), some (.f (.ol [])), o3, o4, o5] = .ok (.nx [sh (bookD b bs), sh (coD co), some (.f (.ol [])), o3', o4', o5']) := fun l => by
    induction l with
    | nil => intro o3 o4 o5 _; exact ⟨o3, o4, o5, rfl⟩
    | cons t l ih =>
      intro o3 o4 o5 ht
      obtain ⟨x, y, z, rfl, h1, h2, h3⟩ := ht t List.mem_cons_self
      obtain ⟨o3', o4', o5', hh⟩ := ih (sh (nD x)) (sh (nD y)) (sh (nD z)) fun t ht' => ht t (List.mem_cons_of_mem _ ht')
      refine ⟨o3', o4', o5', loopF_c (ρ1 := [sh (bookD b bs), sh (coD co), some (.f (.ol [])), sh (nD x), sh (nD y), sh (nD z)]) (bindO (x := [sh (bookD b bs), sh (coD co), some (.f (.ol [])), sh (nD x), sh (nD y), sh (nD z)]) rfl (stp (rn_if_n (evNot (k := true) (cl (xs := [bookD b bs, coD co, nD x, nD y, nD z]) rfl ?_))) rfl)) hh⟩
      rw [c32 hf h31 h32 hb h (by omega) (by omega) h3 (by omega) (by omega) (by omega), hl x y z h1 h2 h3]
  obtain ⟨o3, o4, o5, hh⟩ := loop (trips co.length) none none none trips_ok
  refine stepB (ρ' := [sh (bookD b bs), sh (coD co), some (.f (.ol [])), o3, o4, o5]) (rn_fr (xs := (trips co.length).map rD) (evIt_e (x := .lst ((trips co.length).map rD)) (cl (xs := [lD (List.range co.length), .int 3]) (evsC ?_ rfl) (c30 h30 hn)) rfl) rfl hh) ?_
  · refine bindO (evIt_n (ev_bi (evs1 (x := coD co) rfl) (len_co co)) (by omega)) (guardR_t (decide_eq_true ?_))
    rw [List.length_map, List.length_range]
    exact line_of (by omega)
  · exact ret_b rfl fun _ => rfl
/-! is_company -/
def belowB (a : List Nat) (m n : Nat) : Bool := decide (a.length = m) && a.all fun x => decide (x < n)
theorem c6g (h3 : B 3 = some f3) (h4 : B 4 = some f4) (h6 : B 6 = some f6) {k m n : Nat} {a : List Nat} (ha : a.length ≤ 1000) : callF B fi sub fu (k+3) 6 [rD a, nD m, nD n] = .ok (.bl (belowB a m n)) := by
  refine callF_run (f := f6) (ρ := [sh (rD a), sh (nD m), sh (nD n), none]) h6 rfl rfl ?_
  have hc : ev (tb B fi sub fu (k+2)) (.or (.not (.isi (.var 0) .tuple)) (.cmp .ne (.bi .len (.cons (.var 0) .nil)) (.var 1))) [sh (rD a), sh (nD m), sh (nD n), none] = .ok (.bl (!decide (a.length = m))) :=
    ev_or_f (evNot (k := true) rfl) ((ev_cmp (x := nD a.length) (y := nD m) (ev_bi (evs1 (x := rD a) rfl) (len_r a)) rfl).trans ((ne_i _ _).trans (by rw [show decide ((a.length : Int) = (m : Int)) = decide (a.length = m) from decide_eq_decide.mpr Int.ofNat_inj])))
  unfold belowB
  by_cases e : a.length = m
  · rw [decide_eq_true e] at hc ⊢
    refine stepB (rn_if_n hc) ?_
    refine ret_b (ev_bi (evs1 (ev_lcA (l := a) (g := nD) (h := fun x => .bl (decide (x < n))) rfl (by omega) fun x hx => ?_)) (all_A a)) fun _ => rfl
    exact ⟨[sh (rD a), sh (nD m), sh (nD n), sh (nD x)], rfl, cl (xs := [nD x, nD n]) rfl (c4 h3 h4)⟩
  · rw [decide_eq_false e] at hc ⊢
    obtain ⟨ρ', h1⟩ := ret_l (T := tb B fi sub fu (k+2)) (ρ := [sh (rD a), sh (nD m), sh (nD n), none]) (e := .cB false) (s := .nil) rfl
    exact bindO (bindO (rn_if_t hc h1) rfl) rfl
theorem evIt_en {T : Tab} {ρ : PD.Env} {a : Ex} {x : D} {xs : List D} (h : ev T a ρ = .ok x) (h2 : itemsD x = .ok xs) : evIt T (.en a) ρ = .ok (enumFrom 0 xs) := bindO h (bindO h2 rfl)
theorem enum_r : ∀ (co : List (List Nat)) (i : Nat), enumFrom (i : Nat) (co.map rD) = (co.zipIdx i).map fun p => D.tup [nD p.2, rD p.1]
  | [], _ => rfl
  | r :: co, i => by
    rw [List.map_cons, enumFrom, List.zipIdx_cons, List.map_cons]
    have := enum_r co (i + 1)
    rw [show ((i + 1 : Nat) : Int) = (i : Int) + 1 from rfl] at this
    rw [this]
theorem c29 (hf : BkFi fi) (h3 : B 3 = some f3) (h4 : B 4 = some f4) (h6 : B 6 = some f6) (h29 : B 29 = some f29) {k : Nat} {b : List Nat} {bs co : List (List Nat)} (hl : co.length ≤ 1000) (hr : ∀ r ∈ co, r.length ≤ 1000) :
    callF B fi sub fu (k+4) 29 [bookD b bs, coD co] = .ok (.bl (co.zipIdx.all fun p => belowB p.1 p.2 b.length)) := by
  refine callF_run (f := f29) (ρ := [sh (bookD b bs), sh (coD co), none, none]) h29 rfl rfl ?_
  refine stepB (rn_if_n (evNot (k := true) rfl)) ?_
  refine ret_b (ev_bi (evs1 (ev_lcA (l := co.zipIdx) (g := fun p => D.tup [nD p.2, rD p.1]) (h := fun p => .bl (belowB p.1 p.2 b.length)) ?_ (by rw [List.length_zipIdx]; omega) fun p hp => ?_)) (all_A _)) fun _ => rfl
  · rw [← enum_r co 0]
    exact evIt_en (x := coD co) rfl rfl
  · refine ⟨[sh (bookD b bs), sh (coD co), sh (nD p.2), sh (rD p.1)], rfl, ?_⟩
    refine cl (xs := [rD p.1, nD p.2, nD b.length]) (evsC rfl (evsC rfl (evs1 (fld_kinds hf rfl)))) (c6g h3 h4 h6 (hr _ ?_))
    obtain ⟨h1, h2⟩ := List.mem_zipIdx' hp
    rw [h2]; exact List.getElem_mem _
theorem rows_all {co : List (List Nat)} {n : Nat} (h : Rows co n) : (co.zipIdx.all fun p => belowB p.1 p.2 n) = true := by
  rw [List.all_eq_true]
  intro p hp
  obtain ⟨h1, h2⟩ := List.mem_zipIdx' hp
  obtain ⟨k1, k2⟩ := h p.2 p.1 (by rw [h2]; exact List.getElem?_eq_getElem h1)
  unfold belowB
  rw [decide_eq_true k1, Bool.true_and, List.all_eq_true]
  exact fun x hx => decide_eq_true (k2 x hx)
/-- a lawful company -/
structure Good (b : List Nat) (bs co : List (List Nat)) : Prop where
  rows : Rows co b.length
  law : Lawful b bs co
theorem rows_len {co : List (List Nat)} {n : Nat} (h : Rows co n) : ∀ r ∈ co, r.length ≤ co.length := fun r hr => by
  obtain ⟨i, hi, rfl⟩ := List.getElem_of_mem hr
  have := (h i _ (List.getElem?_eq_getElem hi)).1
  omega
structure CoB (B : Nat → Option FnI) (fi : Nat → Str → Option Nat) (er : Nat) : Prop where
  hf : BkFi fi
  h3 : B 3 = some f3
  h4 : B 4 = some f4
  h6 : B 6 = some f6
  h29 : B 29 = some f29
  h30 : B 30 = some f30
  h31 : B 31 = some f31
  h32 : B 32 = some f32
  h33 : B 33 = some f33
  h34 : B 34 = some f34
  h35 : B 35 = some (f35 er)
theorem c34 {er : Nat} (Z : CoB B fi er) {k : Nat} {b : List Nat} {bs co : List (List Nat)} (hb : BackOk b) (h : Good b bs co) (hn : co.length ≤ 9) : callF B fi sub fu (k+5) 34 [bookD b bs, coD co] = .ok (.bl true) := by
  refine callF_run (f := f34) (ρ := [sh (bookD b bs), sh (coD co)]) Z.h34 rfl rfl ?_
  have hr := rows_len h.rows
  have e1 := c29 (B := B) (fi := fi) (sub := sub) (fu := fu) (k := k) (b := b) (bs := bs) (co := co) Z.hf Z.h3 Z.h4 Z.h6 Z.h29 (by omega) (fun r hh => by have := hr r hh; omega)
  rw [rows_all h.rows] at e1
  exact ret_b (ev_and_t (cl (xs := [bookD b bs, coD co]) rfl e1) (bindO (cl (xs := [bookD b bs, coD co]) rfl (c33 (k := k + 1) Z.hf Z.h30 Z.h31 Z.h32 Z.h33 hb h.rows h.law hn)) rfl)) fun _ => rfl
/-- lawful_asked -/
theorem c35 {er : Nat} (Z : CoB B fi er) {k : Nat} {b : List Nat} {bs co : List (List Nat)} (hb : BackOk b) (h : Good b bs co) (hn : co.length ≤ 9) : callF B fi sub fu (k+6) 35 [bookD b bs, coD co] = .ok .non := by
  refine callF_run (f := f35 er) (ρ := [sh (bookD b bs), sh (coD co)]) Z.h35 rfl rfl ?_
  exact stepB (rn_if_n (evNot (k := true) (cl (xs := [bookD b bs, coD co]) rfl (c34 Z hb h hn)))) rfl
/-- .. of what is no company -/
theorem c35x {er : Nat} (Z : CoB B fi er) {k : Nat} {b : List Nat} {bs co : List (List Nat)} (hl : co.length ≤ 1000) (hr : ∀ r ∈ co, r.length ≤ 1000) (h : (co.zipIdx.all fun p => belowB p.1 p.2 b.length) = false) : callF B fi sub fu (k+6) 35 [bookD b bs, coD co] = .exc (.mk er []) := by
  refine callF_run (f := f35 er) (ρ := [sh (bookD b bs), sh (coD co)]) Z.h35 rfl rfl ?_
  have e1 := c29 (B := B) (fi := fi) (sub := sub) (fu := fu) (k := k) (b := b) (bs := bs) (co := co) Z.hf Z.h3 Z.h4 Z.h6 Z.h29 hl hr
  rw [h] at e1
  have e2 : callF B fi sub fu (k+5) 34 [bookD b bs, coD co] = .ok (.bl false) := by
    refine callF_run (f := f34) (ρ := [sh (bookD b bs), sh (coD co)]) Z.h34 rfl rfl ?_
    exact ret_b (ev_and_f (cl (xs := [bookD b bs, coD co]) rfl e1)) fun _ => rfl
  refine bindX (cons_x (rn_if_t (evNot (k := false) (cl (xs := [bookD b bs, coD co]) rfl e2)) (cons_x rfl)))
end PD.Core
end

section
set_option Elab.async false
set_option linter.all false
set_option maxRecDepth 100000
/-! PD, part 29: companies, as the laws grow them. -/
namespace PD.Core
open PySem PD PySem.W
variable {B : Nat → Option FnI} {fi : Nat → Str → Option Nat} {sub : Nat → Nat → Bool} {fu : Nat}
/-! all six tellings have one form -/
def sixG (b : List Nat) : Bool := (tris b.length).all fun t => (match t with
  | [p, q, r] => decide (form3 b q (bk b r) (bk b p) = form3 b p q r)
  | _ => false)
theorem backs_six : backs.all sixG = true := by decide +kernel
theorem six {b : List Nat} (hb : b ∈ backs) {p q r : Nat} (hp : p < b.length) (hq : q < b.length) (hr : r < b.length) : form3 b q (bk b r) (bk b p) = form3 b p q r := by
  have h := List.all_eq_true.mp (List.all_eq_true.mp backs_six b hb) _ (mem_tris hp hq hr)
  exact of_decide_eq_true h
/-- one more person -/
def fitR (b : List Nat) (bs co : List (List Nat)) (r : List Nat) : Prop := ∀ i j, i < j → j < r.length → letB b bs [r.getD i 0, kindP b co i j, r.getD j 0] = true
theorem getD_at {l : List Nat} {i : Nat} (h : i < l.length) : l.getD i 0 = l[i] := by
  rw [List.getD_eq_getElem?_getD, List.getElem?_eq_getElem h]; rfl
theorem cel_old {co : List (List Nat)} {r : List Nat} {x y : Nat} (hx : x < co.length) : cel (co ++ [r]) x y = cel co x y := by
  have e : (co ++ [r]).getD x [] = co.getD x [] := by rw [List.getD_eq_getElem?_getD, List.getD_eq_getElem?_getD, List.getElem?_append_left hx]
  unfold cel
  rw [e]
theorem cel_new {co : List (List Nat)} {r : List Nat} {y : Nat} : cel (co ++ [r]) co.length y = r.getD y 0 := by
  have e : (co ++ [r]).getD co.length [] = r := by rw [List.getD_eq_getElem?_getD, List.getElem?_append_right (Nat.le_refl _), Nat.sub_self]; rfl
  unfold cel
  rw [e]
theorem kind_old {b : List Nat} {co : List (List Nat)} {r : List Nat} {x y : Nat} (hx : x < co.length) (hy : y < co.length) : kindP b (co ++ [r]) x y = kindP b co x y := by
  unfold kindP
  rw [cel_old hx, cel_old hy]
theorem kind_new {b : List Nat} {co : List (List Nat)} {r : List Nat} {x : Nat} (hx : x < co.length) : kindP b (co ++ [r]) x co.length = bk b (r.getD x 0) := by
  unfold kindP
  rw [if_neg (by omega), cel_new]
theorem grow {b : List Nat} {bs co : List (List Nat)} {r : List Nat} (hm : b ∈ backs) (h : Good b bs co) (hl : r.length = co.length) (hr : ∀ x ∈ r, x < b.length) (hf : fitR b bs co r) : Good b bs (co ++ [r]) := by
  have hb := back_ok hm
  refine ⟨fun i s e => ?_, fun x y z h1 h2 h3 => ?_⟩
  · by_cases hi : i < co.length
    · rw [List.getElem?_append_left hi] at e
      exact h.rows i s e
    · rw [List.getElem?_append_right (by omega)] at e
      have : i - co.length = 0 := by
        have := (List.getElem?_eq_some_iff.mp e).1
        simp at this
        omega
      rw [this] at e
      cases e
      exact ⟨by omega, hr⟩
  · rw [List.length_append] at h3
    have h3 : z < co.length + 1 := h3
    unfold letC
    by_cases hz : z < co.length
    · rw [kind_old (by omega) (by omega), kind_old (by omega) hz, kind_old (by omega) hz]
      exact h.law x y z h1 h2 hz
    · have : z = co.length := by omega
      subst this
      rw [kind_old (by omega) h2, kind_new h2, kind_new (show x < co.length by omega)]
      have hx : x < r.length := by omega
      have hy : y < r.length := by omega
      have k := hf x y h1 hy
      unfold letB at k ⊢
      rw [show formR b [kindP b co x y, bk b (r.getD y 0), bk b (r.getD x 0)] = formR b [r.getD x 0, kindP b co x y, r.getD y 0] from six hm (by rw [getD_at hx]; exact hr _ (List.getElem_mem hx)) (kindP_lt hb h.rows (by omega) (by omega) (by omega)) (by rw [getD_at hy]; exact hr _ (List.getElem_mem hy))]
      exact k
/-! the law's functions -/
/-- pairs told: person, kind -/
def toldD (r : List Nat) (n : Nat) : List (List Nat) := (List.range n).map fun i => [i, r.getD i 0]
def letsP (b : List Nat) (bs co : List (List Nat)) (told : List (List Nat)) (x k : Nat) : Bool := told.all fun t => letB b bs [t.getD 1 0, kindP b co (t.getD 0 0) x, k]
theorem c26 (h11 : B 11 = some f11) (h12 : B 12 = some f12) (h16 : B 16 = some f16) (h25 : B 25 = some f25) (h26 : B 26 = some f26) {k : Nat} {b : List Nat} {bs co : List (List Nat)} {told : List (List Nat)} {x c : Nat} (hb : BackOk b) (h : Rows co b.length) (hx : x < co.length) (hc : c < b.length)
    (ht : ∀ t ∈ told, ∃ o v, t = [o, v] ∧ o < co.length ∧ o ≠ x ∧ v < b.length) : callF B fi sub fu (k+4) 26 [rD b, .tup (bs.map rD), coD co, .lst (told.map rD), nD x, nD c] = .ok (.bl (letsP b bs co told x c)) := by
  refine callF_run (f := f26) (ρ := [sh (rD b), sh (.tup (bs.map rD)), sh (coD co), sh (.lst (told.map rD)), sh (nD x), sh (nD c), none]) h26 rfl rfl ?_
  have loop : ∀ (l : List (List Nat)) (o : Option OD), (∀ t ∈ l, ∃ o v, t = [o, v] ∧ o < co.length ∧ o ≠ x ∧ v < b.length) →
      (letsP b bs co l x c = true ∧ ∃ o', loopF (fun t ρ => (bindT (.n 6) t ρ).bind fun ρ => rns (tb B fi sub fu (k+3)) (.cons (.ife (.not (.call 16 (.cons (.var 0) (.cons (.var 1) (.cons (.idx (.var 6) (.cI 1)) (.cons (.call 25 (.cons (.var 0) (.cons (.var 2) (.cons (.idx (.var 6) (.cI 0)) (.cons (.var 4) .nil))))) (.cons (.var 5) .nil))))))) (.cons (.ret (.cB false)) .nil) .nil) .nil) ρ) (l.map rD) [sh (rD b), sh (.tup (bs.map rD)), sh (coD co), sh (.lst (told.map rD)), sh (nD x), sh (nD c), o] = .ok (.nx [sh (rD b), sh (.tup (bs.map rD)), sh (coD co), sh (.lst (told.map rD)), sh (nD x), sh (nD c), o'])) ∨
      (letsP b bs co l x c = false ∧ ∃ ρ', loopF (fun t ρ => (bindT (.n 6) t ρ).bind fun ρ => rns (tb B fi sub fu (k+3)) (.cons (.ife (.not (.call 16 (.cons (.var 0) (.cons (.var 1) (.cons (.idx (.var 6) (.cI 1)) (.cons (.call 25 (.cons (.var 0) (.cons (.var 2) (.cons (.idx (.var 6) (.cI 0)) (.cons (.var 4) .nil))))) (.cons (.var 5) .nil))))))) (.cons (.ret (.cB false)) .nil) .nil) .nil) ρ) (l.map rD) [sh (rD b), sh (.tup (bs.map rD)), sh (coD co), sh (.lst (told.map rD)), sh (nD x), sh (nD c), o] = .ok (.rt (.bl false) ρ')) := fun l => by
    induction l with
    | nil => intro o _; exact .inl ⟨rfl, o, rfl⟩
    | cons t l ih =>
      intro o ht
      obtain ⟨p, v, rfl, h1, h2, h3⟩ := ht t List.mem_cons_self
      have hkd := kindP_lt hb h h1 hx h2
      have hg : ev (tb B fi sub fu (k+3)) (.call 16 (.cons (.var 0) (.cons (.var 1) (.cons (.idx (.var 6) (.cI 1)) (.cons (.call 25 (.cons (.var 0) (.cons (.var 2) (.cons (.idx (.var 6) (.cI 0)) (.cons (.var 4) .nil))))) (.cons (.var 5) .nil)))))) [sh (rD b), sh (.tup (bs.map rD)), sh (coD co), sh (.lst (told.map rD)), sh (nD x), sh (nD c), sh (rD [p, v])] = .ok (.bl (letB b bs [v, kindP b co p x, c])) :=
        cl (xs := [rD b, .tup (bs.map rD), nD v, nD (kindP b co p x), nD c]) (evsC rfl (evsC rfl (evsC rfl (evsC (cl (xs := [rD b, coD co, nD p, nD x]) rfl (c25 (k := k + 2) h25 h h1 hx h2)) (evs1 rfl))))) (c16 h11 h12 h16 h3 hkd hc)
      have hall : letsP b bs co ([p, v] :: l) x c = (letB b bs [v, kindP b co p x, c] && letsP b bs co l x c) := rfl
      cases hb2 : letB b bs [v, kindP b co p x, c] with
      | true =>
        rw [hb2] at hg hall
        have hn := loopF_c (f := fun t ρ => (bindT (.n 6) t ρ).bind fun ρ => rns (tb B fi sub fu (k+3)) (.cons (.ife (.not (.call 16 (.cons (.var 0) (.cons (.var 1) (.cons (.idx (.var 6) (.cI 1)) (.cons (.call 25 (.cons (.var 0) (.cons (.var 2) (.cons (.idx (.var 6) (.cI 0)) (.cons (.var 4) .nil))))) (.cons (.var 5) .nil))))))) (.cons (.ret (.cB false)) .nil) .nil) .nil) ρ) (x := rD [p, v]) (xs := l.map rD) (ρ := [sh (rD b), sh (.tup (bs.map rD)), sh (coD co), sh (.lst (told.map rD)), sh (nD x), sh (nD c), o]) (ρ1 := [sh (rD b), sh (.tup (bs.map rD)), sh (coD co), sh (.lst (told.map rD)), sh (nD x), sh (nD c), sh (rD [p, v])]) (bindO (x := [sh (rD b), sh (.tup (bs.map rD)), sh (coD co), sh (.lst (told.map rD)), sh (nD x), sh (nD c), sh (rD [p, v])]) rfl (stp (rn_if_n (evNot (k := true) hg)) rfl)) rfl
        rw [hall, Bool.true_and]
        rcases ih (sh (rD [p, v])) fun t hh => ht t (List.mem_cons_of_mem _ hh) with ⟨e1, o', e2⟩ | ⟨e1, ρ', e2⟩
        · exact .inl ⟨e1, o', hn.trans e2⟩
        · exact .inr ⟨e1, ρ', hn.trans e2⟩
      | false =>
        rw [hb2] at hg hall
        obtain ⟨ρ', h1⟩ := ret_l (T := tb B fi sub fu (k+3)) (ρ := [sh (rD b), sh (.tup (bs.map rD)), sh (coD co), sh (.lst (told.map rD)), sh (nD x), sh (nD c), sh (rD [p, v])]) (e := .cB false) (s := .nil) rfl
        refine .inr ⟨by rw [hall, Bool.false_and], ρ', loopF_rt (bindO (x := [sh (rD b), sh (.tup (bs.map rD)), sh (coD co), sh (.lst (told.map rD)), sh (nD x), sh (nD c), sh (rD [p, v])]) rfl (bindO (rn_if_t (evNot (k := false) hg) h1) rfl))⟩
  rcases loop told none ht with ⟨e1, o', e2⟩ | ⟨e1, ρ', e2⟩
  · rw [e1]
    refine stepB (rn_fr (xs := told.map rD) rfl rfl e2) ?_
    exact ret_b (d := .bl true) rfl fun _ => rfl
  · rw [e1]
    exact bindO (bindO (rn_fr (xs := told.map rD) rfl rfl e2) rfl) rfl
theorem toldD_succ (r : List Nat) (v p : Nat) (hl : r.length = p) : toldD (r ++ [v]) (p + 1) = toldD r p ++ [[p, v]] := by
  unfold toldD
  rw [List.range_succ, List.map_append]
  congr 1
  · refine List.map_congr_left fun i hi => ?_
    have hi := List.mem_range.mp hi
    rw [getD_at (by rw [List.length_append]; show i < r.length + 1; omega), getD_at (by omega), List.getElem_append_left (by omega)]
  · show [[p, (r ++ [v]).getD p 0]] = _
    rw [getD_at (by rw [List.length_append]; show p < r.length + 1; omega), List.getElem_append_right (by omega)]
    simp
theorem toldD_ok {r : List Nat} {n p : Nat} {co : List (List Nat)} (hl : r.length = p) (hr : ∀ x ∈ r, x < n) (hp : p < co.length) : ∀ t ∈ toldD r p, ∃ o v, t = [o, v] ∧ o < co.length ∧ o ≠ p ∧ v < n := fun t ht => by
  obtain ⟨i, hi, rfl⟩ := List.mem_map.mp ht
  have hi := List.mem_range.mp hi
  exact ⟨i, _, rfl, by omega, by omega, by rw [getD_at (by omega)]; exact hr _ (List.getElem_mem _)⟩
theorem letsP_told {b : List Nat} {bs co : List (List Nat)} {r : List Nat} {p c : Nat} (h : letsP b bs co (toldD r p) p c = true) : ∀ i, i < p → letB b bs [r.getD i 0, kindP b co i p, c] = true := fun i hi => by
  have := List.all_eq_true.mp h [i, r.getD i 0] (List.mem_map.mpr ⟨i, List.mem_range.mpr hi, rfl⟩)
  exact this
theorem fit_more {b : List Nat} {bs co : List (List Nat)} {r : List Nat} {p c : Nat} (hl : r.length = p) (h : fitR b bs co r) (h2 : letsP b bs co (toldD r p) p c = true) : fitR b bs co (r ++ [c]) := fun i j h1 hj => by
  rw [List.length_append] at hj
  have hj : j < r.length + 1 := hj
  have e1 : ∀ x, x < r.length → (r ++ [c]).getD x 0 = r.getD x 0 := fun x hx => by rw [getD_at (by rw [List.length_append]; show x < r.length + 1; omega), getD_at hx, List.getElem_append_left hx]
  by_cases e : j < r.length
  · rw [e1 i (by omega), e1 j e]
    exact h i j h1 e
  · have : j = p := by omega
    subst this
    have e2 : (r ++ [c]).getD j 0 = c := by
      rw [getD_at (by rw [List.length_append]; show j < r.length + 1; omega), List.getElem_append_right (by omega)]
      simp
    rw [e1 i (by omega), e2]
    exact letsP_told h2 i (by omega)
abbrev RV (b : List Nat) (bs co : List (List Nat)) (nm : List Nat) (a : Nat) (told : List (List Nat)) (o7 o8 o9 o10 : Option OD) : PD.Env := [sh (rD b), sh (.tup (bs.map rD)), sh (coD co), sh (lD nm), sh (nD a), some (.f (.ol (told.map rD))), sh (nD b.length), o7, o8, o9, o10, none]
def bK : Sts := (.cons (.asg (.n 10) (.bin .mod (.bin .add (.idx (.var 3) (.bin .mod (.bin .add (.var 4) (.var 7)) (.bi .len (.cons (.var 3) .nil)))) (.var 9)) (.var 6))) (.cons (.ife (.and (.not (.var 8)) (.call 26 (.cons (.var 0) (.cons (.var 1) (.cons (.var 2) (.cons (.var 5) (.cons (.var 7) (.cons (.var 10) .nil)))))))) (.cons (.app 5 (.tup (.cons (.var 7) (.cons (.var 10) .nil)))) (.cons (.asg (.n 8) (.cB true)) .nil)) .nil) .nil))
theorem ev_t2 {T : Tab} {ρ : PD.Env} {a b : Ex} {x y : Nat} (ha : ev T a ρ = .ok (nD x)) (hb : ev T b ρ = .ok (nD y)) : ev T (.tup (.cons a (.cons b .nil))) ρ = .ok (rD [x, y]) := bindO (evsC ha (evsC hb rfl)) rfl
structure LawB (B : Nat → Option FnI) : Prop where
  h11 : B 11 = some f11
  h12 : B 12 = some f12
  h16 : B 16 = some f16
  h25 : B 25 = some f25
  h26 : B 26 = some f26
  h27 : B 27 = some f27
/-- the choice of one kind -/
theorem stepK (Z : LawB B) {k : Nat} {b : List Nat} {bs co : List (List Nat)} {nm : List Nat} {a p : Nat} {r : List Nat} (hb : BackOk b) (h : Rows co b.length) (hn : nm.length = 30) (hp : p < co.length) (hco : co.length ≤ 1000) (hl : r.length = p) (hr : ∀ x ∈ r, x < b.length) (q9 q10 : Option OD) :
    ∃ ρ', loopF (fun x ρ => (bindT (.n 9) x ρ).bind fun ρ => rns (tb B fi sub fu (k+4)) bK ρ) (intsD 0 b.length) (RV b bs co nm a (toldD r p) (sh (nD p)) (sh (.bl false)) q9 q10) = .ok (.nx ρ') ∧
      ((∃ o9 o10, ρ' = RV b bs co nm a (toldD r p) (sh (nD p)) (sh (.bl false)) o9 o10) ∨ ∃ c o9 o10, c < b.length ∧ letsP b bs co (toldD r p) p c = true ∧ ρ' = RV b bs co nm a (toldD (r ++ [c]) (p + 1)) (sh (nD p)) (sh (.bl true)) o9 o10) := by
  have hpos := hb.pos
  have hle := hb.le
  refine loopN b.length (fun i ρ => (∃ o9 o10, ρ = RV b bs co nm a (toldD r p) (sh (nD p)) (sh (.bl false)) o9 o10) ∨ ∃ c o9 o10, c < b.length ∧ letsP b bs co (toldD r p) p c = true ∧ ρ = RV b bs co nm a (toldD (r ++ [c]) (p + 1)) (sh (nD p)) (sh (.bl true)) o9 o10) _ (fun i ρ hi hI => ?_) (.inl ⟨q9, q10, rfl⟩)
  obtain ⟨v, hv⟩ : ∃ v, nm[(a + p) % 30]? = some v := ⟨nm[(a + p) % 30]'(by have := Nat.mod_lt (a + p) (show 0 < 30 by decide); omega), List.getElem?_eq_getElem _⟩
  have hc : (v + i) % b.length < b.length := Nat.mod_lt _ hpos
  have hkd : ∀ (told : List (List Nat)) (o8 o10 : Option OD), ev (tb B fi sub fu (k+4)) (.bin .mod (.bin .add (.idx (.var 3) (.bin .mod (.bin .add (.var 4) (.var 7)) (.bi .len (.cons (.var 3) .nil)))) (.var 9)) (.var 6)) (RV b bs co nm a told (sh (nD p)) o8 (sh (nD i)) o10) = .ok (nD ((v + i) % b.length)) := fun told o8 o10 => by
    refine evn_mod (evn_add ((ev_idx (y := nD ((a + p) % 30)) rfl ?_).trans (idx_ln hv)) rfl) rfl hpos
    have := evn_mod (T := tb B fi sub fu (k+4)) (ρ := RV b bs co nm a told (sh (nD p)) o8 (sh (nD i)) o10) (e := .bin .add (.var 4) (.var 7)) (e' := .bi .len (.cons (.var 3) .nil)) (x := a + p) (y := nm.length) (evn_add rfl rfl) (ev_bi (evs1 (x := lD nm) rfl) (len_ln nm)) (by omega)
    rw [this, hn]
  rcases hI with ⟨o9, o10, rfl⟩ | ⟨c, o9, o10, h1, h2, rfl⟩
  · have hg : ev (tb B fi sub fu (k+4)) (.and (.not (.var 8)) (.call 26 (.cons (.var 0) (.cons (.var 1) (.cons (.var 2) (.cons (.var 5) (.cons (.var 7) (.cons (.var 10) .nil)))))))) (RV b bs co nm a (toldD r p) (sh (nD p)) (sh (.bl false)) (sh (nD i)) (sh (nD ((v + i) % b.length)))) = .ok (.bl (letsP b bs co (toldD r p) p ((v + i) % b.length))) :=
      ev_and_t (evNot (k := false) rfl) (cl (xs := [rD b, .tup (bs.map rD), coD co, .lst ((toldD r p).map rD), nD p, nD ((v + i) % b.length)]) rfl (c26 Z.h11 Z.h12 Z.h16 Z.h25 Z.h26 hb h hp hc (toldD_ok hl hr hp)))
    cases hz : letsP b bs co (toldD r p) p ((v + i) % b.length) with
    | false =>
      rw [hz] at hg
      refine ⟨RV b bs co nm a (toldD r p) (sh (nD p)) (sh (.bl false)) (sh (nD i)) (sh (nD ((v + i) % b.length))), bindO (x := RV b bs co nm a (toldD r p) (sh (nD p)) (sh (.bl false)) (sh (nD i)) o10) rfl ?_, .inl ⟨_, _, rfl⟩⟩
      exact stp (rn_asg (hkd _ _ _) rfl rfl rfl) (stp (rn_if_n hg) rfl)
    | true =>
      rw [hz] at hg
      refine ⟨RV b bs co nm a (toldD (r ++ [(v + i) % b.length]) (p + 1)) (sh (nD p)) (sh (.bl true)) (sh (nD i)) (sh (nD ((v + i) % b.length))), bindO (x := RV b bs co nm a (toldD r p) (sh (nD p)) (sh (.bl false)) (sh (nD i)) o10) rfl ?_, .inr ⟨_, _, _, hc, hz, rfl⟩⟩
      refine stp (rn_asg (hkd _ _ _) rfl rfl rfl) (stp (rn_if_t hg (stp (ρ' := RV b bs co nm a (toldD (r ++ [(v + i) % b.length]) (p + 1)) (sh (nD p)) (sh (.bl false)) (sh (nD i)) (sh (nD ((v + i) % b.length)))) ?_ (stp rfl rfl))) rfl)
      unfold RV
      rw [toldD_succ r _ p hl, List.map_append]
      refine rn_app rfl (ev_t2 (x := p) (y := (v + i) % b.length) rfl rfl) rfl ?_
      unfold toldD
      rw [List.length_map, List.length_map, List.length_range]
      exact line_of (by omega)
  · refine ⟨RV b bs co nm a (toldD (r ++ [c]) (p + 1)) (sh (nD p)) (sh (.bl true)) (sh (nD i)) (sh (nD ((v + i) % b.length))), bindO (x := RV b bs co nm a (toldD (r ++ [c]) (p + 1)) (sh (nD p)) (sh (.bl true)) (sh (nD i)) o10) rfl ?_, .inr ⟨c, _, _, h1, h2, rfl⟩⟩
    exact stp (rn_asg (hkd _ _ _) rfl rfl rfl) (stp (rn_if_n (ev_and_f (evNot (k := true) rfl))) rfl)
/-- a row for one more person, or none -/
theorem c27 (Z : LawB B) {k : Nat} {b : List Nat} {bs co : List (List Nat)} {nm : List Nat} {a : Nat} (hb : BackOk b) (h : Rows co b.length) (hn : nm.length = 30) (hco : co.length ≤ 1000) :
    callF B fi sub fu (k+5) 27 [rD b, .tup (bs.map rD), coD co, lD nm, nD a] = .ok .non ∧ 0 < co.length ∨ ∃ r : List Nat, r.length = co.length ∧ (∀ x ∈ r, x < b.length) ∧ fitR b bs co r ∧ callF B fi sub fu (k+5) 27 [rD b, .tup (bs.map rD), coD co, lD nm, nD a] = .ok (rD r) := by
  have hle := hb.le
  have start : ∀ X, (rns (tb B fi sub fu (k+4)) (.cons (.fr (.n 7) (.r1 (.bi .len (.cons (.var 2) .nil))) (.cons (.asg (.n 8) (.cB false)) (.cons (.fr (.n 9) (.r1 (.var 6)) bK) (.cons (.ife (.not (.var 8)) (.cons (.ret .cN) .nil) .nil) .nil)))) (.cons (.ret (.bi .tupleOf (.cons (.lc [11] (.n 11) (.e (.var 5)) .nil (.idx (.var 11) (.cI 1))) .nil))) .nil)) (RV b bs co nm a [] none none none none)).bind f27.fin = X → callF B fi sub fu (k+5) 27 [rD b, .tup (bs.map rD), coD co, lD nm, nD a] = X := fun X hX => by
    refine callF_run (f := f27) (ρ := [sh (rD b), sh (.tup (bs.map rD)), sh (coD co), sh (lD nm), sh (nD a), none, none, none, none, none, none, none]) Z.h27 rfl rfl ?_
    refine stepB (ρ' := [sh (rD b), sh (.tup (bs.map rD)), sh (coD co), sh (lD nm), sh (nD a), some (.f (.ol [])), none, none, none, none, none, none]) rfl ?_
    exact stepB (ρ' := RV b bs co nm a [] none none none none) (rn_asg (ev_bi (evs1 (x := rD b) rfl) (len_r b)) rfl rfl rfl) hX
  have lp := loopG (f := fun x ρ => (bindT (.n 7) x ρ).bind fun ρ => rns (tb B fi sub fu (k+4)) (.cons (.asg (.n 8) (.cB false)) (.cons (.fr (.n 9) (.r1 (.var 6)) bK) (.cons (.ife (.not (.var 8)) (.cons (.ret .cN) .nil) .nil) .nil))) ρ) (Pd := fun d => d = .non ∧ 0 < co.length) co.length
    (fun p ρ => ∃ r o7 o8 o9 o10, r.length = p ∧ (∀ x ∈ r, x < b.length) ∧ fitR b bs co r ∧ ρ = RV b bs co nm a (toldD r p) o7 o8 o9 o10) (RV b bs co nm a [] none none none none) (fun p ρ hp ⟨r, o7, o8, o9, o10, hl, hr, hf, e⟩ => by
      subst e
      obtain ⟨ρ', h1, h2⟩ := stepK (fi := fi) (sub := sub) (fu := fu) (k := k) (bs := bs) (a := a) Z hb h hn hp hco hl hr o9 o10
      have hst : ∀ X, rns (tb B fi sub fu (k+4)) (.cons (.ife (.not (.var 8)) (.cons (.ret .cN) .nil) .nil) .nil) ρ' = X → (bindT (.n 7) (nD p) (RV b bs co nm a (toldD r p) o7 o8 o9 o10)).bind (fun ρ => rns (tb B fi sub fu (k+4)) (.cons (.asg (.n 8) (.cB false)) (.cons (.fr (.n 9) (.r1 (.var 6)) bK) (.cons (.ife (.not (.var 8)) (.cons (.ret .cN) .nil) .nil) .nil))) ρ) = X := fun X hX => by
        refine bindO (x := RV b bs co nm a (toldD r p) (sh (nD p)) o8 o9 o10) rfl ?_
        refine stp (ρ' := RV b bs co nm a (toldD r p) (sh (nD p)) (sh (.bl false)) o9 o10) rfl ?_
        refine stp (rn_fr (evIt_n (n := b.length) rfl (by omega)) rfl (by rw [← ints_r]; exact h1)) hX
      rcases h2 with ⟨p9, p10, rfl⟩ | ⟨c, p9, p10, g1, g2, rfl⟩
      · obtain ⟨ρ', h3⟩ := ret_l (T := tb B fi sub fu (k+4)) (ρ := RV b bs co nm a (toldD r p) (sh (nD p)) (sh (.bl false)) p9 p10) (e := .cN) (s := .nil) rfl
        exact .inr ⟨.non, ρ', hst _ (bindO (rn_if_t (evNot (k := false) rfl) h3) rfl), rfl, by omega⟩
      · refine .inl ⟨_, hst _ (stp (rn_if_n (evNot (k := true) rfl)) rfl), r ++ [c], _, _, _, _, by rw [List.length_append, hl]; rfl, fun x hx => ?_, fit_more hl hf g2, rfl⟩
        rcases List.mem_append.mp hx with hx | hx
        · exact hr x hx
        · rw [List.mem_singleton.mp hx]; exact g1) ⟨[], none, none, none, none, rfl, fun _ z => absurd z (by simp), fun i j _ z => absurd z (Nat.not_lt_zero _), rfl⟩
  rcases lp with ⟨ρ', h1, r, o7, o8, o9, o10, hl, hr, hf, rfl⟩ | ⟨d, ρ', h1, rfl, hpos⟩
  · refine .inr ⟨r, hl, hr, hf, start _ (stepB (rn_fr (evIt_n (ev_bi (evs1 (x := coD co) rfl) (len_co co)) (by omega)) rfl h1) ?_)⟩
    refine ret_b (d := rD r) (ev_bi (evs1 (x := lD r) ?_) rfl) fun _ => rfl
    have := ev_lcA (T := tb B fi sub fu (k+4)) (ρ := RV b bs co nm a (toldD r co.length) o7 o8 o9 o10) (own := [11]) (tg := .n 11) (it := .e (.var 5)) (e := .idx (.var 11) (.cI 1)) (l := toldD r co.length) (g := rD) (h := fun t => nD (t.getD 1 0)) rfl (by unfold toldD; rw [List.length_map, List.length_range]; omega) fun t ht => by
      obtain ⟨i, hi, rfl⟩ := List.mem_map.mp ht
      refine ⟨[sh (rD b), sh (.tup (bs.map rD)), sh (coD co), sh (lD nm), sh (nD a), sh (.lst ((toldD r co.length).map rD)), sh (nD b.length), o7, o8, o9, o10, sh (rD [i, r.getD i 0])], rfl, ?_⟩
      exact (ev_idx (x := rD [i, r.getD i 0]) (y := nD 1) rfl rfl).trans (idx_r rfl)
    rw [this]
    unfold toldD
    rw [List.map_map]
    have : (List.range co.length).map ((fun t => nD (t.getD 1 0)) ∘ fun i => [i, r.getD i 0]) = r.map nD := by
      refine List.ext_getElem (by rw [List.length_map, List.length_map, List.length_range, hl]) fun i h1 h2 => ?_
      rw [List.getElem_map, List.getElem_map, List.getElem_range]
      rw [List.length_map] at h2
      show nD (r.getD i 0) = _
      rw [getD_at h2]
    rw [this]
  · exact .inl ⟨start _ (bindO (bindO (rn_fr (evIt_n (ev_bi (evs1 (x := coD co) rfl) (len_co co)) (by omega)) rfl h1) rfl) rfl), hpos⟩
/-- a company grown, as far as it goes -/
abbrev GV (b : List Nat) (bs : List (List Nat)) (nm : List Nat) (m : Nat) (co : List (List Nat)) (o5 o6 : Option OD) : PD.Env := [sh (rD b), sh (.tup (bs.map rD)), sh (lD nm), sh (nD m), sh (coD co), o5, o6]
theorem c28 (Z : LawB B) (h28 : B 28 = some f28) {k : Nat} {b : List Nat} {bs : List (List Nat)} {nm : List Nat} {m : Nat} (hm : b ∈ backs) (hn : nm.length = 30) (hmm : m ≤ 100) :
    ∃ co, Good b bs co ∧ co.length ≤ m ∧ callF B fi sub fu (k+6) 28 [rD b, .tup (bs.map rD), lD nm, nD m] = .ok (coD co) := by
  have hb := back_ok hm
  have lp := loopG (f := fun x ρ => (bindT (.n 5) x ρ).bind fun ρ => rns (tb B fi sub fu (k+5)) (.cons (.asg (.n 6) (.call 27 (.cons (.var 0) (.cons (.var 1) (.cons (.var 4) (.cons (.var 2) (.cons (.bin .mul (.cI 3) (.var 5)) .nil))))))) (.cons (.ife (.isN (.var 6)) (.cons (.ret (.var 4)) .nil) .nil) (.cons (.asg (.n 4) (.bin .add (.var 4) (.tup (.cons (.var 6) .nil)))) .nil))) ρ) (Pd := fun d => ∃ co, d = coD co ∧ Good b bs co ∧ co.length ≤ m) m
    (fun i ρ => ∃ co o5 o6, co.length = i ∧ Good b bs co ∧ ρ = GV b bs nm m co o5 o6) (GV b bs nm m [] none none) (fun i ρ hi ⟨co, o5, o6, hl, hg, e⟩ => by
      subst e
      have hc := c27 (fi := fi) (sub := sub) (fu := fu) (k := k) (bs := bs) (co := co) (nm := nm) (a := 3 * i) Z hb hg.rows hn (by omega)
      have hcall : ∀ X, callF B fi sub fu (k+5) 27 [rD b, .tup (bs.map rD), coD co, lD nm, nD (3 * i)] = X → ev (tb B fi sub fu (k+5)) (.call 27 (.cons (.var 0) (.cons (.var 1) (.cons (.var 4) (.cons (.var 2) (.cons (.bin .mul (.cI 3) (.var 5)) .nil)))))) (GV b bs nm m co (sh (nD i)) o6) = X := fun X hX =>
        cl (xs := [rD b, .tup (bs.map rD), coD co, lD nm, nD (3 * i)]) (evsC rfl (evsC rfl (evsC rfl (evsC rfl (evs1 (evn_mul (x := 3) (y := i) rfl rfl (by decide))))))) hX
      rcases hc with ⟨hc, _⟩ | ⟨r, g1, g2, g3, hc⟩
      · obtain ⟨ρ', h3⟩ := ret_l (T := tb B fi sub fu (k+5)) (ρ := GV b bs nm m co (sh (nD i)) (sh .non)) (e := .var 4) (d := coD co) (s := .nil) rfl
        refine .inr ⟨coD co, ρ', bindO (x := GV b bs nm m co (sh (nD i)) o6) rfl (stp (rn_asg (hcall _ hc) rfl rfl rfl) (bindO (rn_if_t rfl h3) rfl)), co, rfl, hg, by omega⟩
      · refine .inl ⟨GV b bs nm m (co ++ [r]) (sh (nD i)) (sh (rD r)), bindO (x := GV b bs nm m co (sh (nD i)) o6) rfl (stp (ρ' := GV b bs nm m co (sh (nD i)) (sh (rD r))) (rn_asg (hcall _ hc) rfl rfl rfl) (stp (rn_if_n rfl) (stp ?_ rfl))), co ++ [r], _, _, by rw [List.length_append, hl]; rfl, grow hm hg g1 g2 g3, rfl⟩
        have e1 : binD .add (coD co) (.tup [rD r]) = .ok (coD (co ++ [r])) := by
          show guardR (decide ((co.map rD).length + 1 ≤ line)) (.ok (D.tup (co.map rD ++ [rD r]))) = _
          rw [guardR_t (decide_eq_true (by rw [List.length_map]; exact line_of (by omega)))]
          show R.ok (D.tup (co.map rD ++ [rD r])) = R.ok (D.tup ((co ++ [r]).map rD))
          rw [List.map_append]; rfl
        exact rn_asg (x := coD (co ++ [r])) ((ev_bin (x := coD co) (y := .tup [rD r]) rfl rfl).trans e1) rfl rfl rfl) ⟨[], none, none, rfl, ⟨fun i r e => by simp at e, fun x y z _ _ h => absurd h (Nat.not_lt_zero _)⟩, rfl⟩
  have start : ∀ X, (rns (tb B fi sub fu (k+5)) (.cons (.fr (.n 5) (.r1 (.var 3)) (.cons (.asg (.n 6) (.call 27 (.cons (.var 0) (.cons (.var 1) (.cons (.var 4) (.cons (.var 2) (.cons (.bin .mul (.cI 3) (.var 5)) .nil))))))) (.cons (.ife (.isN (.var 6)) (.cons (.ret (.var 4)) .nil) .nil) (.cons (.asg (.n 4) (.bin .add (.var 4) (.tup (.cons (.var 6) .nil)))) .nil)))) (.cons (.ret (.var 4)) .nil)) (GV b bs nm m [] none none)).bind f28.fin = X → callF B fi sub fu (k+6) 28 [rD b, .tup (bs.map rD), lD nm, nD m] = X := fun X hX => by
    refine callF_run (f := f28) (ρ := [sh (rD b), sh (.tup (bs.map rD)), sh (lD nm), sh (nD m), none, none, none]) h28 rfl rfl ?_
    exact stepB (ρ' := GV b bs nm m [] none none) rfl hX
  rcases lp with ⟨ρ', h1, co, o5, o6, hl, hg, rfl⟩ | ⟨d, ρ', h1, co, rfl, hg, hl⟩
  · refine ⟨co, hg, by omega, start _ (stepB (rn_fr (evIt_n (n := m) rfl (by omega)) rfl h1) ?_)⟩
    exact ret_b rfl fun _ => rfl
  · exact ⟨co, hg, hl, start _ (bindO (bindO (rn_fr (evIt_n (n := m) rfl (by omega)) rfl h1) rfl) rfl)⟩
end PD.Core
end

section
set_option Elab.async false
set_option linter.all false
set_option maxRecDepth 100000
/-! PD, part 30: a script's numbers from any cell; a knit book as the laws draw it. -/
namespace PD.Core
open PySem PD PySem.W
variable {B : Nat → Option FnI} {fi : Nat → Str → Option Nat} {sub : Nat → Nat → Bool} {fu : Nat}
abbrev NVa (ss : List D) (a : Nat) (c : Nat) (g : Bool) (nm : List Nat) (o : Option OD) : PD.Env := [sh (.scr ss), sh (.int (a : Int)), sh (.int 30), sh (.int (c : Int)), sh (.bl g), some (.f (.ol (nm.map nD))), o]
theorem c1a (h0 : B 0 = some f0) (hB1 : B 1 = some f1) {k : Nat} (ns : List Int) (a : Nat) : ∃ nm : List Nat, nm.length = 30 ∧ callF B fi sub fu (k+2) 1 [.scr (ns.map .int), .int (a : Int), .int 30] = .ok (.lst (nm.map nD)) := by
  obtain ⟨v0, hv0⟩ := c0 (B := B) (fi := fi) (sub := sub) (fu := fu) h0 (k := k) ns a
  obtain ⟨v1, hv1⟩ := c0 (B := B) (fi := fi) (sub := sub) (fu := fu) h0 (k := k) ns (a + 1)
  obtain ⟨z0, hz0⟩ := abs_nat v0
  obtain ⟨z1, hz1⟩ := abs_nat v1
  have w0 : biD .abs [.int v0] = .ok (.int (z0 : Int)) := by rw [← hz0]; rfl
  have w1 : biD .abs [.int v1] = .ok (.int (z1 : Int)) := by rw [← hz1]; rfl
  obtain ⟨ρ', h1, c, g, nm, hl, he⟩ := loopF_inv (f := fun x ρ => (bindT (.n 6) x ρ).bind fun ρ => rns (tb B fi sub fu (k+1)) (.cons (.ife (.and (.var 4) (.cmp .eq (.var 3) (.cI 0))) (.cons (.asg (.n 4) (.cB false)) (.cons (.asg (.n 3) (.bin .add (.bi .abs (.cons (.call 0 (.cons (.var 0) (.cons (.bin .add (.var 1) (.cI 1)) .nil))) .nil)) (.var 6))) .nil)) .nil) (.cons (.ife (.var 4) (.cons (.app 5 (.bin .mod (.bi .intOf (.cons (.var 3) .nil)) (.cI 840))) (.cons (.asg (.n 3) (.bin .fdiv (.var 3) (.cI 840))) .nil)) (.cons (.asg (.n 3) (.bin .mod (.bi .intOf (.cons (.bin .add (.bin .add (.bin .mul (.var 3) (.cI 48271)) (.bin .mul (.cI 7) (.var 6))) (.cI 11)) .nil)) (.cI 2147483647))) (.cons (.app 5 (.bin .fdiv (.var 3) (.cI 13))) .nil))) .nil)) ρ)
    30 0 (fun i ρ => ∃ (c : Nat) (g : Bool) (nm : List Nat), nm.length = i ∧ ρ = NVa (ns.map .int) a c g nm (lv none 0 i)) (NVa (ns.map .int) a z0 (!decide ((z0 : Int) < 1000000000000000000)) [] none) (fun i ρ hi hI => by
      obtain ⟨c, g, nm, hl, he⟩ := hI
      subst he
      have s1 : ∃ (c' : Nat) (g' : Bool), rn (tb B fi sub fu (k+1)) (.ife (.and (.var 4) (.cmp .eq (.var 3) (.cI 0))) (.cons (.asg (.n 4) (.cB false)) (.cons (.asg (.n 3) (.bin .add (.bi .abs (.cons (.call 0 (.cons (.var 0) (.cons (.bin .add (.var 1) (.cI 1)) .nil))) .nil)) (.var 6))) .nil)) .nil) (NVa (ns.map .int) a c g nm (sh (.int (0 + i)))) = .ok (.nx (NVa (ns.map .int) a c' g' nm (sh (.int (0 + i))))) := by
        cases g with
        | false => exact ⟨c, false, rn_if_n (ev_and_f rfl)⟩
        | true =>
          cases hc : decide ((c : Int) = 0) with
          | false => exact ⟨c, true, rn_if_n (ev_and_t rfl ((ev_cmp rfl rfl).trans ((eq_i _ _).trans (by rw [hc]))))⟩
          | true =>
            refine ⟨z1 + i, false, rn_if_t (ev_and_t rfl ((ev_cmp rfl rfl).trans ((eq_i _ _).trans (by rw [hc])))) (stp (ρ' := NVa (ns.map .int) a c false nm (sh (.int (0 + i)))) rfl (stp (ρ' := NVa (ns.map .int) a (z1 + i) false nm (sh (.int (0 + i)))) ?_ rfl))⟩
            rw [show NVa (ns.map .int) a (z1 + i) false nm (sh (.int (0 + i))) = (NVa (ns.map .int) a c false nm (sh (.int (0 + i)))).set 3 (sh (.int ((z1 : Int) + (0 + (i : Int))))) by
              show [_, _, _, sh (.int ((z1 + i : Nat) : Int)), _, _, _] = [_, _, _, sh (.int ((z1 : Int) + (0 + (i : Int)))), _, _, _]
              rw [show ((z1 + i : Nat) : Int) = (z1 : Int) + (0 + (i : Int)) by omega]]
            exact rn_asg (ev_add (ev_bi (evs1 (cl (xs := [.scr (ns.map .int), .int ((a + 1 : Nat) : Int)]) rfl hv1)) w1) rfl) rfl rfl rfl
      obtain ⟨c', g', s1⟩ := s1
      have hmap : ∀ v : Nat, (nm.map nD) ++ [D.int (v : Int)] = (nm ++ [v]).map nD := fun v => by rw [List.map_append]; rfl
      have hlen : (nm.map nD).length + 1 ≤ line := by
        rw [List.length_map, hl]
        exact Nat.le_trans (show i + 1 ≤ 30 by omega) (by decide)
      have s2 : ∃ (c'' v : Nat), rn (tb B fi sub fu (k+1)) (.ife (.var 4) (.cons (.app 5 (.bin .mod (.bi .intOf (.cons (.var 3) .nil)) (.cI 840))) (.cons (.asg (.n 3) (.bin .fdiv (.var 3) (.cI 840))) .nil)) (.cons (.asg (.n 3) (.bin .mod (.bi .intOf (.cons (.bin .add (.bin .add (.bin .mul (.var 3) (.cI 48271)) (.bin .mul (.cI 7) (.var 6))) (.cI 11)) .nil)) (.cI 2147483647))) (.cons (.app 5 (.bin .fdiv (.var 3) (.cI 13))) .nil))) (NVa (ns.map .int) a c' g' nm (sh (.int (0 + i)))) = .ok (.nx (NVa (ns.map .int) a c'' g' (nm ++ [v]) (sh (.int (0 + i))))) := by
        cases g' with
        | true =>
          refine ⟨c' / 840, c' % 840, rn_if_t rfl (stp (ρ' := NVa (ns.map .int) a c' true (nm ++ [c' % 840]) (sh (.int (0 + i)))) ?_ (stp (ρ' := NVa (ns.map .int) a (c' / 840) true (nm ++ [c' % 840]) (sh (.int (0 + i)))) ?_ rfl))⟩
          · unfold NVa
            rw [← hmap]
            exact rn_app rfl ((ev_bin (ev_bi (evs1 rfl) rfl) rfl).trans (mod_i (by decide))) rfl hlen
          · exact rn_asg ((ev_bin rfl rfl).trans (fdiv_i (by decide) (by decide))) rfl rfl rfl
        | false =>
          let w : Nat := (c' * 48271 + 7 * i + 11) % 2147483647
          refine ⟨w, w / 13, rn_if_f rfl (stp (ρ' := NVa (ns.map .int) a w false nm (sh (.int (0 + i)))) ?_ (stp (ρ' := NVa (ns.map .int) a w false (nm ++ [w / 13]) (sh (.int (0 + i)))) ?_ rfl))⟩
          · have hw : ((c' : Int) * 48271 + 7 * (0 + (i : Int)) + 11) % 2147483647 = (w : Int) := by
              show _ = (((c' * 48271 + 7 * i + 11) % 2147483647 : Nat) : Int)
              omega
            rw [show NVa (ns.map .int) a w false nm (sh (.int (0 + i))) = (NVa (ns.map .int) a c' false nm (sh (.int (0 + i)))).set 3 (sh (.int (((c' : Int) * 48271 + 7 * (0 + (i : Int)) + 11) % 2147483647))) by
              rw [hw]; rfl]
            exact rn_asg (ev_mod (ev_bi (evs1 (ev_add (ev_add (ev_mul rfl rfl (mulOk_r (by decide))) (ev_mul rfl rfl (mulOk_l (by decide)))) rfl)) rfl) rfl (by decide)) rfl rfl rfl
          · unfold NVa
            rw [← hmap]
            exact rn_app rfl ((ev_bin rfl rfl).trans (fdiv_i (by decide) (by decide))) rfl hlen
      obtain ⟨c'', v, s2⟩ := s2
      refine ⟨_, bindO (x := NVa (ns.map .int) a c g nm (sh (.int (0 + i)))) rfl (stp s1 (stp s2 rfl)), c'', g', nm ++ [v], by rw [List.length_append, hl]; rfl, rfl⟩) ⟨z0, _, [], rfl, rfl⟩
  subst he
  refine ⟨nm, hl, ?_⟩
  refine callF_run (f := f1) (ρ := [sh (.scr (ns.map .int)), sh (.int (a : Int)), sh (.int 30), none, none, none, none]) hB1 rfl rfl ?_
  refine stepB (ρ' := [sh (.scr (ns.map .int)), sh (.int (a : Int)), sh (.int 30), sh (.int z0), none, none, none]) (rn_asg (ev_bi (evs1 (cl (xs := [.scr (ns.map .int), .int (a : Int)]) rfl hv0)) w0) rfl rfl rfl) ?_
  refine stepB (ρ' := [sh (.scr (ns.map .int)), sh (.int (a : Int)), sh (.int 30), sh (.int z0), sh (.bl (!decide ((z0 : Int) < 1000000000000000000))), none, none]) (rn_asg ((ev_cmp (y := .int 1000000000000000000) rfl rfl).trans (ge_i _ _)) rfl rfl rfl) ?_
  refine stepB (ρ' := NVa (ns.map .int) a z0 (!decide ((z0 : Int) < 1000000000000000000)) [] none) rfl ?_
  refine stepB (rn_for (i := 30) rfl rfl h1) ?_
  exact ret_b rfl fun _ => rfl

theorem rn_asgF {T : Tab} {e : Ex} {x : D} {ρ : PD.Env} {i : Nat} (he : ev T e ρ = .ok x) (hz : froz x = true) (hf : ownO (frs e) x = .sh x) (hi : decide (i < ρ.length) = true) : rn T (.asg (.n i) e) ρ = .ok (.nx (ρ.set i (sh x))) := by
  refine bindO he ?_
  have : keepN (frs e) ρ (roots e) x = ρ := by
    unfold keepN keepRs
    split
    · exact absurd hz Bool.false_ne_true
    · unfold keepR
      rw [hz]
  rw [this, hf]
  exact guardR_t hi
theorem nni_t (a : Nat) (l : List Nat) : cmpD .notin (nD a) (rD l) = .ok (.bl (!decide (a ∈ l))) := by
  have := deep_n a
  rw [cmpD, any_n]; exact guardR_t (by rw [plains_n, decide_eq_true (by omega)]; rfl)
theorem leq (a b : List Nat) : cmpD .eq (lD a) (lD b) = .ok (.bl (decide (a = b))) := by
  have h1 : eqD (lD a) (lD b) = decide (a = b) := by
    show PyData.eqv (toP (lD a)) (toP (lD b)) = _
    rw [toP_l, toP_l, PyData.eqv, eqv_ints]
  have h2 : deep (lD a) ≤ 2 := by
    show PyData.depth (toP (lD a)) ≤ 2
    rw [toP_l, PyData.depth]
    have := depth_n a
    omega
  rw [cmpD, h1]
  refine guardR_t ?_
  unfold eqOk
  rw [show plain (lD a) = true from plains_n a, show plain (lD b) = true from plains_n b, decide_eq_true (by omega)]; rfl
def knownL : List (List Nat × List (List Nat)) := [([1, 0], [[0, 0, 1]]), ([0, 1], [[0, 0, 1]]), ([0, 1], [[0, 0, 0], [0, 0, 1]]), ([0], [[0, 0, 0]]), ([0, 1], [[0, 0, 1], [1, 1, 1]]), ([0, 1], [[0, 0, 0], [0, 0, 1], [1, 1, 1]]), ([0, 1], [[0, 0, 0]])]
abbrev pairD (p : List Nat × List (List Nat)) : D := .tup [rD p.1, .tup (p.2.map rD)]
theorem known_ok : (knownL.all fun p => decide (p.1 ∈ backs) && p.2.isSublist (formsOf p.1)) = true := by decide +kernel
theorem known_at : knownL.length = 7 := rfl
theorem c23 (h23 : B 23 = some f23) {k v : Nat} : ∃ b bs, b ∈ backs ∧ List.Sublist bs (formsOf b) ∧ callF B fi sub fu (k+1) 23 [nD v] = .ok (.tup [rD b, .tup (bs.map rD)]) := by
  have hv : v % 7 < knownL.length := by rw [known_at]; exact Nat.mod_lt _ (by decide)
  obtain ⟨p, hp⟩ : ∃ p, knownL[v % 7]? = some p := ⟨_, List.getElem?_eq_getElem hv⟩
  have h := List.all_eq_true.mp known_ok p (List.mem_of_getElem? hp)
  rw [Bool.and_eq_true, decide_eq_true_eq, List.isSublist_iff_sublist] at h
  refine ⟨p.1, p.2, h.1, h.2, ?_⟩
  refine callF_run (f := f23) (ρ := [sh (nD v), none]) h23 rfl rfl ?_
  refine stepB (ρ' := [sh (nD v), some (.f (.ol ((knownL.take 4).map pairD)))]) (by kernel_rfl) ?_
  refine stepB (ρ' := [sh (nD v), some (.f (.ol ((knownL.take 6).map pairD)))]) (by kernel_rfl) ?_
  refine stepB (ρ' := [sh (nD v), some (.f (.ol (knownL.map pairD)))]) (by kernel_rfl) ?_
  exact ret_b ((ev_idx (x := .lst (knownL.map pairD)) (y := nD (v % 7)) rfl (evn_mod (y := 7) rfl rfl (by omega))).trans (idx_l (by rw [List.getElem?_map, hp]; rfl))) fun _ => rfl
abbrev KV (nm b own : List Nat) (kp : Nat) (bs : List (List Nat)) (o : Option OD) : PD.Env := [sh (lD nm), sh (rD b), some (.f (.ol (own.map nD))), sh (nD kp), some (.f (.ol (bs.map rD))), sh (.lst ((formsOf b).map rD)), o, none]
theorem c24 (h10 : B 10 = some f10) (h11 : B 11 = some f11) (h12 : B 12 = some f12) (h13 : B 13 = some f13) (h23 : B 23 = some f23) (h24 : B 24 = some f24) {k : Nat} {nm : List Nat} (hl : nm.length = 30) :
    ∃ b bs, b ∈ backs ∧ List.Sublist bs (formsOf b) ∧ callF B fi sub fu (k+4) 24 [lD nm] = .ok (.tup [rD b, .tup (bs.map rD)]) := by
  have hnm : ∀ i, i < 30 → ∃ v, nm[i]? = some v := fun i hi => ⟨nm[i]'(by omega), List.getElem?_eq_getElem _⟩
  obtain ⟨v0, hv0⟩ := hnm 0 (by omega)
  obtain ⟨v1, hv1⟩ := hnm 1 (by omega)
  obtain ⟨v2, hv2⟩ := hnm 2 (by omega)
  have h17 : v0 % 17 < backs.length := Nat.mod_lt _ (by decide)
  obtain ⟨b, hbi⟩ : ∃ b, backs[v0 % 17]? = some b := ⟨_, List.getElem?_eq_getElem h17⟩
  have hbm : b ∈ backs := List.mem_of_getElem? hbi
  have hb := back_ok hbm
  have hle := hb.le
  have hfl := hb.fl
  obtain ⟨bk', bsk, hk1, hk2, hk3⟩ := c23 (B := B) (fi := fi) (sub := sub) (fu := fu) (k := k+2) (v := v0) h23
  have start : ∀ X, (rns (tb B fi sub fu (k+3)) (match f24.body with
      | .cons _ r => r
      | .nil => .nil) [sh (lD nm), sh (rD b), none, none, none, none, none, none]).bind f24.fin = X → callF B fi sub fu (k+4) 24 [lD nm] = X := fun X hX => by
    refine callF_run (f := f24) (ρ := [sh (lD nm), none, none, none, none, none, none, none]) h24 rfl rfl ?_
    exact stepB (ρ' := [sh (lD nm), sh (rD b), none, none, none, none, none, none]) (rn_asg ((ev_idx (x := .lst (backs.map rD)) (y := nD (v0 % 17)) (cl (xs := []) rfl (c10 h10)) (evn_mod (y := 17) ((ev_idx (x := lD nm) (y := nD 0) rfl rfl).trans (idx_ln hv0)) rfl (by omega))).trans (idx_l (by rw [List.getElem?_map, hbi]; rfl))) rfl rfl rfl) hX
  have t5 : ∀ c : Nat, ev (tb B fi sub fu (k+3)) (.cmp .eq (.bin .mod (.idx (.var 0) (.cI 1)) (.cI 5)) (.cI c)) [sh (lD nm), sh (rD b), none, none, none, none, none, none] = .ok (.bl (decide (v1 % 5 = c))) := fun c =>
    evn_eq (evn_mod (y := 5) ((ev_idx (x := lD nm) (y := nD 1) rfl rfl).trans (idx_ln hv1)) rfl (by omega)) rfl
  have e0 : ∀ ρ : PD.Env, slotE ρ 1 = sh (rD b) → ev (tb B fi sub fu (k+3)) (.tup (.cons (.var 1) (.cons (.tup .nil) .nil))) ρ = .ok (.tup [rD b, .tup (([] : List (List Nat)).map rD)]) := fun ρ hρ =>
    bindO (evsC (x := rD b) (by show varR ρ 1 = _; unfold varR; rw [hρ]; rfl) rfl) rfl
  by_cases hz : v1 % 5 = 0
  · have t := t5 0
    rw [decide_eq_true hz] at t
    refine ⟨bk', bsk, hk1, hk2, start _ ?_⟩
    obtain ⟨ρ', h1⟩ := ret_l (T := tb B fi sub fu (k+3)) (ρ := [sh (lD nm), sh (rD b), none, none, none, none, none, none]) (e := .call 23 (.cons (.idx (.var 0) (.cI 0)) .nil)) (s := .nil) (cl (xs := [nD v0]) (evs1 ((ev_idx (x := lD nm) (y := nD 0) rfl rfl).trans (idx_ln hv0))) hk3)
    exact bindO (bindO (rn_if_t t h1) rfl) rfl
  have ta := t5 0
  rw [decide_eq_false hz] at ta
  by_cases hz1 : v1 % 5 = 1
  · have t := t5 1
    rw [decide_eq_true hz1] at t
    refine ⟨b, [], hbm, List.nil_sublist _, start _ (stepB (rn_if_n ta) ?_)⟩
    obtain ⟨ρ', h1⟩ := ret_l (T := tb B fi sub fu (k+3)) (s := .nil) (e0 [sh (lD nm), sh (rD b), none, none, none, none, none, none] rfl)
    exact bindO (bindO (rn_if_t t h1) rfl) rfl
  have tb1 := t5 1
  rw [decide_eq_false hz1] at tb1
  have hown := ev_lcfA (T := tb B fi sub fu (k+3)) (ρ := [sh (lD nm), sh (rD b), none, none, none, none, none, none]) (own := [7]) (tg := .n 7) (it := .r1 (.bi .len (.cons (.var 1) .nil))) (c := .cmp .eq (.idx (.var 1) (.var 7)) (.var 7)) (e := .var 7) (l := List.range b.length) (g := nD) (h := nD) (p := fun x => decide (bk b x = x)) (evIt_n (ev_bi (evs1 (x := rD b) rfl) (len_r b)) (by omega)) (by rw [List.length_range]; omega) fun x hx => by
    have hx := List.mem_range.mp hx
    exact ⟨[sh (lD nm), sh (rD b), none, none, none, none, none, sh (nD x)], rfl, evn_eq ((ev_idx rfl rfl).trans (bk_idx hx)) rfl, fun _ => rfl⟩
  generalize ho : (List.range b.length).filter (fun x => decide (bk b x = x)) = own at hown
  have hol : own.length ≤ 4 := by
    rw [← ho]
    have := List.length_filter_le (fun x => decide (bk b x = x)) (List.range b.length)
    rw [List.length_range] at this
    omega
  have te : ev (tb B fi sub fu (k+3)) (.cmp .eq (.var 2) (.lst .nil)) [sh (lD nm), sh (rD b), some (.f (.ol (own.map nD))), none, none, none, none, none] = .ok (.bl (decide (own = []))) := (ev_cmp (x := lD own) (y := lD []) rfl rfl).trans (leq own [])
  by_cases hoe : own = []
  · rw [decide_eq_true hoe] at te
    refine ⟨b, [], hbm, List.nil_sublist _, start _ (stepB (rn_if_n ta) (stepB (rn_if_n tb1) (stepB (rn_asl hown rfl rfl rfl) ?_)))⟩
    obtain ⟨ρ', h1⟩ := ret_l (T := tb B fi sub fu (k+3)) (s := .nil) (e0 [sh (lD nm), sh (rD b), some (.f (.ol (own.map nD))), none, none, none, none, none] rfl)
    exact bindO (bindO (rn_if_t te h1) rfl) rfl
  rw [decide_eq_false hoe] at te
  have hpos : 0 < own.length := List.length_pos_iff.mpr hoe
  obtain ⟨kp, hkp⟩ : ∃ kp, own[v2 % own.length]? = some kp := ⟨_, List.getElem?_eq_getElem (Nat.mod_lt _ hpos)⟩
  obtain ⟨ρ', h1, bs, hs, he⟩ := loopN (f := fun x ρ => (bindT (.n 6) x ρ).bind fun ρ => rns (tb B fi sub fu (k+3)) (.cons (.ife (.and (.cmp .notin (.var 3) (.idx (.var 5) (.var 6))) (.cmp .eq (.bin .mod (.bin .fdiv (.idx (.var 0) (.bin .add (.cI 3) (.bin .mod (.var 6) (.bin .sub (.bi .len (.cons (.var 0) .nil)) (.cI 3))))) (.bin .add (.cI 1) (.bin .fdiv (.var 6) (.cI 7)))) (.cI 2)) (.cI 1))) (.cons (.app 4 (.idx (.var 5) (.var 6))) .nil) .nil) .nil) ρ)
    (formsOf b).length (fun i ρ => ∃ bs, List.Sublist bs ((formsOf b).take i) ∧ ρ = KV nm b own kp bs (lvN none i)) (KV nm b own kp [] none) (fun i ρ hi ⟨bs, hs, e⟩ => by
      subst e
      have hmod := Nat.mod_lt i (show 0 < 27 by decide)
      obtain ⟨v, hv⟩ := hnm (3 + i % 27) (by omega)
      have hfi : ev (tb B fi sub fu (k+3)) (.idx (.var 5) (.var 6)) (KV nm b own kp bs (sh (nD i))) = .ok (rD (formsOf b)[i]) := (ev_idx (x := .lst ((formsOf b).map rD)) (y := nD i) rfl rfl).trans (idx_l (by rw [List.getElem?_map, List.getElem?_eq_getElem hi]; rfl))
      have hg : ev (tb B fi sub fu (k+3)) (.and (.cmp .notin (.var 3) (.idx (.var 5) (.var 6))) (.cmp .eq (.bin .mod (.bin .fdiv (.idx (.var 0) (.bin .add (.cI 3) (.bin .mod (.var 6) (.bin .sub (.bi .len (.cons (.var 0) .nil)) (.cI 3))))) (.bin .add (.cI 1) (.bin .fdiv (.var 6) (.cI 7)))) (.cI 2)) (.cI 1))) (KV nm b own kp bs (sh (nD i))) = .ok (.bl ((!decide (kp ∈ (formsOf b)[i])) && decide (v / (1 + i / 7) % 2 = 1))) := by
        refine evAnd ((ev_cmp rfl hfi).trans (nni_t _ _)) ?_
        refine evn_eq (x := v / (1 + i / 7) % 2) (y := 1) (evn_mod (y := 2) (evn_fdiv ?_ (evn_add (x := 1) rfl (evn_fdiv (x := i) (y := 7) rfl rfl (by omega) (by omega))) (by omega) (by omega)) rfl (by omega)) rfl
        refine (ev_idx (y := nD (3 + i % 27)) rfl (evn_add (x := 3) rfl (evn_mod (x := i) (y := 27) rfl ?_ (by omega)))).trans (idx_ln hv)
        have := evn_sub (T := tb B fi sub fu (k+3)) (ρ := KV nm b own kp bs (sh (nD i))) (e := .bi .len (.cons (.var 0) .nil)) (e' := .cI 3) (x := nm.length) (y := 3) (ev_bi (evs1 (x := lD nm) rfl) (len_ln nm)) rfl (by omega)
        rw [this, hl]
      have htk : (formsOf b).take (i + 1) = (formsOf b).take i ++ [(formsOf b)[i]] := (List.take_append_getElem hi).symm
      cases hc : ((!decide (kp ∈ (formsOf b)[i])) && decide (v / (1 + i / 7) % 2 = 1)) with
      | true =>
        rw [hc] at hg
        refine ⟨KV nm b own kp (bs ++ [(formsOf b)[i]]) (sh (nD i)), bindO (x := KV nm b own kp bs (sh (nD i))) rfl (stp (rn_if_t hg (stp ?_ rfl)) rfl), bs ++ [(formsOf b)[i]], by rw [htk]; exact hs.append (List.Sublist.refl _), rfl⟩
        unfold KV
        rw [List.map_append]
        refine rn_app rfl hfi rfl ?_
        rw [List.length_map]
        have h1 := hs.length_le
        rw [List.length_take] at h1
        exact line_of (by omega)
      | false =>
        rw [hc] at hg
        exact ⟨KV nm b own kp bs (sh (nD i)), bindO (x := KV nm b own kp bs (sh (nD i))) rfl (stp (rn_if_n hg) rfl), bs, by rw [htk]; exact hs.trans (List.sublist_append_left _ _), rfl⟩) ⟨[], List.nil_sublist _, rfl⟩
  subst he
  rw [List.take_length] at hs
  refine ⟨b, bs, hbm, hs, start _ (stepB (rn_if_n ta) (stepB (rn_if_n tb1) (stepB (rn_asl hown rfl rfl rfl) (stepB (rn_if_n te) ?_))))⟩
  refine stepB (ρ' := [sh (lD nm), sh (rD b), some (.f (.ol (own.map nD))), sh (nD kp), none, none, none, none]) (rn_asgF ((ev_idx (x := lD own) (y := nD (v2 % own.length)) rfl (evn_mod ((ev_idx (x := lD nm) (y := nD 2) rfl rfl).trans (idx_ln hv2)) (ev_bi (evs1 (x := lD own) rfl) (len_ln own)) hpos)).trans (idx_ln hkp)) rfl rfl rfl) ?_
  refine stepB (ρ' := [sh (lD nm), sh (rD b), some (.f (.ol (own.map nD))), sh (nD kp), some (.f (.ol [])), none, none, none]) rfl ?_
  refine stepB (ρ' := KV nm b own kp [] none) (rn_asg (cl (xs := [rD b]) rfl (c13 (k := k) h11 h12 h13 hb)) rfl rfl rfl) ?_
  refine stepB (rn_for (i := ((formsOf b).length : Nat)) (ev_bi (evs1 (x := .lst ((formsOf b).map rD)) rfl) (len_lr _)) (smallI_nat (by omega)) h1) ?_
  exact ret_b rfl fun _ => rfl
end PD.Core
end

section
set_option Elab.async false
set_option linter.all false
set_option maxRecDepth 100000
/-! PD, part 31: loops that say no at once, slices, sorted rows. -/
namespace PD.Core
open PySem PD PySem.W
/-- a loop that returns False at the first that is not so -/
theorem loopB {α : Type} {f : D → PD.Env → R Fl} {g : α → D} {p : α → Bool} {I : PD.Env → Prop} : ∀ (l : List α), (∀ a ∈ l, ∀ ρ, I ρ → (p a = true ∧ ∃ ρ', f (g a) ρ = .ok (.nx ρ') ∧ I ρ') ∨ (p a = false ∧ ∃ ρ', f (g a) ρ = .ok (.rt (.bl false) ρ'))) → ∀ ρ, I ρ →
    (l.all p = true ∧ ∃ ρ', loopF f (l.map g) ρ = .ok (.nx ρ') ∧ I ρ') ∨ (l.all p = false ∧ ∃ ρ', loopF f (l.map g) ρ = .ok (.rt (.bl false) ρ'))
  | [], _, ρ, hI => .inl ⟨rfl, ρ, rfl, hI⟩
  | a :: l, h, ρ, hI => by
    rcases h a List.mem_cons_self ρ hI with ⟨h1, ρ1, h2, h3⟩ | ⟨h1, ρ1, h2⟩
    · rcases loopB l (fun b hb => h b (List.mem_cons_of_mem _ hb)) ρ1 h3 with ⟨k1, ρ2, k2, k3⟩ | ⟨k1, ρ2, k2⟩
      · exact .inl ⟨by rw [List.all_cons, h1, k1]; rfl, ρ2, loopF_c h2 k2, k3⟩
      · exact .inr ⟨by rw [List.all_cons, k1, Bool.and_false], ρ2, loopF_c h2 k2⟩
    · exact .inr ⟨by rw [List.all_cons, h1]; rfl, ρ1, loopF_rt h2⟩
/-- its end: False, or what comes behind -/
theorem endB {T : Tab} {s : St} {r : Sts} {ρ : PD.Env} {b c : Bool} {g : Fl → R D} {I : PD.Env → Prop} (h : (b = true ∧ ∃ ρ', rn T s ρ = .ok (.nx ρ') ∧ I ρ') ∨ (b = false ∧ ∃ ρ', rn T s ρ = .ok (.rt (.bl false) ρ')))
    (k : ∀ ρ', I ρ' → (rns T r ρ').bind g = .ok (.bl c)) (hg : ∀ ρ', g (.rt (.bl false) ρ') = .ok (.bl false)) : (rns T (.cons s r) ρ).bind g = .ok (.bl (b && c)) := by
  rcases h with ⟨rfl, ρ', h1, h2⟩ | ⟨rfl, ρ', h1⟩
  · exact stepB h1 (k ρ' h2)
  · rw [show rns T (.cons s r) ρ = .ok (.rt (.bl false) ρ') from bindO h1 rfl]
    exact hg ρ'
theorem nni_l (a : Nat) (l : List Nat) : cmpD .notin (nD a) (lD l) = .ok (.bl (!decide (a ∈ l))) := by
  have := deep_n a
  rw [cmpD, any_n]; exact guardR_t (by rw [plains_n, decide_eq_true (by omega)]; rfl)
/-! slices -/
theorem smallO_n {a : Nat} (h : a ≤ 100000) : smallO (some (a : Int)) = true := smallI_nat h
theorem cut_lo (xs : List D) (a : Nat) (h : a ≤ xs.length) : cutL xs (some (a : Int)) none = xs.drop a := by
  have h1 : HT.sIx xs.length 0 (some (a : Int)) = a := by rw [HT.sIx_nat]; omega
  unfold cutL
  rw [h1, HT.sIx_none]
  exact List.take_of_length_le (by rw [List.length_drop]; omega)
theorem cut_hi (xs : List D) (a : Nat) (h : a ≤ xs.length) : cutL xs none (some (a : Int)) = xs.take a := by
  have h1 : HT.sIx xs.length xs.length (some (a : Int)) = a := by rw [HT.sIx_nat]; omega
  unfold cutL
  rw [h1, HT.sIx_none]
  rw [List.drop_zero, Nat.sub_zero]
section
variable {T : Tab} {ρ : PD.Env} {a b : Ex} {xs : List D} {n : Nat}
theorem ev_slL (ha : ev T a ρ = .ok (.tup xs)) (hb : ev T b ρ = .ok (nD n)) (h : n ≤ xs.length) (hx : xs.length ≤ 100000) : ev T (.slL a b) ρ = .ok (.tup (xs.drop n)) := by
  refine bindO ha (bindO hb (bindO (x := (n : Int)) rfl ?_))
  show guardR (smallO (some (n : Int)) && smallO none) (.ok (D.tup (cutL xs (some (n : Int)) none))) = _
  rw [cut_lo xs n h]
  exact guardR_t (by rw [smallO_n (by omega)]; rfl)
theorem ev_slU (ha : ev T a ρ = .ok (.tup xs)) (hb : ev T b ρ = .ok (nD n)) (h : n ≤ xs.length) (hx : xs.length ≤ 100000) : ev T (.slU a b) ρ = .ok (.tup (xs.take n)) := by
  refine bindO ha (bindO hb (bindO (x := (n : Int)) rfl ?_))
  show guardR (smallO none && smallO (some (n : Int))) (.ok (D.tup (cutL xs none (some (n : Int))))) = _
  rw [cut_hi xs n h]
  exact guardR_t (by rw [smallO_n (by omega)]; rfl)
theorem ev_addt {ys : List D} (ha : ev T a ρ = .ok (.tup xs)) (hb : ev T b ρ = .ok (.tup ys)) (h : xs.length + ys.length ≤ 100000) : ev T (.bin .add a b) ρ = .ok (.tup (xs ++ ys)) :=
  (ev_bin ha hb).trans (guardR_t (decide_eq_true (line_of h)))
theorem ev_addl {ys : List D} (ha : ev T a ρ = .ok (.lst xs)) (hb : ev T b ρ = .ok (.lst ys)) (h : xs.length + ys.length ≤ 100000) : ev T (.bin .add a b) ρ = .ok (.lst (xs ++ ys)) :=
  (ev_bin ha hb).trans (guardR_t (decide_eq_true (line_of h)))
theorem ev_u1 {x : D} (ha : ev T a ρ = .ok x) : ev T (.tup (.cons a .nil)) ρ = .ok (.tup [x]) := bindO (evs1 ha) rfl
theorem evn_max {x y : Nat} (ha : ev T a ρ = .ok (nD x)) (hb : ev T b ρ = .ok (nD y)) : ev T (.bi .max2 (.cons a (.cons b .nil))) ρ = .ok (nD (if y > x then y else x)) := by
  refine ev_bi (evsC ha (evs1 hb)) ?_
  show R.ok (D.int (if (y : Int) > (x : Int) then (y : Int) else (x : Int))) = _
  by_cases h : y > x
  · rw [if_pos h, if_pos (Int.ofNat_lt.mpr h)]
  · rw [if_neg h, if_neg (fun z => h (Int.ofNat_lt.mp z))]
end
/-! sorted rows -/
def sortR (l : List (List Nat)) : List (List Nat) := l.mergeSort fun x y => !ltR y x
theorem sorted_r (l : List (List Nat)) (h : ∀ x ∈ l, x ≠ []) : biD .sorted [.lst (l.map rD)] = .ok (.lst ((sortR l).map rD)) := by
  have ht : tups1 (l.map rD) = true := by
    unfold tups1
    rw [Bool.or_eq_true]
    refine .inl (List.all_eq_true.mpr fun x hx => ?_)
    obtain ⟨a, ha, rfl⟩ := List.mem_map.mp hx
    have := h a ha
    match a, this with
    | p :: a, _ => rfl
  show guardR (sortOk (l.map rD) && tups1 (l.map rD)) (R.ok (D.lst ((l.map rD).mergeSort (dataLe false toP)))) = _
  rw [guardR_t (by rw [sortOk_r, ht]; rfl)]
  unfold sortR
  rw [List.map_mergeSort (s := dataLe false toP)]
  intro a _ b _
  rw [dataLe_eq]
  show (!ltR b a) = (!dataLt (toP (rD b)) (toP (rD a)))
  rw [show dataLt (toP (rD b)) (toP (rD a)) = ltR b a from ltD_r b a]
/-- a tuple of rows and none -/
theorem ne_nil (l : List (List Nat)) : cmpD .ne (.tup (l.map rD)) (.tup []) = .ok (.bl (!decide (l = []))) := by
  have h1 : eqD (.tup (l.map rD)) (.tup []) = decide (l = []) := by
    cases l with
    | nil =>
      rw [decide_eq_true rfl]
      show PyData.eqv (.tuple []) (.tuple []) = true
      rw [PyData.eqv, PyData.eqvAll]
    | cons x l =>
      rw [decide_eq_false (by simp)]
      show PyData.eqv (.tuple (toP (rD x) :: toPs (l.map rD))) (.tuple []) = false
      rw [PyData.eqv, PyData.eqvAll]
      all_goals simp
  rw [cmpD, h1]
  refine guardR_t ?_
  unfold eqOk
  have : deep (.tup []) ≤ 1 := by decide
  rw [show plain (.tup (l.map rD)) = true from plains_r l, decide_eq_true (by omega)]; rfl
/-- are_below, _law_is_row of any row -/
theorem c22g {B : Nat → Option FnI} {fi : Nat → Str → Option Nat} {sub : Nat → Nat → Bool} {fu : Nat} (h15 : B 15 = some f15) (h22 : B 22 = some f22) {k m n : Nat} {a : List Nat} : callF B fi sub fu (k+2) 22 [rD a, nD m, nD n] = .ok (.bl (belowB a m n)) := by
  refine callF_run (f := f22) (ρ := [sh (rD a), sh (nD m), sh (nD n), none]) h22 rfl rfl ?_
  have hc : ev (tb B fi sub fu (k+1)) (.or (.not (.isi (.var 0) .tuple)) (.cmp .ne (.bi .len (.cons (.var 0) .nil)) (.var 1))) [sh (rD a), sh (nD m), sh (nD n), none] = .ok (.bl (!decide (a.length = m))) :=
    ev_or_f (evNot (k := true) rfl) ((ev_cmp (x := nD a.length) (y := nD m) (ev_bi (evs1 (x := rD a) rfl) (len_r a)) rfl).trans ((ne_i _ _).trans (by rw [show decide ((a.length : Int) = (m : Int)) = decide (a.length = m) from decide_eq_decide.mpr Int.ofNat_inj])))
  unfold belowB
  by_cases e : a.length = m
  · rw [decide_eq_true e] at hc ⊢
    refine stepB (rn_if_n hc) ?_
    have lp := loopB (f := fun x ρ => (bindT (.n 3) x ρ).bind fun ρ => rns (tb B fi sub fu (k+1)) (.cons (.ife (.or (.not (.call 15 (.cons (.var 3) .nil))) (.or (.cmp .lt (.var 3) (.cI 0)) (.cmp .ge (.var 3) (.var 2)))) (.cons (.ret (.cB false)) .nil) .nil) .nil) ρ) (g := nD) (p := fun x => decide (x < n)) (I := fun ρ => ∃ o, ρ = [sh (rD a), sh (nD m), sh (nD n), o]) a (fun x _ ρ ⟨o, e⟩ => by
      subst e
      have hx : ev (tb B fi sub fu (k+1)) (.or (.not (.call 15 (.cons (.var 3) .nil))) (.or (.cmp .lt (.var 3) (.cI 0)) (.cmp .ge (.var 3) (.var 2)))) [sh (rD a), sh (nD m), sh (nD n), sh (nD x)] = .ok (.bl (!decide (x < n))) := by
        refine ev_or_f (evNot (k := true) (cl (xs := [nD x]) rfl (c15 h15))) (ev_or_f ?_ ?_)
        · exact (ev_lt (i := (x : Int)) (j := 0) rfl rfl).trans (by rw [decide_eq_false (by omega)])
        · exact (ev_ge (i := (x : Int)) (j := (n : Int)) rfl rfl).trans (by rw [show decide ((x : Int) < (n : Int)) = decide (x < n) from decide_eq_decide.mpr Int.ofNat_lt])
      by_cases hl : x < n
      · rw [decide_eq_true hl] at hx ⊢
        exact .inl ⟨rfl, _, bindO (x := [sh (rD a), sh (nD m), sh (nD n), sh (nD x)]) rfl (stp (rn_if_n hx) rfl), _, rfl⟩
      · rw [decide_eq_false hl] at hx ⊢
        obtain ⟨ρ', h1⟩ := ret_l (T := tb B fi sub fu (k+1)) (ρ := [sh (rD a), sh (nD m), sh (nD n), sh (nD x)]) (e := .cB false) (s := .nil) rfl
        exact .inr ⟨rfl, ρ', bindO (x := [sh (rD a), sh (nD m), sh (nD n), sh (nD x)]) rfl (bindO (rn_if_t hx h1) rfl)⟩) [sh (rD a), sh (nD m), sh (nD n), none] ⟨_, rfl⟩
    have e2 := endB (T := tb B fi sub fu (k+1)) (s := .fr (.n 3) (.e (.var 0)) (.cons (.ife (.or (.not (.call 15 (.cons (.var 3) .nil))) (.or (.cmp .lt (.var 3) (.cI 0)) (.cmp .ge (.var 3) (.var 2)))) (.cons (.ret (.cB false)) .nil) .nil) .nil)) (r := .cons (.ret (.cB true)) .nil) (ρ := [sh (rD a), sh (nD m), sh (nD n), none]) (c := true) (g := f22.fin)
      (lp.imp (fun ⟨h1, ρ', h2, h3⟩ => ⟨h1, ρ', rn_fr (xs := a.map nD) rfl rfl h2, h3⟩) (fun ⟨h1, ρ', h2⟩ => ⟨h1, ρ', rn_fr (xs := a.map nD) rfl rfl h2⟩)) (fun ρ' _ => ret_b (d := .bl true) rfl fun _ => rfl) (fun _ => rfl)
    rw [Bool.and_true] at e2
    rw [Bool.true_and]
    exact e2
  · rw [decide_eq_false e] at hc ⊢
    obtain ⟨ρ', h1⟩ := ret_l (T := tb B fi sub fu (k+1)) (ρ := [sh (rD a), sh (nD m), sh (nD n), none]) (e := .cB false) (s := .nil) rfl
    exact bindO (bindO (rn_if_t hc h1) rfl) rfl
end PD.Core
end

section
set_option Elab.async false
set_option linter.all false
set_option maxRecDepth 100000
namespace K76
open PySem PD
-- _law_cell ['script', 'k']
def b0 : Sts := (.cons (.ife (.cmp .lt (.var 1) (.bi .len (.cons (.var 0) .nil))) (.cons (.ret (.idx (.var 0) (.var 1))) .nil) .nil) (.cons (.ret (.cI 0)) .nil))
def f0 : FnI := ⟨2, 2, none, b0⟩
-- _law_numbers ['script', 'at', 'many']
def b1 : Sts := (.cons (.asg (.n 3) (.bi .abs (.cons (.call 0 (.cons (.var 0) (.cons (.var 1) .nil))) .nil))) (.cons (.asg (.n 4) (.cmp .ge (.var 3) (.bin .pow (.cI 10) (.cI 18)))) (.cons (.asg (.n 5) (.lst .nil)) (.cons (.fr (.n 6) (.r1 (.var 2)) (.cons (.ife (.and (.var 4) (.cmp .eq (.var 3) (.cI 0))) (.cons (.asg (.n 4) (.cB false)) (.cons (.asg (.n 3) (.bin .add (.bi .abs (.cons (.call 0 (.cons (.var 0) (.cons (.bin .add (.var 1) (.cI 1)) .nil))) .nil)) (.var 6))) .nil)) .nil) (.cons (.ife (.var 4) (.cons (.app 5 (.bin .mod (.bi .intOf (.cons (.var 3) .nil)) (.cI 840))) (.cons (.asg (.n 3) (.bin .fdiv (.var 3) (.cI 840))) .nil)) (.cons (.asg (.n 3) (.bin .mod (.bi .intOf (.cons (.bin .add (.bin .add (.bin .mul (.var 3) (.cI 48271)) (.bin .mul (.cI 7) (.var 6))) (.cI 11)) .nil)) (.cI 2147483647))) (.cons (.app 5 (.bin .fdiv (.var 3) (.cI 13))) .nil))) .nil))) (.cons (.ret (.var 5)) .nil)))))
def f1 : FnI := ⟨3, 7, none, b1⟩
-- all_rows ['many', 'bound']
def b2 : Sts := (.cons (.asg (.n 2) (.lst (.cons (.tup .nil) .nil))) (.cons (.whl (.cmp .lt (.bi .len (.cons (.idx (.var 2) (.cI 0)) .nil)) (.var 0)) (.cons (.asg (.n 2) (.lc2 [3, 4] [4] (.n 3) (.e (.var 2)) .nil (.n 4) (.r1 (.var 1)) .nil (.bin .add (.var 3) (.tup (.cons (.var 4) .nil))))) .nil)) (.cons (.ret (.var 2)) .nil)))
def f2 : FnI := ⟨2, 5, none, b2⟩
-- is_whole ['thing']
def b3 : Sts := (.cons (.ret (.and (.isi (.var 0) .int) (.not (.isi (.var 0) .bool)))) .nil)
def f3 : FnI := ⟨1, 1, none, b3⟩
-- is_below ['thing', 'bound']
def b4 : Sts := (.cons (.ret (.and (.call 3 (.cons (.var 0) .nil)) (.cmp2 .le .lt (.cI 0) (.var 0) (.var 1)))) .nil)
def f4 : FnI := ⟨2, 2, none, b4⟩
-- is_back ['thing']
def b5 : Sts := (.cons (.ife (.or (.not (.isi (.var 0) .tuple)) (.not (.cmp2 .le .le (.cI 1) (.bi .len (.cons (.var 0) .nil)) (.gI "MOST_KINDS" 4)))) (.cons (.ret (.cB false)) .nil) .nil) (.cons (.ife (.not (.bi .all (.cons (.lc [1] (.n 1) (.e (.var 0)) .nil (.call 4 (.cons (.var 1) (.cons (.bi .len (.cons (.var 0) .nil)) .nil)))) .nil))) (.cons (.ret (.cB false)) .nil) .nil) (.cons (.ret (.bi .all (.cons (.lc [1] (.n 1) (.r1 (.bi .len (.cons (.var 0) .nil))) .nil (.cmp .eq (.idx (.var 0) (.idx (.var 0) (.var 1))) (.var 1))) .nil))) .nil)))
def f5 : FnI := ⟨1, 2, none, b5⟩
-- are_below ['thing', 'many', 'bound']
def b6 : Sts := (.cons (.ife (.or (.not (.isi (.var 0) .tuple)) (.cmp .ne (.bi .len (.cons (.var 0) .nil)) (.var 1))) (.cons (.ret (.cB false)) .nil) .nil) (.cons (.ret (.bi .all (.cons (.lc [3] (.n 3) (.e (.var 0)) .nil (.call 4 (.cons (.var 3) (.cons (.var 2) .nil)))) .nil))) .nil))
def f6 : FnI := ⟨3, 4, none, b6⟩
-- orders_of ['back', 'trio']
def b7 : Sts := (.cons (.asg (.t (.cons (.n 2) (.cons (.n 3) (.cons (.n 4) .nil)))) (.var 1)) (.cons (.ret (.lst (.cons (.tup (.cons (.var 2) (.cons (.var 3) (.cons (.var 4) .nil)))) (.cons (.tup (.cons (.idx (.var 0) (.var 2)) (.cons (.var 4) (.cons (.var 3) .nil)))) (.cons (.tup (.cons (.var 4) (.cons (.idx (.var 0) (.var 3)) (.cons (.var 2) .nil)))) (.cons (.tup (.cons (.idx (.var 0) (.var 3)) (.cons (.idx (.var 0) (.var 2)) (.cons (.idx (.var 0) (.var 4)) .nil)))) (.cons (.tup (.cons (.var 3) (.cons (.idx (.var 0) (.var 4)) (.cons (.idx (.var 0) (.var 2)) .nil)))) (.cons (.tup (.cons (.idx (.var 0) (.var 4)) (.cons (.var 2) (.cons (.idx (.var 0) (.var 3)) .nil)))) .nil)))))))) .nil))
def f7 : FnI := ⟨2, 5, none, b7⟩
-- are_barred ['back', 'thing']
def b8 : Sts := (.cons (.ife (.or (.not (.isi (.var 1) .tuple)) (.not (.bi .all (.cons (.lc [3] (.n 3) (.e (.var 1)) .nil (.call 6 (.cons (.var 3) (.cons (.cI 3) (.cons (.bi .len (.cons (.var 0) .nil)) .nil))))) .nil)))) (.cons (.ret (.cB false)) .nil) .nil) (.cons (.ife (.not (.bi .all (.cons (.lc [3] (.n 3) (.e (.var 1)) .nil (.cmp .eq (.var 3) (.bi .min1 (.cons (.call 7 (.cons (.var 0) (.cons (.var 3) .nil))) .nil)))) .nil))) (.cons (.ret (.cB false)) .nil) .nil) (.cons (.ret (.bi .all (.cons (.lc [2] (.n 2) (.r2 (.cI 1) (.bi .len (.cons (.var 1) .nil))) .nil (.cmp .lt (.idx (.var 1) (.bin .sub (.var 2) (.cI 1))) (.idx (.var 1) (.var 2)))) .nil))) .nil)))
def f8 : FnI := ⟨2, 4, none, b8⟩
-- Book.__init__ ['self', 'back', 'barred']
def b9 : Sts := (.cons (.ife (.not (.call 5 (.cons (.var 1) .nil))) (.cons .nev .nil) .nil) (.cons (.ife (.not (.call 8 (.cons (.var 1) (.cons (.var 2) .nil)))) (.cons .nev .nil) .nil) (.cons (.fset "back" (.var 1)) (.cons (.fset "barred" (.var 2)) (.cons (.fset "kinds" (.bi .len (.cons (.var 1) .nil))) (.cons (.fset "lets" (.newD true)) (.cons (.fset "known_knit" .cN) (.cons (.fr (.n 3) (.e (.call 2 (.cons (.cI 3) (.cons (.bi .len (.cons (.var 1) .nil)) .nil)))) (.cons (.ife (.cmp .notin (.bi .min1 (.cons (.call 7 (.cons (.var 1) (.cons (.var 3) .nil))) .nil)) (.var 2)) (.cons (.fsub "lets" (.var 3) (.cB true)) .nil) .nil) .nil)) .nil))))))))
def f9 : FnI := ⟨3, 4, some 0, b9⟩
-- _law_backs []
def b10 : Sts := (.cons (.asg (.n 0) (.lst (.cons (.tup (.cons (.cI 0) .nil)) (.cons (.tup (.cons (.cI 0) (.cons (.cI 1) .nil))) (.cons (.tup (.cons (.cI 1) (.cons (.cI 0) .nil))) (.cons (.tup (.cons (.cI 0) (.cons (.cI 1) (.cons (.cI 2) .nil)))) (.cons (.tup (.cons (.cI 1) (.cons (.cI 0) (.cons (.cI 2) .nil)))) (.cons (.tup (.cons (.cI 2) (.cons (.cI 1) (.cons (.cI 0) .nil)))) (.cons (.tup (.cons (.cI 0) (.cons (.cI 2) (.cons (.cI 1) .nil)))) (.cons (.tup (.cons (.cI 0) (.cons (.cI 1) (.cons (.cI 2) (.cons (.cI 3) .nil))))) (.cons (.tup (.cons (.cI 1) (.cons (.cI 0) (.cons (.cI 2) (.cons (.cI 3) .nil))))) .nil))))))))))) (.cons (.asg (.n 0) (.bin .add (.var 0) (.lst (.cons (.tup (.cons (.cI 2) (.cons (.cI 1) (.cons (.cI 0) (.cons (.cI 3) .nil))))) (.cons (.tup (.cons (.cI 3) (.cons (.cI 1) (.cons (.cI 2) (.cons (.cI 0) .nil))))) (.cons (.tup (.cons (.cI 0) (.cons (.cI 2) (.cons (.cI 1) (.cons (.cI 3) .nil))))) (.cons (.tup (.cons (.cI 0) (.cons (.cI 3) (.cons (.cI 2) (.cons (.cI 1) .nil))))) (.cons (.tup (.cons (.cI 0) (.cons (.cI 1) (.cons (.cI 3) (.cons (.cI 2) .nil))))) (.cons (.tup (.cons (.cI 1) (.cons (.cI 0) (.cons (.cI 3) (.cons (.cI 2) .nil))))) (.cons (.tup (.cons (.cI 2) (.cons (.cI 3) (.cons (.cI 0) (.cons (.cI 1) .nil))))) .nil)))))))))) (.cons (.ret (.bin .add (.var 0) (.lst (.cons (.tup (.cons (.cI 3) (.cons (.cI 2) (.cons (.cI 1) (.cons (.cI 0) .nil))))) .nil)))) .nil)))
def f10 : FnI := ⟨0, 1, none, b10⟩
-- _law_tellings ['back', 'p', 'q', 'r']
def b11 : Sts := (.cons (.asg (.n 4) (.lst (.cons (.tup (.cons (.var 1) (.cons (.var 2) (.cons (.var 3) .nil)))) (.cons (.tup (.cons (.idx (.var 0) (.var 1)) (.cons (.var 3) (.cons (.var 2) .nil)))) (.cons (.tup (.cons (.var 3) (.cons (.idx (.var 0) (.var 2)) (.cons (.var 1) .nil)))) (.cons (.tup (.cons (.idx (.var 0) (.var 2)) (.cons (.idx (.var 0) (.var 1)) (.cons (.idx (.var 0) (.var 3)) .nil)))) (.cons (.tup (.cons (.var 2) (.cons (.idx (.var 0) (.var 3)) (.cons (.idx (.var 0) (.var 1)) .nil)))) .nil))))))) (.cons (.ret (.bin .add (.var 4) (.lst (.cons (.tup (.cons (.idx (.var 0) (.var 3)) (.cons (.var 1) (.cons (.idx (.var 0) (.var 2)) .nil)))) .nil)))) .nil))
def f11 : FnI := ⟨4, 5, none, b11⟩
-- _law_form ['back', 'p', 'q', 'r']
def b12 : Sts := (.cons (.ret (.bi .min1 (.cons (.call 11 (.cons (.var 0) (.cons (.var 1) (.cons (.var 2) (.cons (.var 3) .nil))))) .nil))) .nil)
def f12 : FnI := ⟨4, 4, none, b12⟩
-- _law_forms ['back']
def b13 : Sts := (.cons (.asg (.n 1) (.lst .nil)) (.cons (.asg (.n 2) (.bi .len (.cons (.var 0) .nil))) (.cons (.fr (.n 3) (.r1 (.bin .mul (.bin .mul (.var 2) (.var 2)) (.var 2))) (.cons (.asg (.n 4) (.call 12 (.cons (.var 0) (.cons (.bin .fdiv (.var 3) (.bin .mul (.var 2) (.var 2))) (.cons (.bin .mod (.bin .fdiv (.var 3) (.var 2)) (.var 2)) (.cons (.bin .mod (.var 3) (.var 2)) .nil)))))) (.cons (.ife (.cmp .notin (.var 4) (.var 1)) (.cons (.app 1 (.var 4)) .nil) .nil) .nil))) (.cons (.ret (.bi .sorted (.cons (.var 1) .nil))) .nil))))
def f13 : FnI := ⟨1, 5, none, b13⟩
-- _law_any_book ['numbers']
def b14 : Sts := (.cons (.asg (.n 1) (.idx (.call 10 .nil) (.bin .mod (.idx (.var 0) (.cI 0)) (.cI 17)))) (.cons (.asg (.n 2) (.call 13 (.cons (.var 1) .nil))) (.cons (.asg (.n 3) (.lst .nil)) (.cons (.fr (.n 4) (.r1 (.bi .len (.cons (.var 2) .nil))) (.cons (.ife (.cmp .eq (.bin .mod (.bin .fdiv (.idx (.var 0) (.bin .add (.cI 1) (.bin .mod (.var 4) (.bin .sub (.bi .len (.cons (.var 0) .nil)) (.cI 1))))) (.bin .add (.cI 1) (.bin .fdiv (.var 4) (.cI 7)))) (.cI 3)) (.cI 1)) (.cons (.app 3 (.idx (.var 2) (.var 4))) .nil) .nil) .nil)) (.cons (.ret (.tup (.cons (.var 1) (.cons (.bi .tupleOf (.cons (.var 3) .nil)) .nil)))) .nil)))))
def f14 : FnI := ⟨1, 5, none, b14⟩
-- _law_is_number ['thing']
def b15 : Sts := (.cons (.ret (.and (.isi (.var 0) .int) (.not (.isi (.var 0) .bool)))) .nil)
def f15 : FnI := ⟨1, 1, none, b15⟩
-- _law_let ['back', 'barred', 'p', 'q', 'r']
def b16 : Sts := (.cons (.ret (.cmp .notin (.call 12 (.cons (.var 0) (.cons (.var 2) (.cons (.var 3) (.cons (.var 4) .nil))))) (.var 1))) .nil)
def f16 : FnI := ⟨5, 5, none, b16⟩
-- all_kinds ['book']
def b17 : Sts := (.cons (.ret (.tR (.r1 (.fld (.var 0) "kinds")))) .nil)
def f17 : FnI := ⟨1, 1, none, b17⟩
-- _law_is_row ['thing', 'many', 'bound']
def b22 : Sts := (.cons (.ife (.or (.not (.isi (.var 0) .tuple)) (.cmp .ne (.bi .len (.cons (.var 0) .nil)) (.var 1))) (.cons (.ret (.cB false)) .nil) .nil) (.cons (.fr (.n 3) (.e (.var 0)) (.cons (.ife (.or (.not (.call 15 (.cons (.var 3) .nil))) (.or (.cmp .lt (.var 3) (.cI 0)) (.cmp .ge (.var 3) (.var 2)))) (.cons (.ret (.cB false)) .nil) .nil) .nil)) (.cons (.ret (.cB true)) .nil)))
def f22 : FnI := ⟨3, 4, none, b22⟩
-- _law_known ['number']
def b23 : Sts := (.cons (.asg (.n 1) (.lst (.cons (.tup (.cons (.tup (.cons (.cI 1) (.cons (.cI 0) .nil))) (.cons (.tup (.cons (.tup (.cons (.cI 0) (.cons (.cI 0) (.cons (.cI 1) .nil)))) .nil)) .nil))) (.cons (.tup (.cons (.tup (.cons (.cI 0) (.cons (.cI 1) .nil))) (.cons (.tup (.cons (.tup (.cons (.cI 0) (.cons (.cI 0) (.cons (.cI 1) .nil)))) .nil)) .nil))) (.cons (.tup (.cons (.tup (.cons (.cI 0) (.cons (.cI 1) .nil))) (.cons (.tup (.cons (.tup (.cons (.cI 0) (.cons (.cI 0) (.cons (.cI 0) .nil)))) (.cons (.tup (.cons (.cI 0) (.cons (.cI 0) (.cons (.cI 1) .nil)))) .nil))) .nil))) (.cons (.tup (.cons (.tup (.cons (.cI 0) .nil)) (.cons (.tup (.cons (.tup (.cons (.cI 0) (.cons (.cI 0) (.cons (.cI 0) .nil)))) .nil)) .nil))) .nil)))))) (.cons (.asg (.n 1) (.bin .add (.var 1) (.lst (.cons (.tup (.cons (.tup (.cons (.cI 0) (.cons (.cI 1) .nil))) (.cons (.tup (.cons (.tup (.cons (.cI 0) (.cons (.cI 0) (.cons (.cI 1) .nil)))) (.cons (.tup (.cons (.cI 1) (.cons (.cI 1) (.cons (.cI 1) .nil)))) .nil))) .nil))) (.cons (.tup (.cons (.tup (.cons (.cI 0) (.cons (.cI 1) .nil))) (.cons (.tup (.cons (.tup (.cons (.cI 0) (.cons (.cI 0) (.cons (.cI 0) .nil)))) (.cons (.tup (.cons (.cI 0) (.cons (.cI 0) (.cons (.cI 1) .nil)))) (.cons (.tup (.cons (.cI 1) (.cons (.cI 1) (.cons (.cI 1) .nil)))) .nil)))) .nil))) .nil))))) (.cons (.asg (.n 1) (.bin .add (.var 1) (.lst (.cons (.tup (.cons (.tup (.cons (.cI 0) (.cons (.cI 1) .nil))) (.cons (.tup (.cons (.tup (.cons (.cI 0) (.cons (.cI 0) (.cons (.cI 0) .nil)))) .nil)) .nil))) .nil)))) (.cons (.ret (.idx (.var 1) (.bin .mod (.var 0) (.cI 7)))) .nil))))
def f23 : FnI := ⟨1, 2, none, b23⟩
-- _law_knit ['numbers']
def b24 : Sts := (.cons (.asg (.n 1) (.idx (.call 10 .nil) (.bin .mod (.idx (.var 0) (.cI 0)) (.cI 17)))) (.cons (.ife (.cmp .eq (.bin .mod (.idx (.var 0) (.cI 1)) (.cI 5)) (.cI 0)) (.cons (.ret (.call 23 (.cons (.idx (.var 0) (.cI 0)) .nil))) .nil) .nil) (.cons (.ife (.cmp .eq (.bin .mod (.idx (.var 0) (.cI 1)) (.cI 5)) (.cI 1)) (.cons (.ret (.tup (.cons (.var 1) (.cons (.tup .nil) .nil)))) .nil) .nil) (.cons (.asg (.n 2) (.lc [7] (.n 7) (.r1 (.bi .len (.cons (.var 1) .nil))) (.cons (.cmp .eq (.idx (.var 1) (.var 7)) (.var 7)) .nil) (.var 7))) (.cons (.ife (.cmp .eq (.var 2) (.lst .nil)) (.cons (.ret (.tup (.cons (.var 1) (.cons (.tup .nil) .nil)))) .nil) .nil) (.cons (.asg (.n 3) (.idx (.var 2) (.bin .mod (.idx (.var 0) (.cI 2)) (.bi .len (.cons (.var 2) .nil))))) (.cons (.asg (.n 4) (.lst .nil)) (.cons (.asg (.n 5) (.call 13 (.cons (.var 1) .nil))) (.cons (.fr (.n 6) (.r1 (.bi .len (.cons (.var 5) .nil))) (.cons (.ife (.and (.cmp .notin (.var 3) (.idx (.var 5) (.var 6))) (.cmp .eq (.bin .mod (.bin .fdiv (.idx (.var 0) (.bin .add (.cI 3) (.bin .mod (.var 6) (.bin .sub (.bi .len (.cons (.var 0) .nil)) (.cI 3))))) (.bin .add (.cI 1) (.bin .fdiv (.var 6) (.cI 7)))) (.cI 2)) (.cI 1))) (.cons (.app 4 (.idx (.var 5) (.var 6))) .nil) .nil) .nil)) (.cons (.ret (.tup (.cons (.var 1) (.cons (.bi .tupleOf (.cons (.var 4) .nil)) .nil)))) .nil))))))))))
def f24 : FnI := ⟨1, 8, none, b24⟩
-- _law_kind ['back', 'company', 'a', 'b']
def b25 : Sts := (.cons (.ife (.cmp .gt (.var 2) (.var 3)) (.cons (.ret (.idx (.idx (.var 1) (.var 2)) (.var 3))) .nil) .nil) (.cons (.ret (.idx (.var 0) (.idx (.idx (.var 1) (.var 3)) (.var 2)))) .nil))
def f25 : FnI := ⟨4, 4, none, b25⟩
-- _law_lets ['back', 'barred', 'company', 'told', 'person', 'kind']
def b26 : Sts := (.cons (.fr (.n 6) (.e (.var 3)) (.cons (.ife (.not (.call 16 (.cons (.var 0) (.cons (.var 1) (.cons (.idx (.var 6) (.cI 1)) (.cons (.call 25 (.cons (.var 0) (.cons (.var 2) (.cons (.idx (.var 6) (.cI 0)) (.cons (.var 4) .nil))))) (.cons (.var 5) .nil))))))) (.cons (.ret (.cB false)) .nil) .nil) .nil)) (.cons (.ret (.cB true)) .nil))
def f26 : FnI := ⟨6, 7, none, b26⟩
-- _law_row ['back', 'barred', 'company', 'numbers', 'at']
def b27 : Sts := (.cons (.asg (.n 5) (.lst .nil)) (.cons (.asg (.n 6) (.bi .len (.cons (.var 0) .nil))) (.cons (.fr (.n 7) (.r1 (.bi .len (.cons (.var 2) .nil))) (.cons (.asg (.n 8) (.cB false)) (.cons (.fr (.n 9) (.r1 (.var 6)) (.cons (.asg (.n 10) (.bin .mod (.bin .add (.idx (.var 3) (.bin .mod (.bin .add (.var 4) (.var 7)) (.bi .len (.cons (.var 3) .nil)))) (.var 9)) (.var 6))) (.cons (.ife (.and (.not (.var 8)) (.call 26 (.cons (.var 0) (.cons (.var 1) (.cons (.var 2) (.cons (.var 5) (.cons (.var 7) (.cons (.var 10) .nil)))))))) (.cons (.app 5 (.tup (.cons (.var 7) (.cons (.var 10) .nil)))) (.cons (.asg (.n 8) (.cB true)) .nil)) .nil) .nil))) (.cons (.ife (.not (.var 8)) (.cons (.ret .cN) .nil) .nil) .nil)))) (.cons (.ret (.bi .tupleOf (.cons (.lc [11] (.n 11) (.e (.var 5)) .nil (.idx (.var 11) (.cI 1))) .nil))) .nil))))
def f27 : FnI := ⟨5, 12, none, b27⟩
-- _law_company ['back', 'barred', 'numbers', 'many']
def b28 : Sts := (.cons (.asg (.n 4) (.tup .nil)) (.cons (.fr (.n 5) (.r1 (.var 3)) (.cons (.asg (.n 6) (.call 27 (.cons (.var 0) (.cons (.var 1) (.cons (.var 4) (.cons (.var 2) (.cons (.bin .mul (.cI 3) (.var 5)) .nil))))))) (.cons (.ife (.isN (.var 6)) (.cons (.ret (.var 4)) .nil) .nil) (.cons (.asg (.n 4) (.bin .add (.var 4) (.tup (.cons (.var 6) .nil)))) .nil)))) (.cons (.ret (.var 4)) .nil)))
def f28 : FnI := ⟨4, 7, none, b28⟩
-- is_company ['book', 'thing']
def b29 : Sts := (.cons (.ife (.not (.isi (.var 1) .tuple)) (.cons (.ret (.cB false)) .nil) .nil) (.cons (.ret (.bi .all (.cons (.lc [2, 3] (.t (.cons (.n 2) (.cons (.n 3) .nil))) (.en (.var 1)) .nil (.call 6 (.cons (.var 3) (.cons (.var 2) (.cons (.fld (.var 0) "kinds") .nil))))) .nil))) .nil))
def f29 : FnI := ⟨2, 4, none, b29⟩
-- choices_of ['things', 'many']
def b30 : Sts := (.cons (.asg (.n 2) (.lst (.cons (.tup (.cons (.tup .nil) (.cons (.cI 0) .nil))) .nil))) (.cons (.fr (.n 3) (.r1 (.var 1)) (.cons (.asg (.n 4) (.lst .nil)) (.cons (.fr (.t (.cons (.n 5) (.cons (.n 6) .nil))) (.e (.var 2)) (.cons (.ext 4 (.lc [7] (.n 7) (.r2 (.var 6) (.bin .add (.bin .add (.bin .sub (.bi .len (.cons (.var 0) .nil)) (.var 1)) (.var 3)) (.cI 1))) .nil (.tup (.cons (.bin .add (.var 5) (.tup (.cons (.idx (.var 0) (.var 7)) .nil))) (.cons (.bin .add (.var 7) (.cI 1)) .nil))))) .nil)) (.cons (.asg (.n 2) (.var 4)) .nil)))) (.cons (.ret (.lc [5, 6] (.t (.cons (.n 5) (.cons (.n 6) .nil))) (.e (.var 2)) .nil (.var 5))) .nil)))
def f30 : FnI := ⟨2, 8, none, b30⟩
-- kind_from ['book', 'company', 'a', 'b']
def b31 : Sts := (.cons (.ret (.ite (.cmp .lt (.var 3) (.var 2)) (.idx (.idx (.var 1) (.var 2)) (.var 3)) (.idx (.fld (.var 0) "back") (.idx (.idx (.var 1) (.var 3)) (.var 2))))) .nil)
def f31 : FnI := ⟨4, 4, none, b31⟩
-- is_let ['book', 'company', 'a', 'b', 'c']
def b32 : Sts := (.cons (.asg (.n 5) (.tup (.cons (.call 31 (.cons (.var 0) (.cons (.var 1) (.cons (.var 2) (.cons (.var 3) .nil))))) (.cons (.call 31 (.cons (.var 0) (.cons (.var 1) (.cons (.var 3) (.cons (.var 4) .nil))))) (.cons (.call 31 (.cons (.var 0) (.cons (.var 1) (.cons (.var 2) (.cons (.var 4) .nil))))) .nil))))) (.cons (.ret (.cmp .isin (.var 5) (.fld (.var 0) "lets"))) .nil))
def f32 : FnI := ⟨5, 6, none, b32⟩
-- broken_trios ['book', 'company']
def b33 : Sts := (.cons (.asg (.n 2) (.lst .nil)) (.cons (.fr (.t (.cons (.n 3) (.cons (.n 4) (.cons (.n 5) .nil)))) (.e (.call 30 (.cons (.lR (.r1 (.bi .len (.cons (.var 1) .nil)))) (.cons (.cI 3) .nil)))) (.cons (.ife (.not (.call 32 (.cons (.var 0) (.cons (.var 1) (.cons (.var 3) (.cons (.var 4) (.cons (.var 5) .nil))))))) (.cons (.app 2 (.tup (.cons (.var 3) (.cons (.var 4) (.cons (.var 5) .nil))))) .nil) .nil) .nil)) (.cons (.ret (.var 2)) .nil)))
def f33 : FnI := ⟨2, 6, none, b33⟩
-- is_lawful ['book', 'thing']
def b34 : Sts := (.cons (.ret (.and (.call 29 (.cons (.var 0) (.cons (.var 1) .nil))) (.not (.call 33 (.cons (.var 0) (.cons (.var 1) .nil)))))) .nil)
def f34 : FnI := ⟨2, 2, none, b34⟩
-- lawful_asked ['book', 'company']
def b35 : Sts := (.cons (.ife (.not (.call 34 (.cons (.var 0) (.cons (.var 1) .nil)))) (.cons (.rse 2 .nil) .nil) .nil) .nil)
def f35 : FnI := ⟨2, 2, none, b35⟩
-- lets_kind ['book', 'company', 'told', 'person', 'kind']
def b37 : Sts := (.cons (.frD (.n 5) 2 (.cons (.ife (.cmp .notin (.tup (.cons (.idx (.var 2) (.var 5)) (.cons (.call 31 (.cons (.var 0) (.cons (.var 1) (.cons (.var 5) (.cons (.var 3) .nil))))) (.cons (.var 4) .nil)))) (.fld (.var 0) "lets")) (.cons (.ret (.cB false)) .nil) .nil) .nil)) (.cons (.ret (.cB true)) .nil))
def f37 : FnI := ⟨5, 6, none, b37⟩
-- fulfilling ['book', 'company', 'lot', 'wish']
def b38 : Sts := (.cons (.asg (.n 4) (.lst .nil)) (.cons (.fr (.n 5) (.r1 (.bi .len (.cons (.var 1) .nil))) (.cons (.ife (.cmp .notin (.var 5) (.var 2)) (.cons (.asg (.n 6) (.bi .tupleOf (.cons (.lc [7] (.n 7) (.e (.var 2)) .nil (.call 31 (.cons (.var 0) (.cons (.var 1) (.cons (.var 5) (.cons (.var 7) .nil)))))) .nil))) (.cons (.ife (.cmp .eq (.var 6) (.var 3)) (.cons (.app 4 (.var 5)) .nil) .nil) .nil)) .nil) .nil)) (.cons (.ret (.var 4)) .nil)))
def f38 : FnI := ⟨4, 8, none, b38⟩
-- _law_kinds_to ['back', 'company', 'person', 'lot']
def b39 : Sts := (.cons (.ret (.bi .tupleOf (.cons (.lc [4] (.n 4) (.e (.var 3)) .nil (.call 25 (.cons (.var 0) (.cons (.var 1) (.cons (.var 2) (.cons (.var 4) .nil)))))) .nil))) .nil)
def f39 : FnI := ⟨4, 5, none, b39⟩
-- _law_fulfilling ['back', 'company', 'lot', 'wish']
def b40 : Sts := (.cons (.asg (.n 4) (.lst .nil)) (.cons (.fr (.n 5) (.r1 (.bi .len (.cons (.var 1) .nil))) (.cons (.ife (.and (.cmp .notin (.var 5) (.var 2)) (.cmp .eq (.call 39 (.cons (.var 0) (.cons (.var 1) (.cons (.var 5) (.cons (.var 2) .nil))))) (.var 3))) (.cons (.app 4 (.var 5)) .nil) .nil) .nil)) (.cons (.ret (.var 4)) .nil)))
def f40 : FnI := ⟨4, 6, none, b40⟩
-- _law_pairs ['lot', 'wish']
def b41 : Sts := (.cons (.ret (.lc [2] (.n 2) (.r1 (.bi .len (.cons (.var 0) .nil))) .nil (.tup (.cons (.idx (.var 0) (.var 2)) (.cons (.idx (.var 1) (.var 2)) .nil))))) .nil)
def f41 : FnI := ⟨2, 3, none, b41⟩
-- rows_over ['book', 'company', 'lot', 'kinds']
def b44 : Sts := (.cons (.asg (.n 4) (.lst (.cons (.tup .nil) .nil))) (.cons (.fr (.n 5) (.r1 (.bi .len (.cons (.var 2) .nil))) (.cons (.asg (.n 6) (.lst .nil)) (.cons (.fr (.n 7) (.e (.var 4)) (.cons (.asg (.n 8) (.dc [9] (.n 9) (.r1 (.var 5)) .nil (.idx (.var 2) (.var 9)) (.idx (.var 7) (.var 9)))) (.cons (.ext 6 (.lc [10] (.n 10) (.e (.var 3)) (.cons (.call 37 (.cons (.var 0) (.cons (.var 1) (.cons (.var 8) (.cons (.idx (.var 2) (.var 5)) (.cons (.var 10) .nil)))))) .nil) (.tup (.star (.var 7) (.cons (.var 10) .nil))))) .nil))) (.cons (.asg (.n 4) (.var 6)) .nil)))) (.cons (.ret (.var 4)) .nil)))
def f44 : FnI := ⟨4, 11, none, b44⟩
-- lots_by_size ['persons', 'many']
def b45 : Sts := (.cons (.ife (.cmp .eq (.var 1) (.cI 0)) (.cons (.ret (.lst (.cons (.tup .nil) .nil))) .nil) .nil) (.cons (.asg (.n 2) (.lst .nil)) (.cons (.fr (.n 3) (.r1 (.bin .add (.bin .sub (.bi .len (.cons (.var 0) .nil)) (.var 1)) (.cI 1))) (.cons (.ext 2 (.lc [4] (.n 4) (.e (.call 45 (.cons (.slL (.var 0) (.bin .add (.var 3) (.cI 1))) (.cons (.bin .sub (.var 1) (.cI 1)) .nil)))) .nil (.tup (.cons (.idx (.var 0) (.var 3)) (.star (.var 4) .nil))))) .nil)) (.cons (.ret (.var 2)) .nil))))
def f45 : FnI := ⟨2, 5, none, b45⟩
-- is_number ['thing', 'least', 'most']
def b46 : Sts := (.cons (.ret (.and (.call 3 (.cons (.var 0) .nil)) (.cmp2 .le .le (.var 1) (.var 0) (.var 2)))) .nil)
def f46 : FnI := ⟨3, 3, none, b46⟩
-- _law_rows_over ['back', 'barred', 'company', 'lot']
def b47 : Sts := (.cons (.asg (.n 4) (.lst (.cons (.tup .nil) .nil))) (.cons (.fr (.n 5) (.r1 (.bi .len (.cons (.var 3) .nil))) (.cons (.asg (.n 6) (.lst .nil)) (.cons (.fr (.n 7) (.e (.var 4)) (.cons (.fr (.n 8) (.r1 (.bi .len (.cons (.var 0) .nil))) (.cons (.ife (.call 26 (.cons (.var 0) (.cons (.var 1) (.cons (.var 2) (.cons (.call 41 (.cons (.slU (.var 3) (.var 5)) (.cons (.var 7) .nil))) (.cons (.idx (.var 3) (.var 5)) (.cons (.var 8) .nil))))))) (.cons (.app 6 (.bin .add (.var 7) (.tup (.cons (.var 8) .nil)))) .nil) .nil) .nil)) .nil)) (.cons (.asg (.n 4) (.var 6)) .nil)))) (.cons (.ret (.var 4)) .nil)))
def f47 : FnI := ⟨4, 9, none, b47⟩
-- _law_invited ['back', 'barred', 'company', 'asked']
def b48 : Sts := (.cons (.asg (.n 4) (.bi .listOf (.cons (.var 3) .nil))) (.cons (.asg (.n 5) (.lst .nil)) (.cons (.fr (.n 6) (.r1 (.bi .len (.cons (.var 2) .nil))) (.cons (.asg (.n 7) (.lc [9] (.n 9) (.e (.var 3)) (.cons (.cmp .eq (.idx (.var 9) (.cI 0)) (.var 6)) .nil) (.idx (.var 9) (.cI 1)))) (.cons (.fr (.n 8) (.r1 (.bi .len (.cons (.var 0) .nil))) (.cons (.ife (.and (.cmp .eq (.var 7) (.lst .nil)) (.call 26 (.cons (.var 0) (.cons (.var 1) (.cons (.var 2) (.cons (.var 4) (.cons (.var 6) (.cons (.var 8) .nil)))))))) (.cons (.asg (.n 7) (.lst (.cons (.var 8) .nil))) (.cons (.app 4 (.tup (.cons (.var 6) (.cons (.var 8) .nil)))) .nil)) .nil) .nil)) (.cons (.ife (.cmp .eq (.var 7) (.lst .nil)) (.cons (.ret .cN) .nil) .nil) (.cons (.app 5 (.idx (.var 7) (.cI 0))) .nil))))) (.cons (.ret (.bi .tupleOf (.cons (.var 5) .nil))) .nil))))
def f48 : FnI := ⟨4, 10, none, b48⟩
-- _law_lots ['many', 'size']
def b49 : Sts := (.cons (.asg (.n 2) (.lst (.cons (.tup .nil) .nil))) (.cons (.fr (.n 3) (.r1 (.var 1)) (.cons (.asg (.n 4) (.lst .nil)) (.cons (.fr (.n 5) (.e (.var 2)) (.cons (.asg (.n 6) (.cI 0)) (.cons (.ife (.cmp .ne (.var 5) (.tup .nil)) (.cons (.asg (.n 6) (.bin .add (.idx (.var 5) (.neg (.cI 1))) (.cI 1))) .nil) .nil) (.cons (.fr (.n 7) (.r2 (.var 6) (.var 0)) (.cons (.app 4 (.bin .add (.var 5) (.tup (.cons (.var 7) .nil)))) .nil)) .nil)))) (.cons (.asg (.n 2) (.var 4)) .nil)))) (.cons (.ret (.var 2)) .nil)))
def f49 : FnI := ⟨2, 8, none, b49⟩
-- _law_lack ['back', 'barred', 'company', 'm']
def b50 : Sts := (.cons (.fr (.n 4) (.r1 (.bin .add (.var 3) (.cI 1))) (.cons (.fr (.n 5) (.e (.call 49 (.cons (.bi .len (.cons (.var 2) .nil)) (.cons (.var 4) .nil)))) (.cons (.fr (.n 6) (.e (.call 47 (.cons (.var 0) (.cons (.var 1) (.cons (.var 2) (.cons (.var 5) .nil)))))) (.cons (.ife (.cmp .eq (.call 40 (.cons (.var 0) (.cons (.var 2) (.cons (.var 5) (.cons (.var 6) .nil))))) (.lst .nil)) (.cons (.ret (.tup (.cons (.var 5) (.cons (.var 6) .nil)))) .nil) .nil) .nil)) .nil)) .nil)) (.cons (.ret .cN) .nil))
def f50 : FnI := ⟨4, 7, none, b50⟩
-- first_lack ['book', 'company', 'm']
def b51 : Sts := (.cons (.fr (.n 3) (.r1 (.bin .add (.var 2) (.cI 1))) (.cons (.fr (.n 4) (.e (.call 45 (.cons (.tR (.r1 (.bi .len (.cons (.var 1) .nil)))) (.cons (.var 3) .nil)))) (.cons (.fr (.n 5) (.e (.call 44 (.cons (.var 0) (.cons (.var 1) (.cons (.var 4) (.cons (.call 17 (.cons (.var 0) .nil)) .nil)))))) (.cons (.ife (.not (.call 38 (.cons (.var 0) (.cons (.var 1) (.cons (.var 4) (.cons (.var 5) .nil)))))) (.cons (.ret (.tup (.cons (.var 4) (.cons (.var 5) .nil)))) .nil) .nil) .nil)) .nil)) .nil)) (.cons (.ret .cN) .nil))
def f51 : FnI := ⟨3, 6, none, b51⟩
-- lacking ['book', 'company', 'm']
def b52 : Sts := (.cons (.exp (.call 35 (.cons (.var 0) (.cons (.var 1) .nil)))) (.cons (.ife (.not (.call 46 (.cons (.var 2) (.cons (.cI 0) (.cons (.cI 4) .nil))))) (.cons (.rse 1 .nil) .nil) .nil) (.cons (.ret (.call 51 (.cons (.var 0) (.cons (.var 1) (.cons (.var 2) .nil))))) .nil)))
def f52 : FnI := ⟨3, 3, none, b52⟩
-- _law_refused ['book', 'company', 'm']
def b53 : Sts := (.cons (.tryA (.cons (.exp (.call 52 (.cons (.var 0) (.cons (.var 1) (.cons (.var 2) .nil))))) .nil) 1 3 (.cons (.ret (.isE 3 1000)) .nil)) (.cons (.ret (.cB false)) .nil))
def f53 : FnI := ⟨3, 4, none, b53⟩
-- law ['script']
def b54 : Sts := (.cons (.asg (.n 1) (.call 1 (.cons (.var 0) (.cons (.cI 0) (.cons (.cI 30) .nil))))) (.cons (.asg (.n 2) (.call 1 (.cons (.var 0) (.cons (.cI 2) (.cons (.cI 30) .nil))))) (.cons (.asg (.t (.cons (.n 3) (.cons (.n 4) .nil))) (.call 14 (.cons (.var 1) .nil))) (.cons (.ife (.cmp .eq (.bin .mod (.idx (.var 1) (.cI 5)) (.cI 2)) (.cI 0)) (.cons (.asg (.t (.cons (.n 3) (.cons (.n 4) .nil))) (.call 24 (.cons (.var 1) .nil))) .nil) .nil) (.cons (.asg (.n 5) (.mk 0 9 (.cons (.var 3) (.cons (.var 4) .nil)))) (.cons (.asg (.n 6) (.call 28 (.cons (.var 3) (.cons (.var 4) (.cons (.var 2) (.cons (.bin .mod (.bi .intOf (.cons (.idx (.var 1) (.cI 4)) .nil)) (.cI 7)) .nil)))))) (.cons (.asg (.n 7) (.bin .mod (.idx (.var 1) (.cI 6)) (.cI 4))) (.cons (.asg (.n 8) (.call 50 (.cons (.var 3) (.cons (.var 4) (.cons (.var 6) (.cons (.var 7) .nil)))))) (.cons (.asg (.n 9) (.call 52 (.cons (.var 5) (.cons (.var 6) (.cons (.var 7) .nil))))) (.cons (.ife (.isN (.var 8)) (.cons (.ife (.notN (.var 9)) (.cons (.ret (.cB false)) .nil) .nil) .nil) (.cons (.ife (.or (.not (.isi (.var 9) .tuple)) (.or (.cmp .ne (.bi .len (.cons (.var 9) .nil)) (.cI 2)) (.cmp .ne (.var 9) (.var 8)))) (.cons (.ret (.cB false)) .nil) .nil) (.cons (.ife (.not (.call 22 (.cons (.idx (.var 9) (.cI 0)) (.cons (.bi .len (.cons (.idx (.var 8) (.cI 0)) .nil)) (.cons (.bi .len (.cons (.var 6) .nil)) .nil))))) (.cons (.ret (.cB false)) .nil) .nil) (.cons (.ife (.not (.call 22 (.cons (.idx (.var 9) (.cI 1)) (.cons (.bi .len (.cons (.idx (.var 8) (.cI 0)) .nil)) (.cons (.bi .len (.cons (.var 3) .nil)) .nil))))) (.cons (.ret (.cB false)) .nil) .nil) (.cons (.asg (.n 10) (.call 48 (.cons (.var 3) (.cons (.var 4) (.cons (.var 6) (.cons (.call 41 (.cons (.idx (.var 8) (.cI 0)) (.cons (.idx (.var 8) (.cI 1)) .nil))) .nil)))))) (.cons (.ife (.notN (.var 10)) (.cons (.asg (.n 11) (.bin .add (.var 6) (.tup (.cons (.var 10) .nil)))) (.cons (.asg (.n 12) (.call 52 (.cons (.var 5) (.cons (.var 11) (.cons (.bi .len (.cons (.idx (.var 8) (.cI 0)) .nil)) .nil))))) (.cons (.ife (.or (.cmp .eq (.var 12) (.var 8)) (.cmp .ne (.var 12) (.call 50 (.cons (.var 3) (.cons (.var 4) (.cons (.var 11) (.cons (.bi .len (.cons (.idx (.var 8) (.cI 0)) .nil)) .nil))))))) (.cons (.ret (.cB false)) .nil) .nil) .nil))) .nil) .nil)))))) (.cons (.ret (.call 53 (.cons (.var 5) (.cons (.var 6) (.cons (.idx (.lst (.cons (.neg (.cI 1)) (.cons (.cI 5) (.cons (.cB true) (.cons (.cS "2") (.cons .cN .nil)))))) (.bin .mod (.idx (.var 1) (.cI 7)) (.cI 5))) .nil))))) .nil)))))))))))
def f54 : FnI := ⟨1, 13, none, b54⟩
def B : Nat → Option FnI
  | 0 => some f0
  | 1 => some f1
  | 2 => some f2
  | 3 => some f3
  | 4 => some f4
  | 5 => some f5
  | 6 => some f6
  | 7 => some f7
  | 8 => some f8
  | 9 => some f9
  | 10 => some f10
  | 11 => some f11
  | 12 => some f12
  | 13 => some f13
  | 14 => some f14
  | 15 => some f15
  | 16 => some f16
  | 17 => some f17
  | 22 => some f22
  | 23 => some f23
  | 24 => some f24
  | 25 => some f25
  | 26 => some f26
  | 27 => some f27
  | 28 => some f28
  | 29 => some f29
  | 30 => some f30
  | 31 => some f31
  | 32 => some f32
  | 33 => some f33
  | 34 => some f34
  | 35 => some f35
  | 37 => some f37
  | 38 => some f38
  | 39 => some f39
  | 40 => some f40
  | 41 => some f41
  | 44 => some f44
  | 45 => some f45
  | 46 => some f46
  | 47 => some f47
  | 48 => some f48
  | 49 => some f49
  | 50 => some f50
  | 51 => some f51
  | 52 => some f52
  | 53 => some f53
  | 54 => some f54
  | _ => none
def cfL : List (List Str) := [["back", "barred", "kinds", "lets", "known_knit"]]
def fi (c : Nat) (x : Str) : Option Nat := idxS ((cfL[c]?).getD []) x
def sub (a b : Nat) : Bool := a == b || (b == 0 || b == 1000)
def lawI : Nat := 54
end K76
end

section
set_option Elab.async false
set_option linter.all false
set_option maxRecDepth 100000
namespace K76
open PySem PD PD.Core
@[irreducible] def fu : Nat := 2 ^ 9000
abbrev Tb (k : Nat) : Tab := tb B fi sub fu k
theorem fu_ok : fu = (fu - 4) + 4 := by
  have : 4 ≤ fu := by unfold fu; decide
  omega
theorem hf : BkFi fi := fun _ => rfl
def co_ : CoB B fi 2 := ⟨hf, rfl, rfl, rfl, rfl, rfl, rfl, rfl, rfl, rfl, rfl⟩
def lw_ : LawB B := ⟨rfl, rfl, rfl, rfl, rfl, rfl⟩
/-! a lawful company lets all triples, in any order -/
def sixA (b : List Nat) : Bool := (tris b.length).all fun t => (match t with
  | [p, q, r] => decide (form3 b (bk b p) r q = form3 b p q r) && decide (form3 b r (bk b q) p = form3 b p q r)
  | _ => false)
theorem backs_sixA : backs.all sixA = true := by decide +kernel
section
variable {b : List Nat} {bs co : List (List Nat)} {x y z : Nat}
theorem sixA_ok (hm : b ∈ backs) {p q r : Nat} (hp : p < b.length) (hq : q < b.length) (hr : r < b.length) : form3 b (bk b p) r q = form3 b p q r ∧ form3 b r (bk b q) p = form3 b p q r := by
  have h := List.all_eq_true.mp (List.all_eq_true.mp backs_sixA b hm) _ (mem_tris hp hq hr)
  have h : (decide (form3 b (bk b p) r q = form3 b p q r) && decide (form3 b r (bk b q) p = form3 b p q r)) = true := h
  rw [Bool.and_eq_true, decide_eq_true_eq, decide_eq_true_eq] at h
  exact h
theorem kindP_back (hb : BackOk b) (h : Rows co b.length) (hx : x < co.length) (hy : y < co.length) (ne : x ≠ y) : kindP b co y x = bk b (kindP b co x y) := by
  unfold kindP
  by_cases hh : y < x
  · rw [if_neg (by omega), if_pos hh]
  · have hxy : x < y := by omega
    obtain ⟨_, _, _, h3⟩ := cel_ok h hy hxy
    rw [if_pos hxy, if_neg hh, hb.inv _ h3]
theorem swap1 (hm : b ∈ backs) (h : Rows co b.length) (hx : x < co.length) (hy : y < co.length) (hz : z < co.length) (n1 : x ≠ y) (n2 : y ≠ z) (n3 : x ≠ z) : letC b bs co y x z = letC b bs co x y z := by
  have hb := back_ok hm
  unfold letC
  rw [kindP_back hb h hx hy n1]
  unfold letB
  rw [show formR b [bk b (kindP b co x y), kindP b co x z, kindP b co y z] = formR b [kindP b co x y, kindP b co y z, kindP b co x z] from (sixA_ok hm (kindP_lt hb h hx hy n1) (kindP_lt hb h hy hz n2) (kindP_lt hb h hx hz n3)).1]
theorem swap2 (hm : b ∈ backs) (h : Rows co b.length) (hx : x < co.length) (hy : y < co.length) (hz : z < co.length) (n1 : x ≠ y) (n2 : y ≠ z) (n3 : x ≠ z) : letC b bs co x z y = letC b bs co x y z := by
  have hb := back_ok hm
  unfold letC
  rw [kindP_back hb h hy hz n2]
  unfold letB
  rw [show formR b [kindP b co x z, bk b (kindP b co y z), kindP b co x y] = formR b [kindP b co x y, kindP b co y z, kindP b co x z] from (sixA_ok hm (kindP_lt hb h hx hy n1) (kindP_lt hb h hy hz n2) (kindP_lt hb h hx hz n3)).2]
theorem let_any (hm : b ∈ backs) (h : Good b bs co) (hx : x < co.length) (hy : y < co.length) (hz : z < co.length) (n1 : x ≠ y) (n2 : y ≠ z) (n3 : x ≠ z) : letC b bs co x y z = true := by
  have hr := h.rows
  have hl := h.law
  by_cases a1 : x < y
  · by_cases a2 : y < z
    · exact hl x y z a1 a2 hz
    · by_cases a3 : x < z
      · rw [← swap2 hm hr hx hy hz n1 n2 n3]
        exact hl x z y a3 (by omega) hy
      · rw [← swap2 hm hr hx hy hz n1 n2 n3, ← swap1 hm hr hx hz hy n3 (Ne.symm n2) n1]
        exact hl z x y (by omega) a1 hy
  · by_cases a2 : x < z
    · rw [← swap1 hm hr hx hy hz n1 n2 n3]
      exact hl y x z (by omega) a2 hz
    · by_cases a3 : y < z
      · rw [← swap1 hm hr hx hy hz n1 n2 n3, ← swap2 hm hr hy hx hz (Ne.symm n1) n3 n2]
        exact hl y z x a3 (by omega) hx
      · rw [← swap2 hm hr hx hy hz n1 n2 n3, ← swap1 hm hr hx hz hy n3 (Ne.symm n2) n1, ← swap2 hm hr hz hx hy (Ne.symm n3) n1 (Ne.symm n2)]
        exact hl z y x (by omega) (by omega) hx
end
structure Lot (l : List Nat) (n : Nat) : Prop where
  up : l.Pairwise (· < ·)
  bel : ∀ x ∈ l, x < n
theorem Lot.at_ {l : List Nat} {n i j : Nat} (h : Lot l n) (hij : i < j) (hj : j < l.length) : l.getD i 0 < l.getD j 0 := by
  rw [Core.getD_at (by omega), Core.getD_at hj]
  exact (List.pairwise_iff_getElem.mp h.up) i j (by omega) hj hij
theorem Lot.below {l : List Nat} {n i : Nat} (h : Lot l n) (hi : i < l.length) : l.getD i 0 < n := by
  rw [Core.getD_at hi]; exact h.bel _ (List.getElem_mem hi)
/-! a wish over a lot -/
abbrev P2 := Nat × Nat
def dD (Q : List P2) : List (D × D) := Q.map fun p => (nD p.1, nD p.2)
theorem find_p {Q : List P2} {p : P2} (hn : (Q.map fun p => p.1).Nodup) (hp : p ∈ Q) : findK (dD Q) (nD p.1) = some (nD p.2) := by
  unfold findK dD
  induction Q with
  | nil => cases hp
  | cons q Q ih =>
    rw [List.map_cons, List.find?_cons, show eqD (nD q.1, nD q.2).1 (nD p.1) = decide (q.1 = p.1) from eqD_n q.1 p.1]
    rw [List.map_cons, List.nodup_cons] at hn
    rcases List.mem_cons.mp hp with rfl | hp
    · rw [decide_eq_true rfl]; rfl
    · have : q.1 ≠ p.1 := fun e => hn.1 (by rw [e]; exact List.mem_map.mpr ⟨p, hp, rfl⟩)
      rw [decide_eq_false this]
      exact ih hn.2 hp
theorem ni_lets {b : List Nat} {bs : List (List Nat)} {t : List Nat} (ht : t ∈ tris b.length) : cmpD .notin (rD t) (.dct true (letsL b bs)) = .ok (.bl (!letB b bs t)) := by
  have h := in_lets (bs := bs) ht
  have hk : keyOk true (rD t) = true := by
    show (true && (t.map nD).all isAtom) = true
    rw [Bool.true_and, List.all_eq_true]
    intro x hx
    obtain ⟨y, _, rfl⟩ := List.mem_map.mp hx
    rfl
  have h : guardR (keyOk true (rD t)) (R.ok (D.bl (findK (letsL b bs) (rD t)).isSome)) = .ok (.bl (letB b bs t)) := h
  show guardR (keyOk true (rD t)) (R.ok (D.bl (!(findK (letsL b bs) (rD t)).isSome))) = _
  rw [guardR_t hk] at h ⊢
  have h : (findK (letsL b bs) (rD t)).isSome = letB b bs t := by
    injection h with h
    injection h
  rw [h]
theorem rn_frD {T : Tab} {g : Tg} {j : Nat} {bd : Sts} {ρ : PD.Env} {kvs : List (D × D)} {f : Fl} (hs : slotE ρ j = some (.f (.sh (.dct false kvs)))) (h : loopF (fun x ρ => (bindT g x ρ).bind fun ρ => rns T bd ρ) (kvs.map Prod.fst) ρ = .ok f) : rn T (.frD g j bd) ρ = .ok f := by
  rw [rn, hs]
  show noExc _ = _
  rw [h]; rfl
section
variable {k : Nat} {b : List Nat} {bs co : List (List Nat)}
/-- the pairs let it -/
def letQ (b : List Nat) (bs co : List (List Nat)) (Q : List P2) (x c : Nat) : Bool := Q.all fun p => letB b bs [p.2, kindP b co p.1 x, c]
theorem fst_dD (Q : List P2) : (dD Q).map Prod.fst = Q.map fun p => nD p.1 := by unfold dD; rw [List.map_map]; rfl
theorem c37 (hb : BackOk b) (h : Rows co b.length) {Q : List P2} {x c : Nat} (hx : x < co.length) (hc : c < b.length) (hn : (Q.map fun p => p.1).Nodup) (hq : ∀ p ∈ Q, p.1 < co.length ∧ p.2 < b.length ∧ p.1 ≠ x) :
    callF B fi sub fu (k+2) 37 [bookD b bs, coD co, .dct false (dD Q), nD x, nD c] = .ok (.bl (letQ b bs co Q x c)) := by
  refine callF_run (f := f37) (ρ := [sh (bookD b bs), sh (coD co), sh (.dct false (dD Q)), sh (nD x), sh (nD c), none]) rfl rfl rfl ?_
  have loop := loopB (f := fun t ρ => (bindT (.n 5) t ρ).bind fun ρ => rns (Tb (k+1)) (.cons (.ife (.cmp .notin (.tup (.cons (.idx (.var 2) (.var 5)) (.cons (.call 31 (.cons (.var 0) (.cons (.var 1) (.cons (.var 5) (.cons (.var 3) .nil))))) (.cons (.var 4) .nil)))) (.fld (.var 0) "lets")) (.cons (.ret (.cB false)) .nil) .nil) .nil) ρ)
    (g := fun p => nD p.1) (p := fun p => letB b bs [p.2, kindP b co p.1 x, c]) (I := fun ρ => ∃ o, ρ = [sh (bookD b bs), sh (coD co), sh (.dct false (dD Q)), sh (nD x), sh (nD c), o]) Q (fun p hp ρ ⟨o, e⟩ => by
      subst e
      obtain ⟨h1, h2, h3⟩ := hq p hp
      have e1 : idxD (.dct false (dD Q)) (nD p.1) = .ok (nD p.2) := by
        show guardR (keyOk false (nD p.1)) (R.ofO (findK (dD Q) (nD p.1))) = _
        rw [find_p hn hp]; rfl
      have hg : ev (Tb (k+1)) (.cmp .notin (.tup (.cons (.idx (.var 2) (.var 5)) (.cons (.call 31 (.cons (.var 0) (.cons (.var 1) (.cons (.var 5) (.cons (.var 3) .nil))))) (.cons (.var 4) .nil)))) (.fld (.var 0) "lets")) [sh (bookD b bs), sh (coD co), sh (.dct false (dD Q)), sh (nD x), sh (nD c), sh (nD p.1)] = .ok (.bl (!letB b bs [p.2, kindP b co p.1 x, c])) :=
        (ev_cmp (ev_t3 ((ev_idx (x := .dct false (dD Q)) (y := nD p.1) rfl rfl).trans e1) (cl (xs := [bookD b bs, coD co, nD p.1, nD x]) rfl (c31 hf rfl h h1 hx h3)) rfl) (fld_lets hf rfl)).trans (ni_lets (mem_tris h2 (kindP_lt hb h h1 hx h3) hc))
      cases hz : letB b bs [p.2, kindP b co p.1 x, c] with
      | true =>
        rw [hz] at hg
        exact .inl ⟨rfl, [sh (bookD b bs), sh (coD co), sh (.dct false (dD Q)), sh (nD x), sh (nD c), sh (nD p.1)], bindO (x := [sh (bookD b bs), sh (coD co), sh (.dct false (dD Q)), sh (nD x), sh (nD c), sh (nD p.1)]) rfl (stp (rn_if_n hg) rfl), _, rfl⟩
      | false =>
        rw [hz] at hg
        obtain ⟨ρ', h1⟩ := ret_l (T := Tb (k+1)) (ρ := [sh (bookD b bs), sh (coD co), sh (.dct false (dD Q)), sh (nD x), sh (nD c), sh (nD p.1)]) (e := .cB false) (s := .nil) rfl
        exact .inr ⟨rfl, ρ', bindO (x := [sh (bookD b bs), sh (coD co), sh (.dct false (dD Q)), sh (nD x), sh (nD c), sh (nD p.1)]) rfl (bindO (rn_if_t hg h1) rfl)⟩) _ ⟨none, rfl⟩
  rw [show letQ b bs co Q x c = (Q.all (fun p => letB b bs [p.2, kindP b co p.1 x, c]) && true) by rw [Bool.and_true]; rfl]
  refine endB (I := fun ρ => ∃ o, ρ = [sh (bookD b bs), sh (coD co), sh (.dct false (dD Q)), sh (nD x), sh (nD c), o]) ?_ (fun ρ' ⟨o, e⟩ => by subst e; exact ret_b (d := .bl true) rfl fun _ => rfl) fun _ => rfl
  rcases loop with ⟨h1, ρ', h2, h3⟩ | ⟨h1, ρ', h2⟩
  · exact .inl ⟨h1, ρ', rn_frD rfl (by rw [fst_dD]; exact h2), h3⟩
  · exact .inr ⟨h1, ρ', rn_frD rfl (by rw [fst_dD]; exact h2)⟩
/-- who fulfils -/
def fulf (b : List Nat) (co : List (List Nat)) (lot w : List Nat) (n : Nat) : List Nat := (List.range n).filter fun x => !decide (x ∈ lot) && decide ((lot.map fun o => kindP b co x o) = w)
theorem fulf_succ (lot w : List Nat) (n : Nat) : fulf b co lot w (n + 1) = fulf b co lot w n ++ (if (!decide (n ∈ lot) && decide ((lot.map fun o => kindP b co n o) = w)) = true then [n] else []) := by
  unfold fulf
  rw [List.range_succ, List.filter_append, List.filter_cons]
  rfl
theorem fulf_len (lot w : List Nat) (n : Nat) : (fulf b co lot w n).length ≤ n := by
  have := List.length_filter_le (fun x => !decide (x ∈ lot) && decide ((lot.map fun o => kindP b co x o) = w)) (List.range n)
  rw [List.length_range] at this
  exact this
theorem c39 (h : Rows co b.length) {lot : List Nat} {x : Nat} (hl : Lot lot co.length) (hx : x < co.length) (hn : x ∉ lot) (hll : lot.length ≤ 1000) : callF B fi sub fu (k+2) 39 [rD b, coD co, nD x, rD lot] = .ok (rD (lot.map fun o => kindP b co x o)) := by
  refine callF_run (f := f39) (ρ := [sh (rD b), sh (coD co), sh (nD x), sh (rD lot), none]) rfl rfl rfl ?_
  have e := ev_lcA (T := Tb (k+1)) (ρ := [sh (rD b), sh (coD co), sh (nD x), sh (rD lot), none]) (own := [4]) (tg := .n 4) (it := .e (.var 3)) (e := .call 25 (.cons (.var 0) (.cons (.var 1) (.cons (.var 2) (.cons (.var 4) .nil))))) (l := lot) (g := nD) (h := fun o => nD (kindP b co x o)) rfl (by omega) fun o ho =>
    ⟨[sh (rD b), sh (coD co), sh (nD x), sh (rD lot), sh (nD o)], rfl, cl (xs := [rD b, coD co, nD x, nD o]) rfl (c25 rfl h hx (hl.bel o ho) (fun z => hn (z ▸ ho)))⟩
  refine ret_b (d := rD (lot.map fun o => kindP b co x o)) (ev_bi (evs1 e) ?_) fun _ => rfl
  show R.ok (D.tup (lot.map fun o => nD (kindP b co x o))) = R.ok (D.tup ((lot.map fun o => kindP b co x o).map nD))
  rw [List.map_map]; rfl
abbrev V38 (b : List Nat) (bs co : List (List Nat)) (lot w : List Nat) (n : Nat) (o5 o6 : Option OD) : PD.Env := [sh (bookD b bs), sh (coD co), sh (rD lot), sh (rD w), some (.f (.ol ((fulf b co lot w n).map nD))), o5, o6, none]
theorem c38 (h : Rows co b.length) {lot w : List Nat} (hl : Lot lot co.length) (hll : lot.length ≤ 1000) (hcl : co.length ≤ 1000) : callF B fi sub fu (k+2) 38 [bookD b bs, coD co, rD lot, rD w] = .ok (lD (fulf b co lot w co.length)) := by
  obtain ⟨ρ', h1, o5, o6, he⟩ := loopN (f := fun x ρ => (bindT (.n 5) x ρ).bind fun ρ => rns (Tb (k+1)) (.cons (.ife (.cmp .notin (.var 5) (.var 2)) (.cons (.asg (.n 6) (.bi .tupleOf (.cons (.lc [7] (.n 7) (.e (.var 2)) .nil (.call 31 (.cons (.var 0) (.cons (.var 1) (.cons (.var 5) (.cons (.var 7) .nil)))))) .nil))) (.cons (.ife (.cmp .eq (.var 6) (.var 3)) (.cons (.app 4 (.var 5)) .nil) .nil) .nil)) .nil) .nil) ρ)
    co.length (fun i ρ => ∃ o5 o6, ρ = V38 b bs co lot w i o5 o6) (V38 b bs co lot w 0 none none) (fun x ρ hx ⟨o5, o6, e⟩ => by
      subst e
      have hin : ev (Tb (k+1)) (.cmp .notin (.var 5) (.var 2)) (V38 b bs co lot w x (sh (nD x)) o6) = .ok (.bl (!decide (x ∈ lot))) := (ev_cmp rfl rfl).trans (nni_t _ _)
      by_cases hm : x ∈ lot
      · rw [decide_eq_true hm] at hin
        refine ⟨V38 b bs co lot w (x + 1) (sh (nD x)) o6, bindO (x := V38 b bs co lot w x (sh (nD x)) o6) rfl (stp (rn_if_n hin) ?_), _, _, rfl⟩
        unfold V38
        rw [show fulf b co lot w (x + 1) = fulf b co lot w x by rw [fulf_succ, decide_eq_true hm]; simp]
        rfl
      · rw [decide_eq_false hm] at hin
        have e := ev_lcA (T := Tb (k+1)) (ρ := V38 b bs co lot w x (sh (nD x)) o6) (own := [7]) (tg := .n 7) (it := .e (.var 2)) (e := .call 31 (.cons (.var 0) (.cons (.var 1) (.cons (.var 5) (.cons (.var 7) .nil))))) (l := lot) (g := nD) (h := fun o => nD (kindP b co x o)) rfl (by omega) fun o ho =>
          ⟨[sh (bookD b bs), sh (coD co), sh (rD lot), sh (rD w), some (.f (.ol ((fulf b co lot w x).map nD))), sh (nD x), o6, sh (nD o)], rfl, cl (xs := [bookD b bs, coD co, nD x, nD o]) rfl (c31 hf rfl h hx (hl.bel o ho) (fun z => hm (z ▸ ho)))⟩
        have e6 : ev (Tb (k+1)) (.bi .tupleOf (.cons (.lc [7] (.n 7) (.e (.var 2)) .nil (.call 31 (.cons (.var 0) (.cons (.var 1) (.cons (.var 5) (.cons (.var 7) .nil)))))) .nil)) (V38 b bs co lot w x (sh (nD x)) o6) = .ok (rD (lot.map fun o => kindP b co x o)) := by
          refine (ev_bi (evs1 e) rfl).trans ?_
          show R.ok (D.tup (lot.map fun o => nD (kindP b co x o))) = R.ok (D.tup ((lot.map fun o => kindP b co x o).map nD))
          rw [List.map_map]; rfl
        have heq : ev (Tb (k+1)) (.cmp .eq (.var 6) (.var 3)) (V38 b bs co lot w x (sh (nD x)) (sh (rD (lot.map fun o => kindP b co x o)))) = .ok (.bl (decide ((lot.map fun o => kindP b co x o) = w))) := (ev_cmp rfl rfl).trans (req _ _)
        by_cases hw : (lot.map fun o => kindP b co x o) = w
        · rw [decide_eq_true hw] at heq
          refine ⟨V38 b bs co lot w (x + 1) (sh (nD x)) (sh (rD (lot.map fun o => kindP b co x o))), bindO (x := V38 b bs co lot w x (sh (nD x)) o6) rfl (stp (rn_if_t hin (stp (rn_asgF e6 (froz_r _) rfl rfl) (stp (rn_if_t heq (stp ?_ rfl)) rfl))) rfl), _, _, rfl⟩
          unfold V38
          rw [show fulf b co lot w (x + 1) = fulf b co lot w x ++ [x] by rw [fulf_succ, decide_eq_false hm, decide_eq_true hw]; rfl, List.map_append]
          refine rn_app rfl rfl rfl ?_
          have := fulf_len (b := b) (co := co) lot w x
          rw [List.length_map]
          exact line_of (by omega)
        · rw [decide_eq_false hw] at heq
          refine ⟨V38 b bs co lot w (x + 1) (sh (nD x)) (sh (rD (lot.map fun o => kindP b co x o))), bindO (x := V38 b bs co lot w x (sh (nD x)) o6) rfl (stp (rn_if_t hin (stp (rn_asgF e6 (froz_r _) rfl rfl) (stp (rn_if_n heq) rfl))) ?_), _, _, rfl⟩
          unfold V38
          rw [show fulf b co lot w (x + 1) = fulf b co lot w x by rw [fulf_succ, decide_eq_false hw]; simp]
          rfl) ⟨none, none, rfl⟩
  subst he
  refine callF_run (f := f38) (ρ := [sh (bookD b bs), sh (coD co), sh (rD lot), sh (rD w), none, none, none, none]) rfl rfl rfl ?_
  refine stepB (ρ' := V38 b bs co lot w 0 none none) rfl ?_
  refine stepB (rn_for (i := (co.length : Int)) (ev_bi (evs1 (x := coD co) rfl) (len_co co)) (smallI_nat (by omega)) h1) ?_
  exact ret_b (d := lD (fulf b co lot w co.length)) rfl fun _ => rfl
abbrev V40 (b : List Nat) (co : List (List Nat)) (lot w : List Nat) (n : Nat) (o5 : Option OD) : PD.Env := [sh (rD b), sh (coD co), sh (rD lot), sh (rD w), some (.f (.ol ((fulf b co lot w n).map nD))), o5]
theorem c40 (h : Rows co b.length) {lot w : List Nat} (hl : Lot lot co.length) (hll : lot.length ≤ 1000) (hcl : co.length ≤ 1000) : callF B fi sub fu (k+3) 40 [rD b, coD co, rD lot, rD w] = .ok (lD (fulf b co lot w co.length)) := by
  obtain ⟨ρ', h1, o5, he⟩ := loopN (f := fun x ρ => (bindT (.n 5) x ρ).bind fun ρ => rns (Tb (k+2)) (.cons (.ife (.and (.cmp .notin (.var 5) (.var 2)) (.cmp .eq (.call 39 (.cons (.var 0) (.cons (.var 1) (.cons (.var 5) (.cons (.var 2) .nil))))) (.var 3))) (.cons (.app 4 (.var 5)) .nil) .nil) .nil) ρ)
    co.length (fun i ρ => ∃ o5, ρ = V40 b co lot w i o5) (V40 b co lot w 0 none) (fun x ρ hx ⟨o5, e⟩ => by
      subst e
      have hin : ev (Tb (k+2)) (.cmp .notin (.var 5) (.var 2)) (V40 b co lot w x (sh (nD x))) = .ok (.bl (!decide (x ∈ lot))) := (ev_cmp rfl rfl).trans (nni_t _ _)
      have hg : ev (Tb (k+2)) (.and (.cmp .notin (.var 5) (.var 2)) (.cmp .eq (.call 39 (.cons (.var 0) (.cons (.var 1) (.cons (.var 5) (.cons (.var 2) .nil))))) (.var 3))) (V40 b co lot w x (sh (nD x))) = .ok (.bl (!decide (x ∈ lot) && decide ((lot.map fun o => kindP b co x o) = w))) := by
        by_cases hm : x ∈ lot
        · rw [decide_eq_true hm] at hin ⊢
          exact ev_and_f hin
        · rw [decide_eq_false hm] at hin ⊢
          exact (ev_and_t hin ((ev_cmp (cl (xs := [rD b, coD co, nD x, rD lot]) rfl (c39 h hl hx hm hll)) rfl).trans (req _ _))).trans (by simp)
      cases hz : (!decide (x ∈ lot) && decide ((lot.map fun o => kindP b co x o) = w)) with
      | true =>
        rw [hz] at hg
        refine ⟨V40 b co lot w (x + 1) (sh (nD x)), bindO (x := V40 b co lot w x (sh (nD x))) rfl (stp (rn_if_t hg (stp ?_ rfl)) rfl), _, rfl⟩
        unfold V40
        rw [show fulf b co lot w (x + 1) = fulf b co lot w x ++ [x] by rw [fulf_succ, hz]; rfl, List.map_append]
        refine rn_app rfl rfl rfl ?_
        have := fulf_len (b := b) (co := co) lot w x
        rw [List.length_map]
        exact line_of (by omega)
      | false =>
        rw [hz] at hg
        refine ⟨V40 b co lot w (x + 1) (sh (nD x)), bindO (x := V40 b co lot w x (sh (nD x))) rfl (stp (rn_if_n hg) ?_), _, rfl⟩
        unfold V40
        rw [show fulf b co lot w (x + 1) = fulf b co lot w x by rw [fulf_succ, hz]; simp]
        rfl) ⟨none, rfl⟩
  subst he
  refine callF_run (f := f40) (ρ := [sh (rD b), sh (coD co), sh (rD lot), sh (rD w), none, none]) rfl rfl rfl ?_
  refine stepB (ρ' := V40 b co lot w 0 none) rfl ?_
  refine stepB (rn_for (i := (co.length : Int)) (ev_bi (evs1 (x := coD co) rfl) (len_co co)) (smallI_nat (by omega)) h1) ?_
  exact ret_b (d := lD (fulf b co lot w co.length)) rfl fun _ => rfl
end
end K76
end

section
set_option Elab.async false
set_option linter.all false
set_option maxRecDepth 100000
namespace K76
open PySem PD PD.Core
/-! lots -/
def lotsL (n : Nat) : Nat → List (List Nat)
  | 0 => [[]]
  | s + 1 => (lotsL n s).flatMap fun l => ((List.range n).filter fun x => l.all fun y => decide (y < x)).map fun x => l ++ [x]
theorem lots_ok {n : Nat} : ∀ {s : Nat} {l : List Nat}, l ∈ lotsL n s → l.length = s ∧ Lot l n
  | 0, l, h => by
    have h : l ∈ ([[]] : List (List Nat)) := h
    rw [List.mem_singleton] at h
    subst h
    exact ⟨rfl, .nil, fun x hx => nomatch hx⟩
  | s + 1, l, h => by
    obtain ⟨l', h1, h2⟩ := List.mem_flatMap.mp h
    obtain ⟨x, h3, rfl⟩ := List.mem_map.mp h2
    obtain ⟨h4, h5⟩ := List.mem_filter.mp h3
    obtain ⟨g1, g2⟩ := lots_ok h1
    rw [List.all_eq_true] at h5
    refine ⟨by rw [List.length_append, g1]; rfl, List.pairwise_append.mpr ⟨g2.up, List.pairwise_singleton _ _, fun a ha b hb => ?_⟩, fun y hy => ?_⟩
    · rw [List.mem_singleton] at hb
      subst hb
      exact of_decide_eq_true (h5 a ha)
    · rcases List.mem_append.mp hy with hy | hy
      · exact g2.bel y hy
      · rw [List.mem_singleton] at hy
        subst hy
        exact List.mem_range.mp h4
theorem ret_s {T : Tab} {s : St} {r : Sts} {ρ ρ' : PD.Env} {d : D} {g : Fl → R D} {X : R D} (h : rn T s ρ = .ok (.rt d ρ')) (h2 : g (.rt d ρ') = X) : (rns T (.cons s r) ρ).bind g = X := by
  show ((rn T s ρ).bind _).bind g = X
  rw [h]
  exact h2
def isL (r : R D) (d : D) : Bool := match r with
  | .ok x => beqD x d
  | _ => false
theorem isL_ok {r : R D} {d : D} (h : isL r d = true) : r = .ok d := by
  cases r with
  | ok x => exact congrArg R.ok (beqD_ok h)
  | exc x => exact absurd h Bool.false_ne_true
  | stk => exact absurd h Bool.false_ne_true
def lotsC (k : Nat) : Bool := (List.range 8).all fun n => (List.range 4).all fun s => isL (callF B fi sub fu (k+5) 45 [rD (List.range n), nD s]) (.lst ((lotsL n s).map rD)) && isL (callF B fi sub fu (k+5) 49 [nD n, nD s]) (.lst ((lotsL n s).map rD))
theorem lotsC_ok (k : Nat) : lotsC k = true := by kernel_rfl
theorem lots_c (k : Nat) {n s : Nat} (hn : n < 8) (hs : s < 4) : callF B fi sub fu (k+5) 45 [rD (List.range n), nD s] = .ok (.lst ((lotsL n s).map rD)) ∧ callF B fi sub fu (k+5) 49 [nD n, nD s] = .ok (.lst ((lotsL n s).map rD)) := by
  have h := List.all_eq_true.mp (List.all_eq_true.mp (lotsC_ok k) n (List.mem_range.mpr hn)) s (List.mem_range.mpr hs)
  rw [Bool.and_eq_true] at h
  exact ⟨isL_ok h.1, isL_ok h.2⟩
/-! rows over a lot -/
theorem loopX {α : Type} {f : D → PD.Env → R Fl} {g : α → D} {h : α → List (List Nat)} {V : List (List Nat) → PD.Env → Prop} {m N : Nat} : ∀ (l : List α) (acc : List (List Nat)) (ρ : PD.Env), (∀ a ∈ l, ∀ acc ρ, acc.length + (h a).length ≤ N → V acc ρ → ∃ ρ', f (g a) ρ = .ok (.nx ρ') ∧ V (acc ++ h a) ρ') → (∀ a ∈ l, (h a).length ≤ m) → acc.length + m * l.length ≤ N → V acc ρ →
    ∃ ρ', loopF f (l.map g) ρ = .ok (.nx ρ') ∧ V (acc ++ l.flatMap h) ρ'
  | [], acc, ρ, _, _, _, hV => ⟨ρ, rfl, by rw [List.flatMap_nil, List.append_nil]; exact hV⟩
  | a :: l, acc, ρ, hs, hm, hN, hV => by
    have ha := hm a List.mem_cons_self
    rw [List.length_cons, Nat.mul_succ] at hN
    obtain ⟨ρ1, h1, h2⟩ := hs a List.mem_cons_self acc ρ (by omega) hV
    obtain ⟨ρ2, h3, h4⟩ := loopX l (acc ++ h a) ρ1 (fun b hb => hs b (List.mem_cons_of_mem _ hb)) (fun b hb => hm b (List.mem_cons_of_mem _ hb)) (by rw [List.length_append]; omega) h2
    refine ⟨ρ2, loopF_c h1 h3, ?_⟩
    rw [List.flatMap_cons, ← List.append_assoc]
    exact h4
theorem flat_if {α β : Type} {p : α → Bool} {g : α → β} : ∀ l : List α, (l.flatMap fun c => if p c = true then [g c] else []) = (l.filter p).map g
  | [] => rfl
  | c :: l => by
    rw [List.flatMap_cons, flat_if l, List.filter_cons]
    cases p c <;> rfl
def prsQ (lot r : List Nat) (i : Nat) : List P2 := (List.range i).map fun j => (lot.getD j 0, r.getD j 0)
def toldQ (Q : List P2) : List (List Nat) := Q.map fun p => [p.1, p.2]
def extR (b : List Nat) (bs co : List (List Nat)) (lot : List Nat) (i : Nat) (r : List Nat) : List (List Nat) := ((List.range b.length).filter fun c => letQ b bs co (prsQ lot r i) (lot.getD i 0) c).map fun c => r ++ [c]
def rowsL (b : List Nat) (bs co : List (List Nat)) (lot : List Nat) : Nat → List (List Nat)
  | 0 => [[]]
  | i + 1 => (rowsL b bs co lot i).flatMap (extR b bs co lot i)
section
variable {k : Nat} {b : List Nat} {bs co : List (List Nat)}
theorem ext_len {lot r : List Nat} {i : Nat} : (extR b bs co lot i r).length ≤ b.length := by
  unfold extR
  rw [List.length_map]
  refine Nat.le_trans (List.length_filter_le _ _) ?_
  rw [List.length_range]
  exact Nat.le_refl _
theorem flat_len {α β : Type} {h : α → List β} {m : Nat} : ∀ l : List α, (∀ a ∈ l, (h a).length ≤ m) → (l.flatMap h).length ≤ m * l.length
  | [], _ => Nat.zero_le _
  | a :: l, hm => by
    have h1 := flat_len l fun b hb => hm b (List.mem_cons_of_mem _ hb)
    have h2 := hm a List.mem_cons_self
    rw [List.flatMap_cons, List.length_append, List.length_cons, Nat.mul_succ]
    omega
theorem rows_cnt (hb : b.length ≤ 4) {lot : List Nat} : ∀ i, (rowsL b bs co lot i).length ≤ 4 ^ i
  | 0 => Nat.le_refl _
  | i + 1 => by
    have h1 := rows_cnt hb (lot := lot) i
    have h2 := flat_len (h := extR b bs co lot i) (m := 4) (rowsL b bs co lot i) fun a _ => Nat.le_trans ext_len hb
    show ((rowsL b bs co lot i).flatMap (extR b bs co lot i)).length ≤ 4 ^ (i + 1)
    rw [Nat.pow_succ]
    omega
theorem rows_ok {lot : List Nat} : ∀ {i : Nat} {r : List Nat}, r ∈ rowsL b bs co lot i → r.length = i ∧ ∀ x ∈ r, x < b.length
  | 0, r, h => by
    have h : r ∈ ([[]] : List (List Nat)) := h
    rw [List.mem_singleton] at h
    subst h
    exact ⟨rfl, fun x hx => nomatch hx⟩
  | i + 1, r, h => by
    obtain ⟨r', h1, h2⟩ := List.mem_flatMap.mp h
    obtain ⟨c, h3, rfl⟩ := List.mem_map.mp h2
    obtain ⟨h4, h5⟩ := List.mem_filter.mp h3
    obtain ⟨g1, g2⟩ := rows_ok h1
    refine ⟨by rw [List.length_append, g1]; rfl, fun x hx => ?_⟩
    rcases List.mem_append.mp hx with hx | hx
    · exact g2 x hx
    · rw [List.mem_singleton] at hx
      subst hx
      exact List.mem_range.mp h4
theorem prs_bel {lot r : List Nat} {n i : Nat} (hl : Lot lot n) (hi : i < lot.length) (hr : r.length = i) (hrb : ∀ x ∈ r, x < b.length) : ∀ p ∈ prsQ lot r i, p.1 < n ∧ p.2 < b.length ∧ p.1 ≠ lot.getD i 0 := fun p hp => by
  obtain ⟨j, hj, rfl⟩ := List.mem_map.mp hp
  have hj := List.mem_range.mp hj
  refine ⟨hl.below (by omega), hrb _ ?_, Nat.ne_of_lt (hl.at_ hj hi)⟩
  show r.getD j 0 ∈ r
  rw [Core.getD_at (by omega)]
  exact List.getElem_mem _
theorem prs_nd {lot r : List Nat} {n i : Nat} (hl : Lot lot n) (hi : i ≤ lot.length) : ((prsQ lot r i).map fun p => p.1).Nodup := by
  unfold prsQ
  rw [List.map_map]
  refine List.pairwise_map.mpr ((List.pairwise_lt_range).imp_of_mem fun {a c} ha hc hac => ?_)
  have hc := List.mem_range.mp hc
  exact Nat.ne_of_lt (hl.at_ hac (by omega))
theorem prs_take {lot r : List Nat} {i : Nat} (hi : i ≤ lot.length) : prsQ (lot.take i) r i = prsQ lot r i := by
  unfold prsQ
  refine List.map_congr_left fun j hj => ?_
  have hj := List.mem_range.mp hj
  have e : (lot.take i).getD j 0 = lot.getD j 0 := by rw [Core.getD_at (l := lot.take i) (by rw [List.length_take]; omega), Core.getD_at (l := lot) (by omega), List.getElem_take]
  rw [e]
theorem lets_Q {Q : List P2} {x c : Nat} : letsP b bs co (toldQ Q) x c = letQ b bs co Q x c := by
  unfold letsP letQ toldQ
  rw [List.all_map]
  rfl
theorem c41 {lot w : List Nat} (hw : lot.length ≤ w.length) (hl : lot.length ≤ 1000) : callF B fi sub fu (k+1) 41 [rD lot, rD w] = .ok (.lst ((toldQ (prsQ lot w lot.length)).map rD)) := by
  refine callF_run (f := f41) (ρ := [sh (rD lot), sh (rD w), none]) rfl rfl rfl ?_
  have e := ev_lcA (T := Tb k) (ρ := [sh (rD lot), sh (rD w), none]) (own := [2]) (tg := .n 2) (it := .r1 (.bi .len (.cons (.var 0) .nil))) (e := .tup (.cons (.idx (.var 0) (.var 2)) (.cons (.idx (.var 1) (.var 2)) .nil))) (l := List.range lot.length) (g := nD) (h := fun j => rD [lot.getD j 0, w.getD j 0]) (evIt_n (ev_bi (evs1 (x := rD lot) rfl) (len_r lot)) (by omega)) (by rw [List.length_range]; omega) fun j hj => by
    have hj := List.mem_range.mp hj
    refine ⟨[sh (rD lot), sh (rD w), sh (nD j)], rfl, ev_t2 ?_ ?_⟩
    · exact (ev_idx (x := rD lot) (y := nD j) rfl rfl).trans (idx_r (by rw [Core.getD_at (by omega)]; exact List.getElem?_eq_getElem _))
    · exact (ev_idx (x := rD w) (y := nD j) rfl rfl).trans (idx_r (by rw [Core.getD_at (by omega)]; exact List.getElem?_eq_getElem _))
  refine ret_b (d := .lst ((toldQ (prsQ lot w lot.length)).map rD)) (e.trans ?_) fun _ => rfl
  unfold toldQ prsQ
  rw [List.map_map, List.map_map]
  rfl
abbrev E47 (b : List Nat) (bs co : List (List Nat)) (lot : List Nat) (o4 o5 : Option OD) (acc : List (List Nat)) (o7 o8 : Option OD) : PD.Env := [sh (rD b), sh (.tup (bs.map rD)), sh (coD co), sh (rD lot), o4, o5, some (.f (.ol (acc.map rD))), o7, o8]
theorem kinds47 (hb : BackOk b) (h : Rows co b.length) {lot r : List Nat} {i : Nat} (hl : Lot lot co.length) (hll : lot.length ≤ 1000) (hi : i < lot.length) (hr : r.length = i) (hrb : ∀ x ∈ r, x < b.length) (o4 o8 : Option OD) (acc : List (List Nat)) (hN : acc.length + b.length ≤ 5000) :
    ∃ o8', rn (Tb (k+4)) (.fr (.n 8) (.r1 (.bi .len (.cons (.var 0) .nil))) (.cons (.ife (.call 26 (.cons (.var 0) (.cons (.var 1) (.cons (.var 2) (.cons (.call 41 (.cons (.slU (.var 3) (.var 5)) (.cons (.var 7) .nil))) (.cons (.idx (.var 3) (.var 5)) (.cons (.var 8) .nil))))))) (.cons (.app 6 (.bin .add (.var 7) (.tup (.cons (.var 8) .nil)))) .nil) .nil) .nil)) (E47 b bs co lot o4 (sh (nD i)) acc (sh (rD r)) o8) = .ok (.nx (E47 b bs co lot o4 (sh (nD i)) (acc ++ extR b bs co lot i r) (sh (rD r)) o8')) := by
  obtain ⟨ρ', h1, o8', e⟩ := loopX (m := 1) (N := 5000) (f := fun x ρ => (bindT (.n 8) x ρ).bind fun ρ => rns (Tb (k+4)) (.cons (.ife (.call 26 (.cons (.var 0) (.cons (.var 1) (.cons (.var 2) (.cons (.call 41 (.cons (.slU (.var 3) (.var 5)) (.cons (.var 7) .nil))) (.cons (.idx (.var 3) (.var 5)) (.cons (.var 8) .nil))))))) (.cons (.app 6 (.bin .add (.var 7) (.tup (.cons (.var 8) .nil)))) .nil) .nil) .nil) ρ)
    (g := nD) (h := fun c => if letQ b bs co (prsQ lot r i) (lot.getD i 0) c = true then [r ++ [c]] else []) (V := fun acc ρ => ∃ o8, ρ = E47 b bs co lot o4 (sh (nD i)) acc (sh (rD r)) o8) (List.range b.length) acc _ (fun c hc acc ρ hN ⟨o8, e⟩ => by
      subst e
      have hc := List.mem_range.mp hc
      have e26 := c26 (B := B) (fi := fi) (sub := sub) (fu := fu) (k := k) (b := b) (bs := bs) (co := co) (told := toldQ (prsQ lot r i)) (x := lot.getD i 0) (c := c) rfl rfl rfl rfl rfl hb h (hl.below hi) hc fun t ht => by
        obtain ⟨p, hp, rfl⟩ := List.mem_map.mp ht
        obtain ⟨g1, g2, g3⟩ := prs_bel hl hi hr hrb p hp
        exact ⟨p.1, p.2, rfl, g1, g3, g2⟩
      rw [lets_Q] at e26
      have e41 := c41 (k := k+3) (lot := lot.take i) (w := r) (by rw [List.length_take]; omega) (by rw [List.length_take]; omega)
      rw [List.length_take, Nat.min_eq_left (by omega), prs_take (by omega)] at e41
      have esl : ev (Tb (k+4)) (.slU (.var 3) (.var 5)) (E47 b bs co lot o4 (sh (nD i)) acc (sh (rD r)) (sh (nD c))) = .ok (rD (lot.take i)) := by
        refine (ev_slU (xs := lot.map nD) (n := i) rfl rfl (by rw [List.length_map]; omega) (by rw [List.length_map]; omega)).trans ?_
        rw [← List.map_take]
      have hg : ev (Tb (k+4)) (.call 26 (.cons (.var 0) (.cons (.var 1) (.cons (.var 2) (.cons (.call 41 (.cons (.slU (.var 3) (.var 5)) (.cons (.var 7) .nil))) (.cons (.idx (.var 3) (.var 5)) (.cons (.var 8) .nil))))))) (E47 b bs co lot o4 (sh (nD i)) acc (sh (rD r)) (sh (nD c))) = .ok (.bl (letQ b bs co (prsQ lot r i) (lot.getD i 0) c)) :=
        cl (xs := [rD b, .tup (bs.map rD), coD co, .lst ((toldQ (prsQ lot r i)).map rD), nD (lot.getD i 0), nD c]) (evsC rfl (evsC rfl (evsC rfl (evsC (cl (xs := [rD (lot.take i), rD r]) (evsC esl rfl) e41) (evsC ((ev_idx (x := rD lot) (y := nD i) rfl rfl).trans (idx_r (by rw [Core.getD_at (by omega)]; exact List.getElem?_eq_getElem _))) rfl))))) e26
      cases hz : letQ b bs co (prsQ lot r i) (lot.getD i 0) c with
      | true =>
        rw [hz] at hg
        refine ⟨E47 b bs co lot o4 (sh (nD i)) (acc ++ [r ++ [c]]) (sh (rD r)) (sh (nD c)), bindO (x := E47 b bs co lot o4 (sh (nD i)) acc (sh (rD r)) (sh (nD c))) rfl (stp (rn_if_t hg (stp ?_ rfl)) rfl), _, rfl⟩
        unfold E47
        rw [List.map_append]
        refine rn_app rfl ?_ rfl ?_
        · refine (ev_addt (xs := r.map nD) (ys := [nD c]) rfl rfl (by rw [List.length_map]; show r.length + 1 ≤ _; omega)).trans ?_
          show R.ok (D.tup (r.map nD ++ [nD c])) = R.ok (D.tup ((r ++ [c]).map nD))
          rw [List.map_append]; rfl
        · rw [hz] at hN
          have hN : acc.length + 1 ≤ 5000 := hN
          rw [List.length_map]
          exact line_of (by omega)
      | false =>
        rw [hz] at hg
        refine ⟨E47 b bs co lot o4 (sh (nD i)) acc (sh (rD r)) (sh (nD c)), bindO (x := E47 b bs co lot o4 (sh (nD i)) acc (sh (rD r)) (sh (nD c))) rfl (stp (rn_if_n hg) rfl), sh (nD c), ?_⟩
        rw [if_neg Bool.false_ne_true, List.append_nil]) (fun c _ => by split <;> simp) (by rw [List.length_range]; omega) ⟨o8, rfl⟩
  refine ⟨o8', ?_⟩
  subst e
  rw [flat_if] at h1
  exact rn_fr (evIt_n (ev_bi (evs1 (x := rD b) rfl) (len_r b)) (by omega)) rfl h1
end
end K76
end

section
set_option Elab.async false
set_option linter.all false
set_option maxRecDepth 100000
namespace K76
open PySem PD PD.Core
section
variable {T : Tab} {ρ : PD.Env}
theorem rn_frU {g : Tg} {it : It} {bd : Sts} {xs : List D} {w : R Fl} (hi : evIt T it ρ = .ok xs) (h : loopF (fun x ρ => (bindT g x ρ).bind fun ρ => rns T bd ρ) xs (unown ρ (rootsI it)) = w) : rn T (.fr g it bd) ρ = w := bindO hi h
theorem rn_ext {i : Nat} {e : Ex} {ds xs : List D} (hs : slotE ρ i = some (.f (.ol ds))) (he : ev T e ρ = .ok (.lst xs)) (hu : unown ρ (roots e) = ρ) (hl : ds.length + xs.length ≤ line) : rn T (.ext i e) ρ = .ok (.nx (ρ.set i (some (.f (.ol (ds ++ xs)))))) := by
  have h1 : rn T (.ext i e) ρ = (ev T e ρ).bind fun x => (match x with
      | .lst xs => (appO (keepR ρ (roots e) x) i xs).bind fun ρ => R.ok (Fl.nx ρ)
      | _ => .stk) := by
    show (match slotE ρ i with
      | some (.f (.ol _)) => (ev T e ρ).bind fun x => (match x with
        | .lst xs => (appO (keepR ρ (roots e) x) i xs).bind fun ρ => R.ok (Fl.nx ρ)
        | _ => .stk)
      | _ => .stk) = _
    rw [hs]
  rw [h1, he]
  show (appO (keepR ρ (roots e) (.lst xs)) i xs).bind _ = _
  rw [show keepR ρ (roots e) (.lst xs) = ρ from hu]
  unfold appO
  rw [hs]
  exact bindO (guardR_t (decide_eq_true hl)) rfl
theorem ev_tstar {e : Ex} {r : Exs} {xs ys : List D} (ha : ev T e ρ = .ok (.tup ys)) (hb : evs T r ρ = .ok xs) (h : ys.length + xs.length ≤ 100000) : ev T (.tup (.star e r)) ρ = .ok (.tup (ys ++ xs)) :=
  bindO (bindO ha (bindO (x := ys) rfl (bindO hb rfl))) (guardR_t (decide_eq_true (by rw [List.length_append]; exact line_of h)))
end
section
variable {k : Nat} {b : List Nat} {bs co : List (List Nat)}
theorem c47 (hb : BackOk b) (h : Rows co b.length) {lot : List Nat} (hl : Lot lot co.length) (hll : lot.length ≤ 4) : callF B fi sub fu (k+5) 47 [rD b, .tup (bs.map rD), coD co, rD lot] = .ok (.lst ((rowsL b bs co lot lot.length).map rD)) := by
  obtain ⟨ρ', h1, x, o5, o6, o7, o8, he, hx⟩ := loopN (f := fun x ρ => (bindT (.n 5) x ρ).bind fun ρ => rns (Tb (k+4)) (.cons (.asg (.n 6) (.lst .nil)) (.cons (.fr (.n 7) (.e (.var 4)) (.cons (.fr (.n 8) (.r1 (.bi .len (.cons (.var 0) .nil))) (.cons (.ife (.call 26 (.cons (.var 0) (.cons (.var 1) (.cons (.var 2) (.cons (.call 41 (.cons (.slU (.var 3) (.var 5)) (.cons (.var 7) .nil))) (.cons (.idx (.var 3) (.var 5)) (.cons (.var 8) .nil))))))) (.cons (.app 6 (.bin .add (.var 7) (.tup (.cons (.var 8) .nil)))) .nil) .nil) .nil)) .nil)) (.cons (.asg (.n 4) (.var 6)) .nil))) ρ)
    lot.length (fun i ρ => ∃ x o5 o6 o7 o8, ρ = [sh (rD b), sh (.tup (bs.map rD)), sh (coD co), sh (rD lot), some (.f x), o5, o6, o7, o8] ∧ x.d = .lst ((rowsL b bs co lot i).map rD)) [sh (rD b), sh (.tup (bs.map rD)), sh (coD co), sh (rD lot), some (.f (.ol [rD []])), none, none, none, none] (fun i ρ hi ⟨x, o5, o6, o7, o8, e, hx⟩ => by
      subst e
      have hcnt : (rowsL b bs co lot i).length ≤ 4 ^ 4 := Nat.le_trans (rows_cnt hb.le i) (Nat.pow_le_pow_right (by decide) (by omega))
      have hcnt : (rowsL b bs co lot i).length ≤ 256 := hcnt
      obtain ⟨ρ1, h1, p7, p8, e1⟩ := loopX (m := 4) (N := 2000) (f := fun x ρ => (bindT (.n 7) x ρ).bind fun ρ => rns (Tb (k+4)) (.cons (.fr (.n 8) (.r1 (.bi .len (.cons (.var 0) .nil))) (.cons (.ife (.call 26 (.cons (.var 0) (.cons (.var 1) (.cons (.var 2) (.cons (.call 41 (.cons (.slU (.var 3) (.var 5)) (.cons (.var 7) .nil))) (.cons (.idx (.var 3) (.var 5)) (.cons (.var 8) .nil))))))) (.cons (.app 6 (.bin .add (.var 7) (.tup (.cons (.var 8) .nil)))) .nil) .nil) .nil)) .nil) ρ)
        (g := rD) (h := extR b bs co lot i) (V := fun acc ρ => ∃ o7 o8, ρ = E47 b bs co lot (sh (.lst ((rowsL b bs co lot i).map rD))) (sh (nD i)) acc o7 o8) (rowsL b bs co lot i) [] (E47 b bs co lot (sh (.lst ((rowsL b bs co lot i).map rD))) (sh (nD i)) [] o7 o8) (fun r hr acc ρ hN ⟨o7, o8, e⟩ => by
          subst e
          obtain ⟨g1, g2⟩ := rows_ok hr
          obtain ⟨o8', hk⟩ := kinds47 (k := k) (bs := bs) hb h hl (by omega) hi g1 g2 (sh (.lst ((rowsL b bs co lot i).map rD))) o8 acc (by have := hb.le; omega)
          exact ⟨_, bindO (x := E47 b bs co lot (sh (.lst ((rowsL b bs co lot i).map rD))) (sh (nD i)) acc (sh (rD r)) o8) rfl (stp hk rfl), _, _, rfl⟩) (fun r _ => Nat.le_trans ext_len hb.le) (by show 0 + 4 * (rowsL b bs co lot i).length ≤ 2000; omega) ⟨o7, o8, rfl⟩
      subst e1
      rw [List.nil_append] at h1
      refine ⟨[sh (rD b), sh (.tup (bs.map rD)), sh (coD co), sh (rD lot), sh (.lst ((rowsL b bs co lot (i + 1)).map rD)), sh (nD i), sh (.lst ((rowsL b bs co lot (i + 1)).map rD)), p7, p8], ?_, _, _, _, _, _, rfl, rfl⟩
      refine bindO (x := [sh (rD b), sh (.tup (bs.map rD)), sh (coD co), sh (rD lot), some (.f x), sh (nD i), o6, o7, o8]) rfl ?_
      refine stp (ρ' := E47 b bs co lot (some (.f x)) (sh (nD i)) [] o7 o8) rfl ?_
      refine stp (ρ' := E47 b bs co lot (sh (.lst ((rowsL b bs co lot i).map rD))) (sh (nD i)) ((rowsL b bs co lot i).flatMap (extR b bs co lot i)) p7 p8) (rn_frU (xs := (rowsL b bs co lot i).map rD) (evIt_e (x := x.d) rfl (by rw [hx]; rfl)) ?_) ?_
      · show loopF _ _ (E47 b bs co lot (sh x.d) (sh (nD i)) [] o7 o8) = _
        rw [hx]
        exact h1
      · exact stp rfl rfl) ⟨.ol [rD []], none, none, none, none, rfl, rfl⟩
  subst he
  refine callF_run (f := f47) (ρ := [sh (rD b), sh (.tup (bs.map rD)), sh (coD co), sh (rD lot), none, none, none, none, none]) rfl rfl rfl ?_
  refine stepB (ρ' := [sh (rD b), sh (.tup (bs.map rD)), sh (coD co), sh (rD lot), some (.f (.ol [rD []])), none, none, none, none]) rfl ?_
  refine stepB (rn_for (i := (lot.length : Int)) (ev_bi (evs1 (x := rD lot) rfl) (len_r lot)) (smallI_nat (by omega)) h1) ?_
  exact ret_b (d := .lst ((rowsL b bs co lot lot.length).map rD)) (congrArg R.ok hx) fun _ => rfl
/-! the program's -/
theorem dct_dD : ∀ (Q P : List P2), ((P ++ Q).map fun p => p.1).Nodup → (Q.map fun p => D.tup [nD p.1, nD p.2]).foldl putP (dD P) = dD (P ++ Q)
  | [], P, _ => by rw [List.append_nil]; rfl
  | q :: Q, P, hn => by
    have e : P ++ q :: Q = (P ++ [q]) ++ Q := by rw [List.append_assoc]; rfl
    rw [e] at hn ⊢
    rw [List.map_cons, List.foldl_cons]
    have e2 : putP (dD P) (.tup [nD q.1, nD q.2]) = dD (P ++ [q]) := by
      show PD.putK (dD P) (nD q.1) (nD q.2) = _
      rw [putK_new]
      · unfold dD
        rw [List.map_append]; rfl
      · rw [Bool.eq_false_iff]
        intro z
        obtain ⟨r, hr, hr2⟩ := List.any_eq_true.mp z
        obtain ⟨p, hp, rfl⟩ := List.mem_map.mp hr
        have hr2 : eqD (nD p.1) (nD q.1) = true := hr2
        rw [eqD_n, decide_eq_true_eq] at hr2
        rw [List.map_append, List.map_append] at hn
        have := (List.nodup_append.mp (List.nodup_append.mp hn).1).2.2
        exact this p.1 (List.mem_map.mpr ⟨p, hp, rfl⟩) q.1 (by simp) hr2
    rw [e2]
    exact dct_dD Q (P ++ [q]) hn
theorem ev_dcQ {T : Tab} {ρ : PD.Env} {own : List Nat} {tg : Tg} {it : It} {ke ve : Ex} {l : List Nat} {q : Nat → P2} (hi : evIt T it ρ = .ok (l.map nD)) (hl : l.length ≤ 100000) (hn : ((l.map q).map fun p => p.1).Nodup)
    (k : ∀ a ∈ l, ∃ ρx, bindT tg (nD a) (wipeE (unown ρ (rootsI it)) own) = .ok ρx ∧ ev T ke ρx = .ok (nD (q a).1) ∧ ev T ve ρx = .ok (nD (q a).2)) : ev T (.dc own tg it .nil ke ve) ρ = .ok (.dct false (dD (l.map q))) := by
  refine bindO hi (bindO (x := l.map fun a => D.tup [nD (q a).1, nD (q a).2]) (Eq.trans (congrArg noExc (collect_mapA (h := fun a => D.tup [nD (q a).1, nD (q a).2]) fun a ha => ?_)) rfl) ?_)
  · obtain ⟨ρx, h1, h2, h3⟩ := k a ha
    exact bindO h1 (bindO (x := true) rfl (bindO h2 (bindO h3 rfl)))
  · refine Eq.trans (guardR_t (decide_eq_true (by rw [List.length_map]; exact line_of hl))) ?_
    have := dct_dD (l.map q) [] hn
    rw [List.map_map, List.nil_append] at this
    exact congrArg (fun z => R.ok (D.dct false z)) this
abbrev E44 (b : List Nat) (bs co : List (List Nat)) (lot : List Nat) (o4 o5 : Option OD) (acc : List (List Nat)) (o7 o8 : Option OD) : PD.Env := [sh (bookD b bs), sh (coD co), sh (rD lot), sh (rD (List.range b.length)), o4, o5, some (.f (.ol (acc.map rD))), o7, o8, none, none]
theorem row44 (hb : BackOk b) (h : Rows co b.length) {lot r : List Nat} {i : Nat} (hl : Lot lot co.length) (hll : lot.length ≤ 1000) (hi : i < lot.length) (hr : r.length = i) (hrb : ∀ x ∈ r, x < b.length) (o4 o8 : Option OD) (acc : List (List Nat)) (hN : acc.length + b.length ≤ 5000) :
    ∃ o8', rns (Tb (k+2)) (.cons (.asg (.n 8) (.dc [9] (.n 9) (.r1 (.var 5)) .nil (.idx (.var 2) (.var 9)) (.idx (.var 7) (.var 9)))) (.cons (.ext 6 (.lc [10] (.n 10) (.e (.var 3)) (.cons (.call 37 (.cons (.var 0) (.cons (.var 1) (.cons (.var 8) (.cons (.idx (.var 2) (.var 5)) (.cons (.var 10) .nil)))))) .nil) (.tup (.star (.var 7) (.cons (.var 10) .nil))))) .nil)) (E44 b bs co lot o4 (sh (nD i)) acc (sh (rD r)) o8) = .ok (.nx (E44 b bs co lot o4 (sh (nD i)) (acc ++ extR b bs co lot i r) (sh (rD r)) o8')) := by
  have ed := ev_dcQ (T := Tb (k+2)) (ρ := E44 b bs co lot o4 (sh (nD i)) acc (sh (rD r)) o8) (own := [9]) (tg := .n 9) (it := .r1 (.var 5)) (ke := .idx (.var 2) (.var 9)) (ve := .idx (.var 7) (.var 9)) (l := List.range i) (q := fun j => (lot.getD j 0, r.getD j 0)) (evIt_n (n := i) rfl (by omega)) (by rw [List.length_range]; omega) (prs_nd (r := r) hl (by omega)) fun j hj => by
    have hj := List.mem_range.mp hj
    refine ⟨[sh (bookD b bs), sh (coD co), sh (rD lot), sh (rD (List.range b.length)), o4, sh (nD i), some (.f (.ol (acc.map rD))), sh (rD r), o8, sh (nD j), none], rfl, ?_, ?_⟩
    · exact (ev_idx (x := rD lot) (y := nD j) rfl rfl).trans (idx_r (by rw [Core.getD_at (by omega)]; exact List.getElem?_eq_getElem _))
    · exact (ev_idx (x := rD r) (y := nD j) rfl rfl).trans (idx_r (by show r[j]? = some (r.getD j 0); rw [Core.getD_at (by omega)]; exact List.getElem?_eq_getElem _))
  refine ⟨sh (.dct false (dD (prsQ lot r i))), stp (ρ' := E44 b bs co lot o4 (sh (nD i)) acc (sh (rD r)) (sh (.dct false (dD (prsQ lot r i))))) (rn_asg ed rfl rfl rfl) ?_⟩
  have el := ev_lcfA (T := Tb (k+2)) (ρ := E44 b bs co lot o4 (sh (nD i)) acc (sh (rD r)) (sh (.dct false (dD (prsQ lot r i))))) (own := [10]) (tg := .n 10) (it := .e (.var 3)) (c := .call 37 (.cons (.var 0) (.cons (.var 1) (.cons (.var 8) (.cons (.idx (.var 2) (.var 5)) (.cons (.var 10) .nil)))))) (e := .tup (.star (.var 7) (.cons (.var 10) .nil))) (l := List.range b.length) (g := nD) (h := fun c => rD (r ++ [c])) (p := fun c => letQ b bs co (prsQ lot r i) (lot.getD i 0) c) rfl (by rw [List.length_range]; have := hb.le; omega) fun c hc => by
    have hc := List.mem_range.mp hc
    refine ⟨[sh (bookD b bs), sh (coD co), sh (rD lot), sh (rD (List.range b.length)), o4, sh (nD i), some (.f (.ol (acc.map rD))), sh (rD r), sh (.dct false (dD (prsQ lot r i))), none, sh (nD c)], rfl, ?_, fun _ => ?_⟩
    · exact cl (xs := [bookD b bs, coD co, .dct false (dD (prsQ lot r i)), nD (lot.getD i 0), nD c]) (evsC rfl (evsC rfl (evsC rfl (evsC ((ev_idx (x := rD lot) (y := nD i) rfl rfl).trans (idx_r (by rw [Core.getD_at (by omega)]; exact List.getElem?_eq_getElem _))) rfl)))) (c37 hb h (hl.below hi) hc (prs_nd hl (by omega)) fun p hp => prs_bel hl hi hr hrb p hp)
    · refine (ev_tstar (ys := r.map nD) (xs := [nD c]) rfl rfl (by rw [List.length_map]; show r.length + 1 ≤ _; omega)).trans ?_
      show R.ok (D.tup (r.map nD ++ [nD c])) = R.ok (D.tup ((r ++ [c]).map nD))
      rw [List.map_append]; rfl
  have el2 : ((List.range b.length).filter fun c => letQ b bs co (prsQ lot r i) (lot.getD i 0) c).map (fun c => rD (r ++ [c])) = (extR b bs co lot i r).map rD := by
    unfold extR
    rw [List.map_map]
    rfl
  rw [el2] at el
  refine stp ?_ rfl
  unfold E44
  rw [List.map_append]
  refine rn_ext rfl el rfl ?_
  have := ext_len (b := b) (bs := bs) (co := co) (lot := lot) (i := i) (r := r)
  rw [List.length_map, List.length_map]
  exact line_of (by omega)
theorem c44 (hb : BackOk b) (h : Rows co b.length) {lot : List Nat} (hl : Lot lot co.length) (hll : lot.length ≤ 4) : callF B fi sub fu (k+3) 44 [bookD b bs, coD co, rD lot, rD (List.range b.length)] = .ok (.lst ((rowsL b bs co lot lot.length).map rD)) := by
  obtain ⟨ρ', h1, x, o5, o6, o7, o8, he, hx⟩ := loopN (f := fun x ρ => (bindT (.n 5) x ρ).bind fun ρ => rns (Tb (k+2)) (.cons (.asg (.n 6) (.lst .nil)) (.cons (.fr (.n 7) (.e (.var 4)) (.cons (.asg (.n 8) (.dc [9] (.n 9) (.r1 (.var 5)) .nil (.idx (.var 2) (.var 9)) (.idx (.var 7) (.var 9)))) (.cons (.ext 6 (.lc [10] (.n 10) (.e (.var 3)) (.cons (.call 37 (.cons (.var 0) (.cons (.var 1) (.cons (.var 8) (.cons (.idx (.var 2) (.var 5)) (.cons (.var 10) .nil)))))) .nil) (.tup (.star (.var 7) (.cons (.var 10) .nil))))) .nil))) (.cons (.asg (.n 4) (.var 6)) .nil))) ρ)
    lot.length (fun i ρ => ∃ x o5 o6 o7 o8, ρ = [sh (bookD b bs), sh (coD co), sh (rD lot), sh (rD (List.range b.length)), some (.f x), o5, o6, o7, o8, none, none] ∧ x.d = .lst ((rowsL b bs co lot i).map rD)) [sh (bookD b bs), sh (coD co), sh (rD lot), sh (rD (List.range b.length)), some (.f (.ol [rD []])), none, none, none, none, none, none] (fun i ρ hi ⟨x, o5, o6, o7, o8, e, hx⟩ => by
      subst e
      have hcnt : (rowsL b bs co lot i).length ≤ 4 ^ 4 := Nat.le_trans (rows_cnt hb.le i) (Nat.pow_le_pow_right (by decide) (by omega))
      have hcnt : (rowsL b bs co lot i).length ≤ 256 := hcnt
      obtain ⟨ρ1, h1, p7, p8, e1⟩ := loopX (m := 4) (N := 2000) (f := fun x ρ => (bindT (.n 7) x ρ).bind fun ρ => rns (Tb (k+2)) (.cons (.asg (.n 8) (.dc [9] (.n 9) (.r1 (.var 5)) .nil (.idx (.var 2) (.var 9)) (.idx (.var 7) (.var 9)))) (.cons (.ext 6 (.lc [10] (.n 10) (.e (.var 3)) (.cons (.call 37 (.cons (.var 0) (.cons (.var 1) (.cons (.var 8) (.cons (.idx (.var 2) (.var 5)) (.cons (.var 10) .nil)))))) .nil) (.tup (.star (.var 7) (.cons (.var 10) .nil))))) .nil)) ρ)
        (g := rD) (h := extR b bs co lot i) (V := fun acc ρ => ∃ o7 o8, ρ = E44 b bs co lot (sh (.lst ((rowsL b bs co lot i).map rD))) (sh (nD i)) acc o7 o8) (rowsL b bs co lot i) [] (E44 b bs co lot (sh (.lst ((rowsL b bs co lot i).map rD))) (sh (nD i)) [] o7 o8) (fun r hr acc ρ hN ⟨o7, o8, e⟩ => by
          subst e
          obtain ⟨g1, g2⟩ := rows_ok hr
          obtain ⟨o8', hk⟩ := row44 (k := k) (bs := bs) hb h hl (by omega) hi g1 g2 (sh (.lst ((rowsL b bs co lot i).map rD))) o8 acc (by have := hb.le; omega)
          exact ⟨_, bindO (x := E44 b bs co lot (sh (.lst ((rowsL b bs co lot i).map rD))) (sh (nD i)) acc (sh (rD r)) o8) rfl hk, _, _, rfl⟩) (fun r _ => Nat.le_trans ext_len hb.le) (by show 0 + 4 * (rowsL b bs co lot i).length ≤ 2000; omega) ⟨o7, o8, rfl⟩
      subst e1
      rw [List.nil_append] at h1
      refine ⟨[sh (bookD b bs), sh (coD co), sh (rD lot), sh (rD (List.range b.length)), sh (.lst ((rowsL b bs co lot (i + 1)).map rD)), sh (nD i), sh (.lst ((rowsL b bs co lot (i + 1)).map rD)), p7, p8, none, none], ?_, _, _, _, _, _, rfl, rfl⟩
      refine bindO (x := [sh (bookD b bs), sh (coD co), sh (rD lot), sh (rD (List.range b.length)), some (.f x), sh (nD i), o6, o7, o8, none, none]) rfl ?_
      refine stp (ρ' := E44 b bs co lot (some (.f x)) (sh (nD i)) [] o7 o8) rfl ?_
      refine stp (ρ' := E44 b bs co lot (sh (.lst ((rowsL b bs co lot i).map rD))) (sh (nD i)) ((rowsL b bs co lot i).flatMap (extR b bs co lot i)) p7 p8) (rn_frU (xs := (rowsL b bs co lot i).map rD) (evIt_e (x := x.d) rfl (by rw [hx]; rfl)) ?_) ?_
      · show loopF _ _ (E44 b bs co lot (sh x.d) (sh (nD i)) [] o7 o8) = _
        rw [hx]
        exact h1
      · exact stp rfl rfl) ⟨.ol [rD []], none, none, none, none, rfl, rfl⟩
  subst he
  refine callF_run (f := f44) (ρ := [sh (bookD b bs), sh (coD co), sh (rD lot), sh (rD (List.range b.length)), none, none, none, none, none, none, none]) rfl rfl rfl ?_
  refine stepB (ρ' := [sh (bookD b bs), sh (coD co), sh (rD lot), sh (rD (List.range b.length)), some (.f (.ol [rD []])), none, none, none, none, none, none]) rfl ?_
  refine stepB (rn_for (i := (lot.length : Int)) (ev_bi (evs1 (x := rD lot) rfl) (len_r lot)) (smallI_nat (by omega)) h1) ?_
  exact ret_b (d := .lst ((rowsL b bs co lot lot.length).map rD)) (congrArg R.ok hx) fun _ => rfl
end
end K76
end

section
set_option Elab.async false
set_option linter.all false
set_option maxRecDepth 100000
namespace K76
open PySem PD PD.Core
/-- a loop that returns at the first -/
theorem loopFi {α β : Type} {f : D → PD.Env → R Fl} {g : α → D} {h : α → List β} {q : β → Bool} {dr : β → D} {I : PD.Env → Prop} : ∀ l : List α, (∀ a ∈ l, ∀ ρ, I ρ → ((h a).find? q = none ∧ ∃ ρ', f (g a) ρ = .ok (.nx ρ') ∧ I ρ') ∨ ∃ y, (h a).find? q = some y ∧ ∃ ρ', f (g a) ρ = .ok (.rt (dr y) ρ')) → ∀ ρ, I ρ →
    ((l.flatMap h).find? q = none ∧ ∃ ρ', loopF f (l.map g) ρ = .ok (.nx ρ') ∧ I ρ') ∨ ∃ y, (l.flatMap h).find? q = some y ∧ ∃ ρ', loopF f (l.map g) ρ = .ok (.rt (dr y) ρ')
  | [], _, ρ, hI => .inl ⟨rfl, ρ, rfl, hI⟩
  | a :: l, hs, ρ, hI => by
    rw [List.flatMap_cons, List.find?_append]
    rcases hs a List.mem_cons_self ρ hI with ⟨h1, ρ1, h2, h3⟩ | ⟨y, h1, ρ1, h2⟩
    · rw [h1]
      rcases loopFi l (fun b hb => hs b (List.mem_cons_of_mem _ hb)) ρ1 h3 with ⟨k1, ρ2, k2, k3⟩ | ⟨y, k1, ρ2, k2⟩
      · exact .inl ⟨by rw [k1]; rfl, ρ2, loopF_c h2 k2, k3⟩
      · exact .inr ⟨y, by rw [k1]; rfl, ρ2, loopF_c h2 k2⟩
    · rw [h1]
      exact .inr ⟨y, rfl, ρ1, loopF_rt h2⟩
theorem rn_rt {T : Tab} {g : Tg} {it : It} {bd : Sts} {ρ : PD.Env} {xs : List D} {f : Fl} (hi : evIt T it ρ = .ok xs) (hu : unown ρ (rootsI it) = ρ) (h : loopF (fun x ρ => (bindT g x ρ).bind fun ρ => rns T bd ρ) xs ρ = .ok f) : rns T (.cons (.fr g it bd) .nil) ρ = .ok f := by
  show (rn T (.fr g it bd) ρ).bind _ = _
  rw [rn_fr hi hu h]
  cases f <;> rfl
theorem ev_notL {T : Tab} {ρ : PD.Env} {a : Ex} {l : List Nat} (h : ev T a ρ = .ok (lD l)) : ev T (.not a) ρ = .ok (.bl (decide (l = []))) := by
  refine bindO h ?_
  cases l with
  | nil => rfl
  | cons x l => rfl
abbrev PR := List Nat × List Nat
def prD (p : PR) : D := .tup [rD p.1, rD p.2]
section
variable {k : Nat} {b : List Nat} {bs co : List (List Nat)}
def opn (b : List Nat) (co : List (List Nat)) (p : PR) : Bool := decide (fulf b co p.1 p.2 co.length = [])
def lacksR (b : List Nat) (bs co : List (List Nat)) (m : Nat) : List PR := (List.range (m + 1)).flatMap fun s => (lotsL co.length s).flatMap fun lot => (rowsL b bs co lot lot.length).flatMap fun w => [(lot, w)]
def lackR (b : List Nat) (bs co : List (List Nat)) (m : Nat) : Option PR := (lacksR b bs co m).find? (opn b co)
def lackD : Option PR → D
  | none => .non
  | some p => prD p
/-- what lacks -/
theorem lack_ok {m : Nat} {p : PR} (h : lackR b bs co m = some p) : p.1.length ≤ m ∧ Lot p.1 co.length ∧ p.2 ∈ rowsL b bs co p.1 p.1.length ∧ fulf b co p.1 p.2 co.length = [] := by
  have h1 := List.mem_of_find?_eq_some h
  have h2 := List.find?_some h
  obtain ⟨s, hs, h1⟩ := List.mem_flatMap.mp h1
  obtain ⟨lot, hl, h1⟩ := List.mem_flatMap.mp h1
  obtain ⟨w, hw, h1⟩ := List.mem_flatMap.mp h1
  rw [List.mem_singleton] at h1
  subst h1
  obtain ⟨g1, g2⟩ := lots_ok hl
  have := List.mem_range.mp hs
  exact ⟨by show lot.length ≤ m; omega, g2, hw, of_decide_eq_true h2⟩
theorem c50 (hb : BackOk b) (h : Rows co b.length) (hn : co.length < 8) {m : Nat} (hm : m < 4) : callF B fi sub fu (k+6) 50 [rD b, .tup (bs.map rD), coD co, nD m] = .ok (lackD (lackR b bs co m)) := by
  refine callF_run (f := f50) (ρ := [sh (rD b), sh (.tup (bs.map rD)), sh (coD co), sh (nD m), none, none, none]) rfl rfl rfl ?_
  have loop := loopFi (q := opn b co) (dr := prD) (I := fun ρ => ∃ o4 o5 o6, ρ = [sh (rD b), sh (.tup (bs.map rD)), sh (coD co), sh (nD m), o4, o5, o6])
    (f := fun x ρ => (bindT (.n 4) x ρ).bind fun ρ => rns (Tb (k+5)) (.cons (.fr (.n 5) (.e (.call 49 (.cons (.bi .len (.cons (.var 2) .nil)) (.cons (.var 4) .nil)))) (.cons (.fr (.n 6) (.e (.call 47 (.cons (.var 0) (.cons (.var 1) (.cons (.var 2) (.cons (.var 5) .nil)))))) (.cons (.ife (.cmp .eq (.call 40 (.cons (.var 0) (.cons (.var 2) (.cons (.var 5) (.cons (.var 6) .nil))))) (.lst .nil)) (.cons (.ret (.tup (.cons (.var 5) (.cons (.var 6) .nil)))) .nil) .nil) .nil)) .nil)) .nil) ρ)
    (g := nD) (h := fun s => (lotsL co.length s).flatMap fun lot => (rowsL b bs co lot lot.length).flatMap fun w => [(lot, w)]) (List.range (m + 1)) (fun s hs ρ ⟨o4, o5, o6, e⟩ => by
      subst e
      have hs := List.mem_range.mp hs
      have l2 := loopFi (q := opn b co) (dr := prD) (I := fun ρ => ∃ o5 o6, ρ = [sh (rD b), sh (.tup (bs.map rD)), sh (coD co), sh (nD m), sh (nD s), o5, o6])
        (f := fun x ρ => (bindT (.n 5) x ρ).bind fun ρ => rns (Tb (k+5)) (.cons (.fr (.n 6) (.e (.call 47 (.cons (.var 0) (.cons (.var 1) (.cons (.var 2) (.cons (.var 5) .nil)))))) (.cons (.ife (.cmp .eq (.call 40 (.cons (.var 0) (.cons (.var 2) (.cons (.var 5) (.cons (.var 6) .nil))))) (.lst .nil)) (.cons (.ret (.tup (.cons (.var 5) (.cons (.var 6) .nil)))) .nil) .nil) .nil)) .nil) ρ)
        (g := rD) (h := fun lot => (rowsL b bs co lot lot.length).flatMap fun w => [(lot, w)]) (lotsL co.length s) (fun lot hlot ρ ⟨o5, o6, e⟩ => by
          subst e
          obtain ⟨g1, g2⟩ := lots_ok hlot
          have l3 := loopFi (q := opn b co) (dr := prD) (I := fun ρ => ∃ o6, ρ = [sh (rD b), sh (.tup (bs.map rD)), sh (coD co), sh (nD m), sh (nD s), sh (rD lot), o6])
            (f := fun x ρ => (bindT (.n 6) x ρ).bind fun ρ => rns (Tb (k+5)) (.cons (.ife (.cmp .eq (.call 40 (.cons (.var 0) (.cons (.var 2) (.cons (.var 5) (.cons (.var 6) .nil))))) (.lst .nil)) (.cons (.ret (.tup (.cons (.var 5) (.cons (.var 6) .nil)))) .nil) .nil) .nil) ρ)
            (g := rD) (h := fun w => [(lot, w)]) (rowsL b bs co lot lot.length) (fun w hw ρ ⟨o6, e⟩ => by
              subst e
              have hc : ev (Tb (k+5)) (.cmp .eq (.call 40 (.cons (.var 0) (.cons (.var 2) (.cons (.var 5) (.cons (.var 6) .nil))))) (.lst .nil)) [sh (rD b), sh (.tup (bs.map rD)), sh (coD co), sh (nD m), sh (nD s), sh (rD lot), sh (rD w)] = .ok (.bl (opn b co (lot, w))) :=
                (ev_cmp (y := lD []) (cl (xs := [rD b, coD co, rD lot, rD w]) rfl (c40 (k := k+2) h g2 (by omega) (by omega))) rfl).trans (leq _ _)
              cases hz : opn b co (lot, w) with
              | true =>
                rw [hz] at hc
                obtain ⟨ρ', hr⟩ := ret_l (T := Tb (k+5)) (ρ := [sh (rD b), sh (.tup (bs.map rD)), sh (coD co), sh (nD m), sh (nD s), sh (rD lot), sh (rD w)]) (e := .tup (.cons (.var 5) (.cons (.var 6) .nil))) (d := prD (lot, w)) (s := .nil) rfl
                exact .inr ⟨(lot, w), by rw [List.find?_cons, hz], ρ', bindO (x := [sh (rD b), sh (.tup (bs.map rD)), sh (coD co), sh (nD m), sh (nD s), sh (rD lot), sh (rD w)]) rfl (bindO (rn_if_t hc hr) rfl)⟩
              | false =>
                rw [hz] at hc
                exact .inl ⟨by rw [List.find?_cons, hz]; rfl, _, bindO (x := [sh (rD b), sh (.tup (bs.map rD)), sh (coD co), sh (nD m), sh (nD s), sh (rD lot), sh (rD w)]) rfl (stp (rn_if_n hc) rfl), _, rfl⟩) [sh (rD b), sh (.tup (bs.map rD)), sh (coD co), sh (nD m), sh (nD s), sh (rD lot), o6] ⟨o6, rfl⟩
          have e47 := evIt_e (T := Tb (k+5)) (ρ := [sh (rD b), sh (.tup (bs.map rD)), sh (coD co), sh (nD m), sh (nD s), sh (rD lot), o6]) (xs := (rowsL b bs co lot lot.length).map rD) (a := .call 47 (.cons (.var 0) (.cons (.var 1) (.cons (.var 2) (.cons (.var 5) .nil))))) (cl (xs := [rD b, .tup (bs.map rD), coD co, rD lot]) rfl (c47 (k := k) (bs := bs) hb h g2 (by omega))) rfl
          rcases l3 with ⟨h1, ρ', h2, h3⟩ | ⟨y, h1, ρ', h2⟩
          · obtain ⟨p6, e⟩ := h3
            exact .inl ⟨h1, ρ', bindO (x := [sh (rD b), sh (.tup (bs.map rD)), sh (coD co), sh (nD m), sh (nD s), sh (rD lot), o6]) rfl (rn_rt e47 rfl h2), _, _, e⟩
          · exact .inr ⟨y, h1, ρ', bindO (x := [sh (rD b), sh (.tup (bs.map rD)), sh (coD co), sh (nD m), sh (nD s), sh (rD lot), o6]) rfl (rn_rt e47 rfl h2)⟩) [sh (rD b), sh (.tup (bs.map rD)), sh (coD co), sh (nD m), sh (nD s), o5, o6] ⟨o5, o6, rfl⟩
      have e49 := evIt_e (T := Tb (k+5)) (ρ := [sh (rD b), sh (.tup (bs.map rD)), sh (coD co), sh (nD m), sh (nD s), o5, o6]) (xs := (lotsL co.length s).map rD) (a := .call 49 (.cons (.bi .len (.cons (.var 2) .nil)) (.cons (.var 4) .nil))) (cl (xs := [nD co.length, nD s]) (evsC (ev_bi (evs1 (x := coD co) rfl) (len_co co)) rfl) (lots_c k hn (show s < 4 by omega)).2) rfl
      rcases l2 with ⟨h1, ρ', h2, h3⟩ | ⟨y, h1, ρ', h2⟩
      · obtain ⟨p5, p6, e⟩ := h3
        exact .inl ⟨h1, ρ', bindO (x := [sh (rD b), sh (.tup (bs.map rD)), sh (coD co), sh (nD m), sh (nD s), o5, o6]) rfl (rn_rt e49 rfl h2), _, _, _, e⟩
      · exact .inr ⟨y, h1, ρ', bindO (x := [sh (rD b), sh (.tup (bs.map rD)), sh (coD co), sh (nD m), sh (nD s), o5, o6]) rfl (rn_rt e49 rfl h2)⟩) [sh (rD b), sh (.tup (bs.map rD)), sh (coD co), sh (nD m), none, none, none] ⟨none, none, none, rfl⟩
  have er := evIt_n (T := Tb (k+5)) (ρ := [sh (rD b), sh (.tup (bs.map rD)), sh (coD co), sh (nD m), none, none, none]) (a := .bin .add (.var 3) (.cI 1)) (n := m + 1) (evn_add (x := m) (y := 1) rfl rfl) (by omega)
  unfold lackR lacksR
  rcases loop with ⟨h1, ρ', h2, o4, o5, o6, e⟩ | ⟨y, h1, ρ', h2⟩
  · rw [h1]
    subst e
    exact stepB (rn_fr er rfl h2) (ret_b (d := .non) rfl fun _ => rfl)
  · rw [h1]
    exact ret_s (rn_fr er rfl h2) rfl
/-! the program's -/
theorem c51 (hb : BackOk b) (h : Rows co b.length) (hn : co.length < 8) {m : Nat} (hm : m < 4) : callF B fi sub fu (k+6) 51 [bookD b bs, coD co, nD m] = .ok (lackD (lackR b bs co m)) := by
  refine callF_run (f := f51) (ρ := [sh (bookD b bs), sh (coD co), sh (nD m), none, none, none]) rfl rfl rfl ?_
  have loop := loopFi (q := opn b co) (dr := prD) (I := fun ρ => ∃ o4 o5 o6, ρ = [sh (bookD b bs), sh (coD co), sh (nD m), o4, o5, o6])
    (f := fun x ρ => (bindT (.n 3) x ρ).bind fun ρ => rns (Tb (k+5)) (.cons (.fr (.n 4) (.e (.call 45 (.cons (.tR (.r1 (.bi .len (.cons (.var 1) .nil)))) (.cons (.var 3) .nil)))) (.cons (.fr (.n 5) (.e (.call 44 (.cons (.var 0) (.cons (.var 1) (.cons (.var 4) (.cons (.call 17 (.cons (.var 0) .nil)) .nil)))))) (.cons (.ife (.not (.call 38 (.cons (.var 0) (.cons (.var 1) (.cons (.var 4) (.cons (.var 5) .nil)))))) (.cons (.ret (.tup (.cons (.var 4) (.cons (.var 5) .nil)))) .nil) .nil) .nil)) .nil)) .nil) ρ)
    (g := nD) (h := fun s => (lotsL co.length s).flatMap fun lot => (rowsL b bs co lot lot.length).flatMap fun w => [(lot, w)]) (List.range (m + 1)) (fun s hs ρ ⟨o4, o5, o6, e⟩ => by
      subst e
      have hs := List.mem_range.mp hs
      have l2 := loopFi (q := opn b co) (dr := prD) (I := fun ρ => ∃ o5 o6, ρ = [sh (bookD b bs), sh (coD co), sh (nD m), sh (nD s), o5, o6])
        (f := fun x ρ => (bindT (.n 4) x ρ).bind fun ρ => rns (Tb (k+5)) (.cons (.fr (.n 5) (.e (.call 44 (.cons (.var 0) (.cons (.var 1) (.cons (.var 4) (.cons (.call 17 (.cons (.var 0) .nil)) .nil)))))) (.cons (.ife (.not (.call 38 (.cons (.var 0) (.cons (.var 1) (.cons (.var 4) (.cons (.var 5) .nil)))))) (.cons (.ret (.tup (.cons (.var 4) (.cons (.var 5) .nil)))) .nil) .nil) .nil)) .nil) ρ)
        (g := rD) (h := fun lot => (rowsL b bs co lot lot.length).flatMap fun w => [(lot, w)]) (lotsL co.length s) (fun lot hlot ρ ⟨o5, o6, e⟩ => by
          subst e
          obtain ⟨g1, g2⟩ := lots_ok hlot
          have l3 := loopFi (q := opn b co) (dr := prD) (I := fun ρ => ∃ o6, ρ = [sh (bookD b bs), sh (coD co), sh (nD m), sh (nD s), sh (rD lot), o6])
            (f := fun x ρ => (bindT (.n 5) x ρ).bind fun ρ => rns (Tb (k+5)) (.cons (.ife (.not (.call 38 (.cons (.var 0) (.cons (.var 1) (.cons (.var 4) (.cons (.var 5) .nil)))))) (.cons (.ret (.tup (.cons (.var 4) (.cons (.var 5) .nil)))) .nil) .nil) .nil) ρ)
            (g := rD) (h := fun w => [(lot, w)]) (rowsL b bs co lot lot.length) (fun w hw ρ ⟨o6, e⟩ => by
              subst e
              have hc : ev (Tb (k+5)) (.not (.call 38 (.cons (.var 0) (.cons (.var 1) (.cons (.var 4) (.cons (.var 5) .nil)))))) [sh (bookD b bs), sh (coD co), sh (nD m), sh (nD s), sh (rD lot), sh (rD w)] = .ok (.bl (opn b co (lot, w))) :=
                ev_notL (cl (xs := [bookD b bs, coD co, rD lot, rD w]) rfl (c38 (k := k+3) h g2 (by omega) (by omega)))
              cases hz : opn b co (lot, w) with
              | true =>
                rw [hz] at hc
                obtain ⟨ρ', hr⟩ := ret_l (T := Tb (k+5)) (ρ := [sh (bookD b bs), sh (coD co), sh (nD m), sh (nD s), sh (rD lot), sh (rD w)]) (e := .tup (.cons (.var 4) (.cons (.var 5) .nil))) (d := prD (lot, w)) (s := .nil) rfl
                exact .inr ⟨(lot, w), by rw [List.find?_cons, hz], ρ', bindO (x := [sh (bookD b bs), sh (coD co), sh (nD m), sh (nD s), sh (rD lot), sh (rD w)]) rfl (bindO (rn_if_t hc hr) rfl)⟩
              | false =>
                rw [hz] at hc
                exact .inl ⟨by rw [List.find?_cons, hz]; rfl, _, bindO (x := [sh (bookD b bs), sh (coD co), sh (nD m), sh (nD s), sh (rD lot), sh (rD w)]) rfl (stp (rn_if_n hc) rfl), _, rfl⟩) [sh (bookD b bs), sh (coD co), sh (nD m), sh (nD s), sh (rD lot), o6] ⟨o6, rfl⟩
          have e44 := evIt_e (T := Tb (k+5)) (ρ := [sh (bookD b bs), sh (coD co), sh (nD m), sh (nD s), sh (rD lot), o6]) (xs := (rowsL b bs co lot lot.length).map rD) (a := .call 44 (.cons (.var 0) (.cons (.var 1) (.cons (.var 4) (.cons (.call 17 (.cons (.var 0) .nil)) .nil))))) (cl (xs := [bookD b bs, coD co, rD lot, rD (List.range b.length)]) (evsC rfl (evsC rfl (evsC rfl (evs1 (cl (xs := [bookD b bs]) rfl (c17 (k := k+4) hf rfl hb)))))) (c44 (k := k+2) (bs := bs) hb h g2 (by omega))) rfl
          rcases l3 with ⟨h1, ρ', h2, h3⟩ | ⟨y, h1, ρ', h2⟩
          · obtain ⟨p6, e⟩ := h3
            exact .inl ⟨h1, ρ', bindO (x := [sh (bookD b bs), sh (coD co), sh (nD m), sh (nD s), sh (rD lot), o6]) rfl (rn_rt e44 rfl h2), _, _, e⟩
          · exact .inr ⟨y, h1, ρ', bindO (x := [sh (bookD b bs), sh (coD co), sh (nD m), sh (nD s), sh (rD lot), o6]) rfl (rn_rt e44 rfl h2)⟩) [sh (bookD b bs), sh (coD co), sh (nD m), sh (nD s), o5, o6] ⟨o5, o6, rfl⟩
      have et : ev (Tb (k+5)) (.tR (.r1 (.bi .len (.cons (.var 1) .nil)))) [sh (bookD b bs), sh (coD co), sh (nD m), sh (nD s), o5, o6] = .ok (rD (List.range co.length)) :=
        bindO (evIt_n (ev_bi (evs1 (x := coD co) rfl) (len_co co)) (by omega)) (guardR_t (decide_eq_true (by rw [List.length_map, List.length_range]; exact line_of (by omega))))
      have e45 := evIt_e (T := Tb (k+5)) (ρ := [sh (bookD b bs), sh (coD co), sh (nD m), sh (nD s), o5, o6]) (xs := (lotsL co.length s).map rD) (a := .call 45 (.cons (.tR (.r1 (.bi .len (.cons (.var 1) .nil)))) (.cons (.var 3) .nil))) (cl (xs := [rD (List.range co.length), nD s]) (evsC et rfl) (lots_c k hn (show s < 4 by omega)).1) rfl
      rcases l2 with ⟨h1, ρ', h2, h3⟩ | ⟨y, h1, ρ', h2⟩
      · obtain ⟨p5, p6, e⟩ := h3
        exact .inl ⟨h1, ρ', bindO (x := [sh (bookD b bs), sh (coD co), sh (nD m), sh (nD s), o5, o6]) rfl (rn_rt e45 rfl h2), _, _, _, e⟩
      · exact .inr ⟨y, h1, ρ', bindO (x := [sh (bookD b bs), sh (coD co), sh (nD m), sh (nD s), o5, o6]) rfl (rn_rt e45 rfl h2)⟩) [sh (bookD b bs), sh (coD co), sh (nD m), none, none, none] ⟨none, none, none, rfl⟩
  have er := evIt_n (T := Tb (k+5)) (ρ := [sh (bookD b bs), sh (coD co), sh (nD m), none, none, none]) (a := .bin .add (.var 2) (.cI 1)) (n := m + 1) (evn_add (x := m) (y := 1) rfl rfl) (by omega)
  unfold lackR lacksR
  rcases loop with ⟨h1, ρ', h2, o4, o5, o6, e⟩ | ⟨y, h1, ρ', h2⟩
  · rw [h1]
    subst e
    exact stepB (rn_fr er rfl h2) (ret_b (d := .non) rfl fun _ => rfl)
  · rw [h1]
    exact ret_s (rn_fr er rfl h2) rfl
theorem c46 {m : Nat} (hm : m < 4) : callF B fi sub fu (k+2) 46 [nD m, .int 0, .int 4] = .ok (.bl true) := by
  have : m = 0 ∨ m = 1 ∨ m = 2 ∨ m = 3 := by omega
  rcases this with rfl | rfl | rfl | rfl <;> kernel_rfl
theorem c52 (hb : BackOk b) (hg : Good b bs co) (hn : co.length < 8) {m : Nat} (hm : m < 4) : callF B fi sub fu (k+7) 52 [bookD b bs, coD co, nD m] = .ok (lackD (lackR b bs co m)) := by
  refine callF_run (f := f52) (ρ := [sh (bookD b bs), sh (coD co), sh (nD m)]) rfl rfl rfl ?_
  refine stepB (rn_exp (cl (xs := [bookD b bs, coD co]) rfl (c35 (k := k) co_ hb hg (by omega)))) ?_
  refine stepB (rn_if_n (evNot (k := true) (cl (xs := [nD m, .int 0, .int 4]) rfl (c46 (k := k+4) hm)))) ?_
  exact ret_b (cl (xs := [bookD b bs, coD co, nD m]) rfl (c51 (k := k) hb hg.rows hn hm)) fun _ => rfl
def bads : List D := [.int (-1), .int 5, .bl true, .str "2", .non]
theorem c46x {x : D} (hx : x ∈ bads) : callF B fi sub fu (k+2) 46 [x, .int 0, .int 4] = .ok (.bl false) := by
  rcases List.mem_cons.mp hx with rfl | hx
  · kernel_rfl
  rcases List.mem_cons.mp hx with rfl | hx
  · kernel_rfl
  rcases List.mem_cons.mp hx with rfl | hx
  · kernel_rfl
  rcases List.mem_cons.mp hx with rfl | hx
  · kernel_rfl
  rcases List.mem_cons.mp hx with rfl | hx
  · kernel_rfl
  · exact nomatch hx
theorem c53 (hb : BackOk b) (hg : Good b bs co) (hn : co.length < 8) {x : D} (hx : x ∈ bads) : callF B fi sub fu (k+8) 53 [bookD b bs, coD co, x] = .ok (.bl true) := by
  refine callF_run (f := f53) (ρ := [sh (bookD b bs), sh (coD co), sh x, none]) rfl rfl rfl ?_
  have hc : callF B fi sub fu (k+7) 52 [bookD b bs, coD co, x] = .exc (.mk 1 []) := by
    refine callF_run (f := f52) (ρ := [sh (bookD b bs), sh (coD co), sh x]) rfl rfl rfl ?_
    refine stepB (rn_exp (cl (xs := [bookD b bs, coD co]) rfl (c35 (k := k) co_ hb hg (by omega)))) ?_
    exact bindX (cons_x (rn_if_t (evNot (k := false) (cl (xs := [x, .int 0, .int 4]) rfl (c46x (k := k+4) hx))) (cons_x rfl)))
  have hx2 : rns (Tb (k+7)) (.cons (.exp (.call 52 (.cons (.var 0) (.cons (.var 1) (.cons (.var 2) .nil))))) .nil) [sh (bookD b bs), sh (coD co), sh x, none] = .exc (.mk 1 []) := cons_x (rn_exp_x (cl (xs := [bookD b bs, coD co, x]) rfl hc))
  refine ret_s (ρ' := [none, none, none, none]) (d := .bl true) ?_ rfl
  rw [rn, hx2]
  rfl
end
end K76
end

section
set_option Elab.async false
set_option linter.all false
set_option maxRecDepth 100000
namespace K76
open PySem PD PD.Core
theorem rn_aslF {T : Tab} {e : Ex} {ρ : PD.Env} {i : Nat} {ds : List D} (he : ev T e ρ = .ok (.lst ds)) (hz : frozs ds = true) (hf : frs e = true) (hi : decide (i < ρ.length) = true) : rn T (.asg (.n i) e) ρ = .ok (.nx (ρ.set i (some (.f (.ol ds))))) := by
  refine bindO he ?_
  have : keepN (frs e) ρ (roots e) (.lst ds) = ρ := by
    rw [hf]
    show keepRs ρ (roots e) ds = ρ
    unfold keepRs
    rw [hz]
  rw [this, hf]
  exact guardR_t hi
theorem rn_appF {T : Tab} {e : Ex} {x : D} {ρ : PD.Env} {i : Nat} {ds : List D} (hs : slotE ρ i = some (.f (.ol ds))) (he : ev T e ρ = .ok x) (hz : froz x = true) (hl : ds.length + 1 ≤ line) : rn T (.app i e) ρ = .ok (.nx (ρ.set i (some (.f (.ol (ds ++ [x])))))) := by
  have h1 : rn T (.app i e) ρ = (ev T e ρ).bind fun x => (appO (keepR ρ (roots e) x) i [x]).bind fun ρ => R.ok (Fl.nx ρ) := by
    show (match slotE ρ i with
      | some (.f (.ol _)) => (ev T e ρ).bind fun x => (appO (keepR ρ (roots e) x) i [x]).bind fun ρ => R.ok (Fl.nx ρ)
      | _ => .stk) = _
    rw [hs]
  rw [h1]
  refine bindO he ?_
  rw [show keepR ρ (roots e) x = ρ by unfold keepR; rw [hz]]
  refine bindO (x := ρ.set i (some (.f (.ol (ds ++ [x]))))) ?_ rfl
  unfold appO
  rw [hs]
  exact guardR_t (decide_eq_true hl)
section
variable {k : Nat} {b : List Nat} {bs co : List (List Nat)}
/-- pairs that let one another -/
structure WOk (b : List Nat) (bs co : List (List Nat)) (Q : List P2) : Prop where
  pw : Q.Pairwise fun p x => p.1 ≠ x.1 ∧ letB b bs [p.2, kindP b co p.1 x.1, x.2] = true
  bel : ∀ p ∈ Q, p.1 < co.length ∧ p.2 < b.length
theorem WOk.more {Q : List P2} {x c : Nat} (h : WOk b bs co Q) (hx : x < co.length) (hc : c < b.length) (hne : ∀ p ∈ Q, p.1 ≠ x) (hl : letQ b bs co Q x c = true) : WOk b bs co (Q ++ [(x, c)]) where
  pw := List.pairwise_append.mpr ⟨h.pw, List.pairwise_singleton _ _, fun p hp y hy => by
    rw [List.mem_singleton] at hy
    subst hy
    exact ⟨hne p hp, List.all_eq_true.mp hl p hp⟩⟩
  bel := fun p hp => by
    rcases List.mem_append.mp hp with hp | hp
    · exact h.bel p hp
    · rw [List.mem_singleton] at hp
      subst hp
      exact ⟨hx, hc⟩
theorem WOk.fn {Q : List P2} (h : WOk b bs co Q) {x c d : Nat} (h1 : (x, c) ∈ Q) (h2 : (x, d) ∈ Q) : c = d := by
  have hnd : (Q.map fun p => p.1).Nodup := List.pairwise_map.mpr (h.pw.imp fun z => z.1)
  obtain ⟨i, hi, e1⟩ := List.getElem_of_mem h1
  obtain ⟨j, hj, e2⟩ := List.getElem_of_mem h2
  rcases Nat.lt_trichotomy i j with z | z | z
  · exact absurd (by rw [e1, e2]) (List.pairwise_iff_getElem.mp h.pw i j hi hj z).1
  · subst z
    rw [e1] at e2
    exact congrArg Prod.snd e2
  · exact absurd (by rw [e1, e2]) (List.pairwise_iff_getElem.mp h.pw j i hj hi z).1
theorem rows_wok {lot : List Nat} (hl : Lot lot co.length) : ∀ {i : Nat} {r : List Nat}, i ≤ lot.length → r ∈ rowsL b bs co lot i → WOk b bs co (prsQ lot r i)
  | 0, r, _, _ => ⟨.nil, fun p hp => nomatch hp⟩
  | i + 1, r, hi, h => by
    obtain ⟨r', h1, h2⟩ := List.mem_flatMap.mp h
    obtain ⟨c, h3, rfl⟩ := List.mem_map.mp h2
    obtain ⟨h4, h5⟩ := List.mem_filter.mp h3
    obtain ⟨g1, g2⟩ := rows_ok h1
    have ih := rows_wok hl (i := i) (by omega) h1
    have e : prsQ lot (r' ++ [c]) (i + 1) = prsQ lot r' i ++ [(lot.getD i 0, c)] := by
      unfold prsQ
      rw [List.range_succ, List.map_append]
      congr 1
      · refine List.map_congr_left fun j hj => ?_
        have hj := List.mem_range.mp hj
        have e : (r' ++ [c]).getD j 0 = r'.getD j 0 := by rw [Core.getD_at (l := r' ++ [c]) (by rw [List.length_append]; omega), Core.getD_at (l := r') (by omega), List.getElem_append_left]
        rw [e]
      · have e : (r' ++ [c]).getD i 0 = c := by
          rw [Core.getD_at (l := r' ++ [c]) (by rw [List.length_append, g1]; exact Nat.lt_succ_self _), List.getElem_append_right (by omega)]
          simp [g1]
        show [(lot.getD i 0, (r' ++ [c]).getD i 0)] = _
        rw [e]
    rw [e]
    exact ih.more (hl.below (by omega)) (List.mem_range.mp h4) (fun p hp => (prs_bel hl (by omega) g1 g2 p hp).2.2) h5
/-- the stand of the invited -/
structure Std (b : List Nat) (bs co : List (List Nat)) (Q : List P2) (i : Nat) (T : List P2) (R : List Nat) : Prop where
  wok : WOk b bs co T
  sub : ∀ p ∈ Q, p ∈ T
  new : ∀ p ∈ T, p ∈ Q ∨ p.1 < i
  len : R.length = i
  has : ∀ j, j < i → (j, R.getD j 0) ∈ T
abbrev E48 (b : List Nat) (bs co : List (List Nat)) (Q T : List P2) (R : List Nat) (o6 o7 o8 : Option OD) : PD.Env := [sh (rD b), sh (.tup (bs.map rD)), sh (coD co), sh (.lst ((toldQ Q).map rD)), some (.f (.ol ((toldQ T).map rD))), some (.f (.ol (R.map nD))), o6, o7, o8, none]
/-- the kinds of one person tried -/
def Mid (b : List Nat) (bs co : List (List Nat)) (Q : List P2) (i : Nat) (R : List Nat) (T : List P2) (mine : List Nat) : Prop :=
  (mine = [] ∧ Std b bs co Q i T R ∧ ∀ p ∈ Q, p.1 ≠ i) ∨ ∃ v rest, mine = v :: rest ∧ Std b bs co Q (i + 1) T (R ++ [v])
theorem Std.up {Q T T' : List P2} {R : List Nat} {i v : Nat} (h : Std b bs co Q i T R) (hw : WOk b bs co T') (h1 : ∀ p ∈ T, p ∈ T') (h2 : ∀ p ∈ T', p ∈ T ∨ p = (i, v)) (hv : (i, v) ∈ T') : Std b bs co Q (i + 1) T' (R ++ [v]) where
  wok := hw
  sub := fun p hp => h1 p (h.sub p hp)
  new := fun p hp => by
    rcases h2 p hp with z | z
    · exact (h.new p z).imp id fun z => by omega
    · subst z
      exact .inr (Nat.lt_succ_self _)
  len := by rw [List.length_append, h.len]; rfl
  has := fun j hj => by
    by_cases hji : j < i
    · have e : (R ++ [v]).getD j 0 = R.getD j 0 := by rw [Core.getD_at (l := R ++ [v]) (by rw [List.length_append, h.len]; omega), Core.getD_at (l := R) (by rw [h.len]; exact hji), List.getElem_append_left]
      rw [e]
      exact h1 _ (h.has j hji)
    · have hji : j = i := by omega
      subst hji
      have e : (R ++ [v]).getD j 0 = v := by
        rw [Core.getD_at (l := R ++ [v]) (by rw [List.length_append, h.len]; exact Nat.lt_succ_self _), List.getElem_append_right (by rw [h.len]; exact Nat.le_refl _)]
        simp [h.len]
      rw [e]
      exact hv
theorem told_app (T : List P2) (x c : Nat) : (toldQ (T ++ [(x, c)])).map rD = (toldQ T).map rD ++ [rD [x, c]] := by
  unfold toldQ
  rw [List.map_append, List.map_append]; rfl
theorem told_len (T : List P2) : ((toldQ T).map rD).length = T.length := by unfold toldQ; rw [List.length_map, List.length_map]
theorem kinds48 (hb : BackOk b) (h : Rows co b.length) {Q : List P2} {i : Nat} {R : List Nat} (hi : i < co.length) {T : List P2} {mine : List Nat} (hM : Mid b bs co Q i R T mine) (hT : T.length ≤ 1000) (o8 : Option OD) :
    ∃ T' mine' o8', rn (Tb (k+4)) (.fr (.n 8) (.r1 (.bi .len (.cons (.var 0) .nil))) (.cons (.ife (.and (.cmp .eq (.var 7) (.lst .nil)) (.call 26 (.cons (.var 0) (.cons (.var 1) (.cons (.var 2) (.cons (.var 4) (.cons (.var 6) (.cons (.var 8) .nil)))))))) (.cons (.asg (.n 7) (.lst (.cons (.var 8) .nil))) (.cons (.app 4 (.tup (.cons (.var 6) (.cons (.var 8) .nil)))) .nil)) .nil) .nil)) (E48 b bs co Q T R (sh (nD i)) (some (.f (.ol (mine.map nD)))) o8) = .ok (.nx (E48 b bs co Q T' R (sh (nD i)) (some (.f (.ol (mine'.map nD)))) o8')) ∧ Mid b bs co Q i R T' mine' ∧ T'.length ≤ T.length + 1 := by
  obtain ⟨ρ', h1, T', mine', o8', e, hM', hT'⟩ := loopN (f := fun x ρ => (bindT (.n 8) x ρ).bind fun ρ => rns (Tb (k+4)) (.cons (.ife (.and (.cmp .eq (.var 7) (.lst .nil)) (.call 26 (.cons (.var 0) (.cons (.var 1) (.cons (.var 2) (.cons (.var 4) (.cons (.var 6) (.cons (.var 8) .nil)))))))) (.cons (.asg (.n 7) (.lst (.cons (.var 8) .nil))) (.cons (.app 4 (.tup (.cons (.var 6) (.cons (.var 8) .nil)))) .nil)) .nil) .nil) ρ)
    b.length (fun _ ρ => ∃ T' mine' o8', ρ = E48 b bs co Q T' R (sh (nD i)) (some (.f (.ol (mine'.map nD)))) o8' ∧ Mid b bs co Q i R T' mine' ∧ ((mine' = [] ∧ T' = T) ∨ (mine' ≠ [] ∧ T'.length ≤ T.length + 1))) (E48 b bs co Q T R (sh (nD i)) (some (.f (.ol (mine.map nD)))) o8) (fun c ρ hc ⟨T1, mine1, p8, e, hM1, hT1⟩ => by
      subst e
      have e0 : ev (Tb (k+4)) (.cmp .eq (.var 7) (.lst .nil)) (E48 b bs co Q T1 R (sh (nD i)) (some (.f (.ol (mine1.map nD)))) (sh (nD c))) = .ok (.bl (decide (mine1 = []))) := (ev_cmp (x := lD mine1) (y := lD []) rfl rfl).trans (leq _ _)
      rcases hM1 with ⟨rfl, hS, hQ⟩ | ⟨v, rest, rfl, hS⟩
      · have hTT : T1 = T := by
          rcases hT1 with z | z
          · exact z.2
          · exact absurd rfl z.1
        subst hTT
        have hne : ∀ p ∈ T1, p.1 ≠ i := fun p hp => by
          rcases hS.new p hp with z | z
          · exact hQ p z
          · omega
        have e26 := c26 (B := B) (fi := fi) (sub := sub) (fu := fu) (k := k) (b := b) (bs := bs) (co := co) (told := toldQ T1) (x := i) (c := c) rfl rfl rfl rfl rfl hb h hi hc fun t ht => by
          obtain ⟨p, hp, rfl⟩ := List.mem_map.mp ht
          obtain ⟨g1, g2⟩ := hS.wok.bel p hp
          exact ⟨p.1, p.2, rfl, g1, hne p hp, g2⟩
        rw [lets_Q] at e26
        have hg := ev_and_t (b := .call 26 (.cons (.var 0) (.cons (.var 1) (.cons (.var 2) (.cons (.var 4) (.cons (.var 6) (.cons (.var 8) .nil))))))) (e0.trans (by rw [decide_eq_true rfl])) (cl (xs := [rD b, .tup (bs.map rD), coD co, .lst ((toldQ T1).map rD), nD i, nD c]) rfl e26)
        cases hz : letQ b bs co T1 i c with
        | true =>
          rw [hz] at hg
          refine ⟨E48 b bs co Q (T1 ++ [(i, c)]) R (sh (nD i)) (some (.f (.ol [nD c]))) (sh (nD c)), bindO (x := E48 b bs co Q T1 R (sh (nD i)) (some (.f (.ol []))) (sh (nD c))) rfl (stp (rn_if_t hg (stp (ρ' := E48 b bs co Q T1 R (sh (nD i)) (some (.f (.ol [nD c]))) (sh (nD c))) rfl (stp ?_ rfl))) rfl), T1 ++ [(i, c)], [c], _, rfl, .inr ⟨c, [], rfl, ?_⟩, (.inr ⟨(fun z => nomatch z), by rw [List.length_append]; exact Nat.le_refl _⟩)⟩
          · unfold E48
            rw [told_app]
            refine rn_app rfl (x := rD [i, c]) rfl rfl ?_
            rw [told_len]
            exact line_of (by omega)
          · exact hS.up (hS.wok.more hi hc hne hz) (fun p hp => List.mem_append_left _ hp) (fun p hp => (List.mem_append.mp hp).imp id fun z => List.mem_singleton.mp z) (List.mem_append_right _ List.mem_cons_self)
        | false =>
          rw [hz] at hg
          exact ⟨_, bindO (x := E48 b bs co Q T1 R (sh (nD i)) (some (.f (.ol []))) (sh (nD c))) rfl (stp (rn_if_n hg) rfl), T1, [], _, rfl, .inl ⟨rfl, hS, hQ⟩, .inl ⟨rfl, rfl⟩⟩
      · have hg := ev_and_f (b := .call 26 (.cons (.var 0) (.cons (.var 1) (.cons (.var 2) (.cons (.var 4) (.cons (.var 6) (.cons (.var 8) .nil))))))) (e0.trans (by rw [decide_eq_false (fun z => nomatch z)]))
        refine ⟨_, bindO (x := E48 b bs co Q T1 R (sh (nD i)) (some (.f (.ol ((v :: rest).map nD)))) (sh (nD c))) rfl (stp (rn_if_n hg) rfl), T1, v :: rest, _, rfl, .inr ⟨v, rest, rfl, hS⟩, ?_⟩
        rcases hT1 with z | z
        · exact nomatch z.1
        · exact .inr z) ⟨T, mine, o8, rfl, hM, (by by_cases hm : mine = []; exact .inl ⟨hm, rfl⟩; exact .inr ⟨hm, by omega⟩)⟩
  subst e
  refine ⟨T', mine', o8', rn_for (i := (b.length : Int)) (ev_bi (evs1 (x := rD b) rfl) (len_r b)) (smallI_nat (by have := hb.le; omega)) h1, hM', ?_⟩
  rcases hT' with ⟨_, rfl⟩ | z
  · omega
  · exact z.2
theorem frozs_rr : ∀ l : List (List Nat), frozs (l.map rD) = true
  | [] => rfl
  | a :: l => by
    show (froz (rD a) && frozs (l.map rD)) = true
    rw [froz_r, frozs_rr l]; rfl
theorem frozs_n' (l : List Nat) : frozs (l.map nD) = true := froz_r l
/-- the one invited, or None -/
theorem c48 (hb : BackOk b) (h : Rows co b.length) (hn : co.length < 8) {Q : List P2} (hQ : WOk b bs co Q) (hQl : Q.length ≤ 10) : (∃ T R, Std b bs co Q co.length T R ∧ callF B fi sub fu (k+5) 48 [rD b, .tup (bs.map rD), coD co, .lst ((toldQ Q).map rD)] = .ok (rD R)) ∨ callF B fi sub fu (k+5) 48 [rD b, .tup (bs.map rD), coD co, .lst ((toldQ Q).map rD)] = .ok .non := by
  have loop := loopG (f := fun x ρ => (bindT (.n 6) x ρ).bind fun ρ => rns (Tb (k+4)) (.cons (.asg (.n 7) (.lc [9] (.n 9) (.e (.var 3)) (.cons (.cmp .eq (.idx (.var 9) (.cI 0)) (.var 6)) .nil) (.idx (.var 9) (.cI 1)))) (.cons (.fr (.n 8) (.r1 (.bi .len (.cons (.var 0) .nil))) (.cons (.ife (.and (.cmp .eq (.var 7) (.lst .nil)) (.call 26 (.cons (.var 0) (.cons (.var 1) (.cons (.var 2) (.cons (.var 4) (.cons (.var 6) (.cons (.var 8) .nil)))))))) (.cons (.asg (.n 7) (.lst (.cons (.var 8) .nil))) (.cons (.app 4 (.tup (.cons (.var 6) (.cons (.var 8) .nil)))) .nil)) .nil) .nil)) (.cons (.ife (.cmp .eq (.var 7) (.lst .nil)) (.cons (.ret .cN) .nil) .nil) (.cons (.app 5 (.idx (.var 7) (.cI 0))) .nil)))) ρ)
    (Pd := fun d => d = .non) co.length (fun i ρ => ∃ T R o6 o7 o8, ρ = E48 b bs co Q T R o6 o7 o8 ∧ Std b bs co Q i T R ∧ T.length ≤ 10 + i) (E48 b bs co Q Q [] none none none) (fun i ρ hi ⟨T, R, o6, o7, o8, e, hS, hT⟩ => by
      subst e
      have el := ev_lcfA (T := Tb (k+4)) (ρ := E48 b bs co Q T R (sh (nD i)) o7 o8) (own := [9]) (tg := .n 9) (it := .e (.var 3)) (c := .cmp .eq (.idx (.var 9) (.cI 0)) (.var 6)) (e := .idx (.var 9) (.cI 1)) (l := Q) (g := fun p => rD [p.1, p.2]) (h := fun p => nD p.2) (p := fun p => decide (p.1 = i)) (by
          refine (evIt_e (x := .lst ((toldQ Q).map rD)) rfl rfl).trans ?_
          unfold toldQ
          rw [List.map_map]; rfl) (by omega) fun p hp => ⟨[sh (rD b), sh (.tup (bs.map rD)), sh (coD co), sh (.lst ((toldQ Q).map rD)), some (.f (.ol ((toldQ T).map rD))), some (.f (.ol (R.map nD))), sh (nD i), o7, o8, sh (rD [p.1, p.2])], rfl, evn_eq (x := p.1) rfl rfl, fun _ => rfl⟩
      rw [show (Q.filter fun p => decide (p.1 = i)).map (fun p => nD p.2) = ((Q.filter fun p => decide (p.1 = i)).map fun p => p.2).map nD by rw [List.map_map]; rfl] at el
      generalize hm : (Q.filter fun p => decide (p.1 = i)).map (fun p => p.2) = mine at el
      have hM : Mid b bs co Q i R T mine := by
        cases mine with
        | nil =>
          refine .inl ⟨rfl, hS, fun p hp z => ?_⟩
          have : p.2 ∈ ((Q.filter fun p => decide (p.1 = i)).map fun p => p.2) := List.mem_map.mpr ⟨p, List.mem_filter.mpr ⟨hp, decide_eq_true z⟩, rfl⟩
          rw [hm] at this
          exact nomatch this
        | cons v rest =>
          have : v ∈ ((Q.filter fun p => decide (p.1 = i)).map fun p => p.2) := by rw [hm]; exact List.mem_cons_self
          obtain ⟨p, hp, rfl⟩ := List.mem_map.mp this
          obtain ⟨h1, h2⟩ := List.mem_filter.mp hp
          have h2 := of_decide_eq_true h2
          subst h2
          exact .inr ⟨p.2, rest, rfl, hS.up hS.wok (fun _ z => z) (fun _ z => .inl z) (hS.sub p h1)⟩
      obtain ⟨T', mine', o8', hk, hM', hT'⟩ := kinds48 (k := k) hb h hi hM (by omega) o8
      have e0 : ev (Tb (k+4)) (.cmp .eq (.var 7) (.lst .nil)) (E48 b bs co Q T' R (sh (nD i)) (some (.f (.ol (mine'.map nD)))) o8') = .ok (.bl (decide (mine' = []))) := (ev_cmp (x := lD mine') (y := lD []) rfl rfl).trans (leq _ _)
      have go : ∀ {w : PD.R Fl}, rns (Tb (k+4)) (.cons (.ife (.cmp .eq (.var 7) (.lst .nil)) (.cons (.ret .cN) .nil) .nil) (.cons (.app 5 (.idx (.var 7) (.cI 0))) .nil)) (E48 b bs co Q T' R (sh (nD i)) (some (.f (.ol (mine'.map nD)))) o8') = w → (bindT (.n 6) (nD i) (E48 b bs co Q T R o6 o7 o8)).bind (fun ρ => rns (Tb (k+4)) (.cons (.asg (.n 7) (.lc [9] (.n 9) (.e (.var 3)) (.cons (.cmp .eq (.idx (.var 9) (.cI 0)) (.var 6)) .nil) (.idx (.var 9) (.cI 1)))) (.cons (.fr (.n 8) (.r1 (.bi .len (.cons (.var 0) .nil))) (.cons (.ife (.and (.cmp .eq (.var 7) (.lst .nil)) (.call 26 (.cons (.var 0) (.cons (.var 1) (.cons (.var 2) (.cons (.var 4) (.cons (.var 6) (.cons (.var 8) .nil)))))))) (.cons (.asg (.n 7) (.lst (.cons (.var 8) .nil))) (.cons (.app 4 (.tup (.cons (.var 6) (.cons (.var 8) .nil)))) .nil)) .nil) .nil)) (.cons (.ife (.cmp .eq (.var 7) (.lst .nil)) (.cons (.ret .cN) .nil) .nil) (.cons (.app 5 (.idx (.var 7) (.cI 0))) .nil)))) ρ) = w := fun {w} hw =>
        bindO (x := E48 b bs co Q T R (sh (nD i)) o7 o8) rfl (stp (ρ' := E48 b bs co Q T R (sh (nD i)) (some (.f (.ol (mine.map nD)))) o8) (rn_aslF el (frozs_n' _) rfl rfl) (stp hk hw))
      rcases hM' with ⟨rfl, _, _⟩ | ⟨v, rest, rfl, hS'⟩
      · obtain ⟨ρ', hr⟩ := ret_l (T := Tb (k+4)) (ρ := E48 b bs co Q T' R (sh (nD i)) (some (.f (.ol (([] : List Nat).map nD)))) o8') (e := .cN) (s := .nil) rfl
        exact .inr ⟨.non, ρ', go (bindO (rn_if_t (e0.trans (by rw [decide_eq_true rfl])) hr) rfl), rfl⟩
      · refine .inl ⟨E48 b bs co Q T' (R ++ [v]) (sh (nD i)) (some (.f (.ol ((v :: rest).map nD)))) o8', go (stp (rn_if_n (e0.trans (by rw [decide_eq_false (fun z => nomatch z)]))) (stp ?_ rfl)), T', R ++ [v], _, _, _, rfl, hS', by omega⟩
        have hRl := hS.len
        unfold E48
        rw [List.map_append]
        refine rn_appF rfl (x := nD v) ((ev_idx (x := lD (v :: rest)) (y := nD 0) rfl rfl).trans (idx_ln rfl)) rfl ?_
        rw [List.length_map]
        exact line_of (by omega)) ⟨Q, [], none, none, none, rfl, ⟨hQ, fun _ z => z, fun _ z => .inl z, rfl, fun j hj => absurd hj (Nat.not_lt_zero _)⟩, by omega⟩
  have e0 : rn (Tb (k+4)) (.asg (.n 4) (.bi .listOf (.cons (.var 3) .nil))) [sh (rD b), sh (.tup (bs.map rD)), sh (coD co), sh (.lst ((toldQ Q).map rD)), none, none, none, none, none, none] = .ok (.nx [sh (rD b), sh (.tup (bs.map rD)), sh (coD co), sh (.lst ((toldQ Q).map rD)), some (.f (.ol ((toldQ Q).map rD))), none, none, none, none, none]) :=
    rn_aslF (ds := (toldQ Q).map rD) (ev_bi (evs1 (x := .lst ((toldQ Q).map rD)) rfl) rfl) (frozs_rr _) rfl rfl
  have er := evIt_n (T := Tb (k+4)) (ρ := E48 b bs co Q Q [] none none none) (a := .bi .len (.cons (.var 2) .nil)) (ev_bi (evs1 (x := coD co) rfl) (len_co co)) (by omega)
  have pre : ∀ {X : R D}, (rns (Tb (k+4)) (.cons (.fr (.n 6) (.r1 (.bi .len (.cons (.var 2) .nil))) (.cons (.asg (.n 7) (.lc [9] (.n 9) (.e (.var 3)) (.cons (.cmp .eq (.idx (.var 9) (.cI 0)) (.var 6)) .nil) (.idx (.var 9) (.cI 1)))) (.cons (.fr (.n 8) (.r1 (.bi .len (.cons (.var 0) .nil))) (.cons (.ife (.and (.cmp .eq (.var 7) (.lst .nil)) (.call 26 (.cons (.var 0) (.cons (.var 1) (.cons (.var 2) (.cons (.var 4) (.cons (.var 6) (.cons (.var 8) .nil)))))))) (.cons (.asg (.n 7) (.lst (.cons (.var 8) .nil))) (.cons (.app 4 (.tup (.cons (.var 6) (.cons (.var 8) .nil)))) .nil)) .nil) .nil)) (.cons (.ife (.cmp .eq (.var 7) (.lst .nil)) (.cons (.ret .cN) .nil) .nil) (.cons (.app 5 (.idx (.var 7) (.cI 0))) .nil))))) (.cons (.ret (.bi .tupleOf (.cons (.var 5) .nil))) .nil)) (E48 b bs co Q Q [] none none none)).bind f48.fin = X → callF B fi sub fu (k+5) 48 [rD b, .tup (bs.map rD), coD co, .lst ((toldQ Q).map rD)] = X := fun {X} hX =>
    callF_run (f := f48) (ρ := [sh (rD b), sh (.tup (bs.map rD)), sh (coD co), sh (.lst ((toldQ Q).map rD)), none, none, none, none, none, none]) rfl rfl rfl (stepB e0 (stepB (ρ' := E48 b bs co Q Q [] none none none) rfl hX))
  rcases loop with ⟨ρ', h1, T, R, o6, o7, o8, e, hS, _⟩ | ⟨d, ρ', h1, rfl⟩
  · subst e
    exact .inl ⟨T, R, hS, pre (stepB (rn_fr er rfl h1) (ret_b (d := rD R) rfl fun _ => rfl))⟩
  · exact .inr (pre (ret_s (rn_fr er rfl h1) rfl))
/-! the company grown -/
theorem std_fit (hm : b ∈ backs) (h : Rows co b.length) {Q T : List P2} {R : List Nat} (hS : Std b bs co Q co.length T R) : fitR b bs co R := fun i j hij hj => by
  rw [hS.len] at hj
  have hi : i < co.length := by omega
  have m1 := hS.has i hi
  have m2 := hS.has j hj
  obtain ⟨x, hx, e1⟩ := List.getElem_of_mem m1
  obtain ⟨y, hy, e2⟩ := List.getElem_of_mem m2
  have b1 := (hS.wok.bel _ m1).2
  have b2 := (hS.wok.bel _ m2).2
  rcases Nat.lt_trichotomy x y with z | z | z
  · have := (List.pairwise_iff_getElem.mp hS.wok.pw x y hx hy z).2
    rw [e1, e2] at this
    exact this
  · subst z
    rw [e1] at e2
    exact absurd (congrArg Prod.fst e2) (Nat.ne_of_lt hij)
  · have := (List.pairwise_iff_getElem.mp hS.wok.pw y x hy hx z).2
    rw [e1, e2] at this
    have this : letB b bs [R.getD j 0, kindP b co j i, R.getD i 0] = true := this
    rw [kindP_back (back_ok hm) h hi hj (by omega)] at this
    unfold letB at this ⊢
    rw [← show formR b [R.getD j 0, bk b (kindP b co i j), R.getD i 0] = formR b [R.getD i 0, kindP b co i j, R.getD j 0] from (sixA_ok hm b1 (kindP_lt (back_ok hm) h hi hj (by omega)) b2).2]
    exact this
theorem std_grow (hm : b ∈ backs) (hg : Good b bs co) {Q T : List P2} {R : List Nat} (hS : Std b bs co Q co.length T R) : Good b bs (co ++ [R]) :=
  grow hm hg hS.len (fun x hx => by
    obtain ⟨j, hj, rfl⟩ := List.getElem_of_mem hx
    have := (hS.wok.bel _ (hS.has j (by rw [← hS.len]; exact hj))).2
    have this : R.getD j 0 < b.length := this
    rw [Core.getD_at hj] at this
    exact this) (std_fit hm hg.rows hS)
/-- the newcomer fulfils -/
theorem std_ful {lot w : List Nat} {T : List P2} {R : List Nat} (hl : Lot lot co.length) (hw : w.length = lot.length) (hS : Std b bs co (prsQ lot w lot.length) co.length T R) : fulf b (co ++ [R]) lot w (co ++ [R]).length ≠ [] := fun z => by
  have hin : co.length ∈ fulf b (co ++ [R]) lot w (co ++ [R]).length := by
    unfold fulf
    refine List.mem_filter.mpr ⟨List.mem_range.mpr (by rw [List.length_append]; exact Nat.lt_succ_self _), ?_⟩
    have h1 : co.length ∉ lot := fun z => Nat.lt_irrefl _ (hl.bel _ z)
    rw [decide_eq_false h1, Bool.not_false, Bool.true_and, decide_eq_true_eq]
    refine List.ext_getElem (by rw [List.length_map, hw]) fun j hj1 hj2 => ?_
    rw [List.length_map] at hj1
    rw [List.getElem_map]
    have ho : lot[j] < co.length := hl.bel _ (List.getElem_mem hj1)
    have hk : kindP b (co ++ [R]) co.length lot[j] = R.getD lot[j] 0 := by
      unfold kindP
      rw [if_pos ho, cel_new]
    rw [hk]
    have m1 := hS.has lot[j] ho
    have m2 := hS.sub (lot.getD j 0, w.getD j 0) (List.mem_map.mpr ⟨j, List.mem_range.mpr hj1, rfl⟩)
    rw [Core.getD_at hj1, Core.getD_at hj2] at m2
    exact hS.wok.fn m1 m2
  rw [z] at hin
  exact nomatch hin
end
end K76
end

section
set_option Elab.async false
set_option linter.all false
set_option maxRecDepth 100000
namespace K76
open PySem PD PD.Core
/-! what lacks, told twice -/
theorem plain_pr (p : PR) : plain (prD p) = true := by
  show (plain (rD p.1) && (plain (rD p.2) && true)) = true
  rw [plain_r, plain_r]; rfl
theorem deep_pr (p : PR) : deep (prD p) ≤ 3 := by
  show PyData.depth (.tuple [toP (rD p.1), toP (rD p.2)]) ≤ 3
  have h1 : PyData.depth (toP (rD p.1)) ≤ 2 := deep_r p.1
  have h2 : PyData.depth (toP (rD p.2)) ≤ 2 := deep_r p.2
  rw [PyData.depth, PyData.depthAll, PyData.depthAll, PyData.depthAll]
  omega
theorem eqD_pr (p q : PR) : eqD (prD p) (prD q) = decide (p = q) := by
  show PyData.eqv (.tuple [toP (rD p.1), toP (rD p.2)]) (.tuple [toP (rD q.1), toP (rD q.2)]) = _
  have h1 : PyData.eqv (toP (rD p.1)) (toP (rD q.1)) = decide (p.1 = q.1) := eqD_r p.1 q.1
  have h2 : PyData.eqv (toP (rD p.2)) (toP (rD q.2)) = decide (p.2 = q.2) := eqD_r p.2 q.2
  rw [PyData.eqv, PySem.W.eqv_all_cons, PySem.W.eqv_all_cons, h1, h2, PyData.eqvAll, Bool.and_true, ← Bool.decide_and]
  exact decide_eq_decide.mpr ⟨fun ⟨a, b⟩ => Prod.ext a b, fun h => by subst h; exact ⟨rfl, rfl⟩⟩
theorem eqOk_l (x y : Option PR) : eqOk (lackD x) (lackD y) = true := by
  have pl : ∀ x : Option PR, plain (lackD x) = true := fun x => by
    cases x with
    | none => rfl
    | some p => exact plain_pr p
  have dp : ∀ x : Option PR, deep (lackD x) ≤ 3 := fun x => by
    cases x with
    | none => show PyData.depth .none ≤ 3; simp [PyData.depth]
    | some p => exact deep_pr p
  unfold eqOk
  have := dp x
  rw [pl, pl, decide_eq_true (by omega)]; rfl
theorem eqD_l (x y : Option PR) : eqD (lackD x) (lackD y) = decide (x = y) := by
  cases x with
  | none =>
    cases y with
    | none =>
      rw [decide_eq_true rfl]
      show PyData.eqv .none .none = true
      simp [PyData.eqv]
    | some q =>
      rw [decide_eq_false (fun z => nomatch z)]
      show PyData.eqv .none (.tuple _) = false
      simp [PyData.eqv]
  | some p =>
    cases y with
    | none =>
      rw [decide_eq_false (fun z => nomatch z)]
      show PyData.eqv (.tuple _) .none = false
      simp [PyData.eqv]
    | some q =>
      refine (eqD_pr p q).trans (decide_eq_decide.mpr ⟨fun h => by rw [h], fun h => Option.some.inj h⟩)
theorem eq_l (x y : Option PR) : cmpD .eq (lackD x) (lackD y) = .ok (.bl (decide (x = y))) := by
  rw [cmpD, eqD_l]; exact guardR_t (eqOk_l x y)
theorem ne_l (x y : Option PR) : cmpD .ne (lackD x) (lackD y) = .ok (.bl (!decide (x = y))) := by
  rw [cmpD, eqD_l]; exact guardR_t (eqOk_l x y)
theorem rn_if_f {T : Tab} {ρ : PD.Env} {c : Ex} {s1 s2 : Sts} {X : R Fl} (he : ev T c ρ = .ok (.bl false)) (h : rns T s2 ρ = X) : rn T (.ife c s1 s2) ρ = X := bindO he h
theorem below_t {a : List Nat} {m n : Nat} (hl : a.length = m) (h : ∀ x ∈ a, x < n) : belowB a m n = true := by
  unfold belowB
  rw [decide_eq_true hl, Bool.true_and, List.all_eq_true]
  exact fun x hx => decide_eq_true (h x hx)
abbrev E76 (ns : List Int) (nm mo : List Nat) (b : List Nat) (bs co : List (List Nat)) (m : Nat) (d8 d9 : D) (o10 o11 o12 : Option OD) : PD.Env := [sh (.scr (ns.map .int)), sh (lD nm), sh (lD mo), sh (rD b), sh (.tup (bs.map rD)), sh (bookD b bs), sh (coD co), sh (nD m), sh d8, sh d9, o10, o11, o12]
section
variable {k : Nat} {b : List Nat} {bs co : List (List Nat)}
theorem tail76 (hm : b ∈ backs) (hg : Good b bs co) (hn : co.length < 7) (ns : List Int) {nm mo : List Nat} (hnm : nm.length = 30) (m : Nat) (d8 d9 : D) (o10 o11 o12 : Option OD) :
    (rns (Tb (k+8)) (.cons (.ret (.call 53 (.cons (.var 5) (.cons (.var 6) (.cons (.idx (.lst (.cons (.neg (.cI 1)) (.cons (.cI 5) (.cons (.cB true) (.cons (.cS "2") (.cons .cN .nil)))))) (.bin .mod (.idx (.var 1) (.cI 7)) (.cI 5))) .nil))))) .nil) (E76 ns nm mo b bs co m d8 d9 o10 o11 o12)).bind f54.fin = .ok (.bl true) := by
  obtain ⟨v7, hv7⟩ : ∃ v, nm[7]? = some v := ⟨nm[7]'(by omega), List.getElem?_eq_getElem _⟩
  have h75 : v7 % 5 < bads.length := Nat.mod_lt _ (by decide)
  obtain ⟨x, hx⟩ : ∃ x, bads[v7 % 5]? = some x := ⟨_, List.getElem?_eq_getElem h75⟩
  have hbad := List.mem_of_getElem? hx
  have ei : ev (Tb (k+8)) (.idx (.lst (.cons (.neg (.cI 1)) (.cons (.cI 5) (.cons (.cB true) (.cons (.cS "2") (.cons .cN .nil)))))) (.bin .mod (.idx (.var 1) (.cI 7)) (.cI 5))) (E76 ns nm mo b bs co m d8 d9 o10 o11 o12) = .ok x :=
    (ev_idx (x := .lst bads) (y := nD (v7 % 5)) rfl (evn_mod (y := 5) ((ev_idx (x := lD nm) (y := nD 7) rfl rfl).trans (idx_ln hv7)) rfl (by decide))).trans (idx_l hx)
  exact ret_b (cl (xs := [bookD b bs, coD co, x]) (evsC rfl (evsC rfl (evs1 ei))) (c53 (k := k) (back_ok hm) hg (by omega) hbad)) fun _ => rfl
def sElse : Sts := match f54.body with
  | .cons _ (.cons _ (.cons _ (.cons _ (.cons _ (.cons _ (.cons _ (.cons _ (.cons _ (.cons (.ife _ _ s) _))))))))) => s
  | r => r
theorem mid76 (hm : b ∈ backs) (hg : Good b bs co) (hn : co.length < 7) (ns : List Int) {nm mo : List Nat} {m : Nat} (hm4 : m < 4) {p : PR} (hp : lackR b bs co m = some p) :
    ∃ o10 o11 o12, rns (Tb (k+8)) sElse (E76 ns nm mo b bs co m (prD p) (prD p) none none none) = .ok (.nx (E76 ns nm mo b bs co m (prD p) (prD p) o10 o11 o12)) := by
  have hb := back_ok hm
  obtain ⟨g1, g2, g3, g4⟩ := lack_ok hp
  obtain ⟨r1, r2⟩ := rows_ok g3
  have e1 : ev (Tb (k+8)) (.or (.not (.isi (.var 9) .tuple)) (.or (.cmp .ne (.bi .len (.cons (.var 9) .nil)) (.cI 2)) (.cmp .ne (.var 9) (.var 8)))) (E76 ns nm mo b bs co m (prD p) (prD p) none none none) = .ok (.bl false) := by
    refine ev_or_f (evNot (k := true) rfl) (ev_or_f ((ev_cmp (x := nD 2) (y := nD 2) (ev_bi (evs1 (x := prD p) rfl) rfl) rfl).trans ((ne_i _ _).trans (by rw [decide_eq_true rfl]; rfl))) ((ev_cmp (x := lackD (some p)) (y := lackD (some p)) rfl rfl).trans ((ne_l _ _).trans (by rw [decide_eq_true rfl]; rfl))))
  have el : ∀ (o10 o11 o12 : Option OD), ev (Tb (k+8)) (.bi .len (.cons (.idx (.var 8) (.cI 0)) .nil)) (E76 ns nm mo b bs co m (prD p) (prD p) o10 o11 o12) = .ok (nD p.1.length) := fun _ _ _ => ev_bi (evs1 (x := rD p.1) rfl) (len_r p.1)
  have e2 : ev (Tb (k+8)) (.not (.call 22 (.cons (.idx (.var 9) (.cI 0)) (.cons (.bi .len (.cons (.idx (.var 8) (.cI 0)) .nil)) (.cons (.bi .len (.cons (.var 6) .nil)) .nil))))) (E76 ns nm mo b bs co m (prD p) (prD p) none none none) = .ok (.bl false) :=
    evNot (k := true) (cl (xs := [rD p.1, nD p.1.length, nD co.length]) (evsC rfl (evsC (el _ _ _) (evs1 (ev_bi (evs1 (x := coD co) rfl) (len_co co))))) ((c22g rfl rfl).trans (by rw [below_t rfl g2.bel])))
  have e3 : ev (Tb (k+8)) (.not (.call 22 (.cons (.idx (.var 9) (.cI 1)) (.cons (.bi .len (.cons (.idx (.var 8) (.cI 0)) .nil)) (.cons (.bi .len (.cons (.var 3) .nil)) .nil))))) (E76 ns nm mo b bs co m (prD p) (prD p) none none none) = .ok (.bl false) :=
    evNot (k := true) (cl (xs := [rD p.2, nD p.1.length, nD b.length]) (evsC rfl (evsC (el _ _ _) (evs1 (ev_bi (evs1 (x := rD b) rfl) (len_r b))))) ((c22g rfl rfl).trans (by rw [below_t r1 r2])))
  have ec : ev (Tb (k+8)) (.call 41 (.cons (.idx (.var 8) (.cI 0)) (.cons (.idx (.var 8) (.cI 1)) .nil))) (E76 ns nm mo b bs co m (prD p) (prD p) none none none) = .ok (.lst ((toldQ (prsQ p.1 p.2 p.1.length)).map rD)) :=
    cl (xs := [rD p.1, rD p.2]) rfl (c41 (k := k+7) (by omega) (by omega))
  have hQ := rows_wok (bs := bs) g2 (Nat.le_refl _) g3
  have hQl : (prsQ p.1 p.2 p.1.length).length ≤ 10 := by
    unfold prsQ
    rw [List.length_map, List.length_range]
    omega
  have e4 := fun d (h : callF B fi sub fu (k+8) 48 [rD b, .tup (bs.map rD), coD co, .lst ((toldQ (prsQ p.1 p.2 p.1.length)).map rD)] = .ok d) => cl (xs := [rD b, .tup (bs.map rD), coD co, .lst ((toldQ (prsQ p.1 p.2 p.1.length)).map rD)]) (es := .cons (.var 3) (.cons (.var 4) (.cons (.var 6) (.cons (.call 41 (.cons (.idx (.var 8) (.cI 0)) (.cons (.idx (.var 8) (.cI 1)) .nil))) .nil)))) (evsC rfl (evsC rfl (evsC rfl (evs1 ec)))) h
  rcases c48 (k := k+3) (bs := bs) hb hg.rows (by omega) hQ hQl with ⟨T, R, hS, h48⟩ | h48
  · have hg' := std_grow hm hg hS
    have hl' : (co ++ [R]).length = co.length + 1 := by rw [List.length_append]; rfl
    have hne : lackR b bs (co ++ [R]) p.1.length ≠ some p := fun z => by
      obtain ⟨_, _, _, q4⟩ := lack_ok z
      exact std_ful g2 r1 hS q4
    have e11 : ev (Tb (k+8)) (.bin .add (.var 6) (.tup (.cons (.var 10) .nil))) (E76 ns nm mo b bs co m (prD p) (prD p) (sh (rD R)) none none) = .ok (coD (co ++ [R])) := by
      refine (ev_addt (xs := co.map rD) (ys := [rD R]) rfl rfl (by rw [List.length_map]; show co.length + 1 ≤ _; omega)).trans ?_
      show PD.R.ok (D.tup (co.map rD ++ [rD R])) = PD.R.ok (D.tup ((co ++ [R]).map rD))
      rw [List.map_append]; rfl
    have e12 : ev (Tb (k+8)) (.call 52 (.cons (.var 5) (.cons (.var 11) (.cons (.bi .len (.cons (.idx (.var 8) (.cI 0)) .nil)) .nil)))) (E76 ns nm mo b bs co m (prD p) (prD p) (sh (rD R)) (sh (coD (co ++ [R]))) none) = .ok (lackD (lackR b bs (co ++ [R]) p.1.length)) :=
      cl (xs := [bookD b bs, coD (co ++ [R]), nD p.1.length]) (evsC rfl (evsC rfl (evs1 (el _ _ _)))) (c52 (k := k+1) hb hg' (by omega) (by omega))
    have e13 : ev (Tb (k+8)) (.or (.cmp .eq (.var 12) (.var 8)) (.cmp .ne (.var 12) (.call 50 (.cons (.var 3) (.cons (.var 4) (.cons (.var 11) (.cons (.bi .len (.cons (.idx (.var 8) (.cI 0)) .nil)) .nil))))))) (E76 ns nm mo b bs co m (prD p) (prD p) (sh (rD R)) (sh (coD (co ++ [R]))) (sh (lackD (lackR b bs (co ++ [R]) p.1.length)))) = .ok (.bl false) :=
      ev_or_f ((ev_cmp (x := lackD (lackR b bs (co ++ [R]) p.1.length)) (y := lackD (some p)) rfl rfl).trans ((eq_l _ _).trans (by rw [decide_eq_false hne])))
        ((ev_cmp (x := lackD (lackR b bs (co ++ [R]) p.1.length)) (y := lackD (lackR b bs (co ++ [R]) p.1.length)) rfl (cl (xs := [rD b, .tup (bs.map rD), coD (co ++ [R]), nD p.1.length]) (evsC rfl (evsC rfl (evsC rfl (evs1 (el _ _ _))))) (c50 (k := k+2) hb hg'.rows (by omega) (by omega)))).trans ((ne_l _ _).trans (by rw [decide_eq_true rfl]; rfl)))
    refine ⟨sh (rD R), sh (coD (co ++ [R])), sh (lackD (lackR b bs (co ++ [R]) p.1.length)), ?_⟩
    refine stp (rn_if_n e1) (stp (rn_if_n e2) (stp (rn_if_n e3) (stp (ρ' := E76 ns nm mo b bs co m (prD p) (prD p) (sh (rD R)) none none) (rn_asg (e4 _ h48) rfl rfl rfl) (stp ?_ rfl))))
    exact rn_if_t rfl (stp (ρ' := E76 ns nm mo b bs co m (prD p) (prD p) (sh (rD R)) (sh (coD (co ++ [R]))) none) (rn_asg e11 rfl rfl rfl) (stp (ρ' := E76 ns nm mo b bs co m (prD p) (prD p) (sh (rD R)) (sh (coD (co ++ [R]))) (sh (lackD (lackR b bs (co ++ [R]) p.1.length)))) (rn_asg e12 rfl rfl rfl) (stp (rn_if_n e13) rfl)))
  · refine ⟨sh .non, none, none, ?_⟩
    exact stp (rn_if_n e1) (stp (rn_if_n e2) (stp (rn_if_n e3) (stp (ρ' := E76 ns nm mo b bs co m (prD p) (prD p) (sh .non) none none) (rn_asg (e4 _ h48) rfl rfl rfl) (stp (rn_if_n rfl) rfl))))
end
theorem math (ns : List Int) (hns : ns.length ≤ 63) : callF B fi sub fu 20 lawI [.scr (ns.map .int)] = .ok (.bl true) := by
  obtain ⟨nm, hl, h1⟩ := c1a (B := B) (fi := fi) (sub := sub) (fu := fu) rfl rfl (k := 17) ns 0
  obtain ⟨mo, hl2, h2⟩ := c1a (B := B) (fi := fi) (sub := sub) (fu := fu) rfl rfl (k := 17) ns 2
  obtain ⟨b1, bs1, hbm1, hs1, h14⟩ := c14 (B := B) (fi := fi) (sub := sub) (fu := fu) (k := 15) rfl rfl rfl rfl rfl hl
  obtain ⟨b2, bs2, hbm2, hs2, h24⟩ := c24 (B := B) (fi := fi) (sub := sub) (fu := fu) (k := 15) rfl rfl rfl rfl rfl rfl hl
  obtain ⟨v4, hv4⟩ : ∃ v, nm[4]? = some v := ⟨nm[4]'(by omega), List.getElem?_eq_getElem _⟩
  obtain ⟨v5, hv5⟩ : ∃ v, nm[5]? = some v := ⟨nm[5]'(by omega), List.getElem?_eq_getElem _⟩
  obtain ⟨v6, hv6⟩ : ∃ v, nm[6]? = some v := ⟨nm[6]'(by omega), List.getElem?_eq_getElem _⟩
  have hm7 := Nat.mod_lt v4 (show 0 < 7 by decide)
  have hm4 := Nat.mod_lt v6 (show 0 < 4 by decide)
  refine callF_run (k := 19) (f := f54) (ρ := [sh (.scr (ns.map .int)), none, none, none, none, none, none, none, none, none, none, none, none]) rfl rfl rfl ?_
  refine stepB (ρ' := [sh (.scr (ns.map .int)), sh (lD nm), none, none, none, none, none, none, none, none, none, none, none]) (rn_asg (cl (xs := [.scr (ns.map .int), .int 0, .int 30]) rfl h1) rfl rfl rfl) ?_
  refine stepB (ρ' := [sh (.scr (ns.map .int)), sh (lD nm), sh (lD mo), none, none, none, none, none, none, none, none, none, none]) (rn_asg (cl (xs := [.scr (ns.map .int), .int 2, .int 30]) rfl h2) rfl rfl rfl) ?_
  refine stepB (ρ' := [sh (.scr (ns.map .int)), sh (lD nm), sh (lD mo), sh (rD b1), sh (.tup (bs1.map rD)), none, none, none, none, none, none, none, none]) (rn_asgt (cl (xs := [lD nm]) rfl h14) rfl rfl) ?_
  have hc : ev (Tb 19) (.cmp .eq (.bin .mod (.idx (.var 1) (.cI 5)) (.cI 2)) (.cI 0)) [sh (.scr (ns.map .int)), sh (lD nm), sh (lD mo), sh (rD b1), sh (.tup (bs1.map rD)), none, none, none, none, none, none, none, none] = .ok (.bl (decide (v5 % 2 = 0))) :=
    evn_eq (evn_mod (y := 2) ((ev_idx (x := lD nm) (y := nD 5) rfl rfl).trans (idx_ln hv5)) rfl (by decide)) rfl
  obtain ⟨b, bs, hbm, hs, hst⟩ : ∃ b bs, b ∈ backs ∧ List.Sublist bs (formsOf b) ∧ rn (Tb 19) (.ife (.cmp .eq (.bin .mod (.idx (.var 1) (.cI 5)) (.cI 2)) (.cI 0)) (.cons (.asg (.t (.cons (.n 3) (.cons (.n 4) .nil))) (.call 24 (.cons (.var 1) .nil))) .nil) .nil) [sh (.scr (ns.map .int)), sh (lD nm), sh (lD mo), sh (rD b1), sh (.tup (bs1.map rD)), none, none, none, none, none, none, none, none] = .ok (.nx [sh (.scr (ns.map .int)), sh (lD nm), sh (lD mo), sh (rD b), sh (.tup (bs.map rD)), none, none, none, none, none, none, none, none]) := by
    by_cases hz : v5 % 2 = 0
    · rw [decide_eq_true hz] at hc
      exact ⟨b2, bs2, hbm2, hs2, rn_if_t hc (stp (rn_asgt (cl (xs := [lD nm]) rfl h24) rfl rfl) rfl)⟩
    · rw [decide_eq_false hz] at hc
      exact ⟨b1, bs1, hbm1, hs1, rn_if_n hc⟩
  have hb := back_ok hbm
  have h9 := c9b (B := B) (fi := fi) (sub := sub) (k := 14) (m := fu - 4) rfl rfl rfl rfl rfl rfl rfl rfl hf hb hs
  rw [← fu_ok] at h9
  obtain ⟨co, hg, hcl, h28⟩ := c28 (B := B) (fi := fi) (sub := sub) (fu := fu) (k := 13) (bs := bs) (nm := mo) (m := v4 % 7) lw_ rfl hbm hl2 (by omega)
  refine stepB hst ?_
  refine stepB (ρ' := [sh (.scr (ns.map .int)), sh (lD nm), sh (lD mo), sh (rD b), sh (.tup (bs.map rD)), sh (bookD b bs), none, none, none, none, none, none, none]) (rn_asg (cm (xs := [rD b, .tup (bs.map rD)]) rfl h9) rfl rfl rfl) ?_
  refine stepB (ρ' := [sh (.scr (ns.map .int)), sh (lD nm), sh (lD mo), sh (rD b), sh (.tup (bs.map rD)), sh (bookD b bs), sh (coD co), none, none, none, none, none, none]) (rn_asg (cl (xs := [rD b, .tup (bs.map rD), lD mo, nD (v4 % 7)]) (evsC rfl (evsC rfl (evsC rfl (evs1 (evn_mod (y := 7) (ev_bi (evs1 ((ev_idx (x := lD nm) (y := nD 4) rfl rfl).trans (idx_ln hv4))) rfl) rfl (by decide)))))) h28) rfl rfl rfl) ?_
  refine stepB (ρ' := [sh (.scr (ns.map .int)), sh (lD nm), sh (lD mo), sh (rD b), sh (.tup (bs.map rD)), sh (bookD b bs), sh (coD co), sh (nD (v6 % 4)), none, none, none, none, none]) (rn_asg (evn_mod (y := 4) ((ev_idx (x := lD nm) (y := nD 6) rfl rfl).trans (idx_ln hv6)) rfl (by decide)) rfl rfl rfl) ?_
  refine stepB (ρ' := [sh (.scr (ns.map .int)), sh (lD nm), sh (lD mo), sh (rD b), sh (.tup (bs.map rD)), sh (bookD b bs), sh (coD co), sh (nD (v6 % 4)), sh (lackD (lackR b bs co (v6 % 4))), none, none, none, none]) (rn_asg (cl (xs := [rD b, .tup (bs.map rD), coD co, nD (v6 % 4)]) rfl (c50 (k := 13) hb hg.rows (by omega) hm4)) rfl rfl rfl) ?_
  refine stepB (ρ' := E76 ns nm mo b bs co (v6 % 4) (lackD (lackR b bs co (v6 % 4))) (lackD (lackR b bs co (v6 % 4))) none none none) (rn_asg (cl (xs := [bookD b bs, coD co, nD (v6 % 4)]) rfl (c52 (k := 12) hb hg (by omega) hm4)) rfl rfl rfl) ?_
  cases hlk : lackR b bs co (v6 % 4) with
  | none => exact stepB (rn_if_t rfl (stp (rn_if_n rfl) rfl)) (tail76 (k := 11) hbm hg (by omega) ns hl _ _ _ _ _ _)
  | some p =>
    obtain ⟨o10, o11, o12, hmid⟩ := mid76 (k := 11) (bs := bs) hbm hg (by omega) ns (nm := nm) (mo := mo) hm4 hlk
    exact stepB (rn_if_f rfl hmid) (tail76 (k := 11) hbm hg (by omega) ns hl _ _ _ _ _ _)
end K76
end

section
set_option Elab.async false
set_option linter.all false
set_option maxRecDepth 100000
set_option maxHeartbeats 0
namespace K76
open PySem PySem.Spec PyProof.Rows L2 PD
def top (i : Nat) : Stmt := PySem.Challenge.pw_wishmet_k76_lacking.main.body.getD i (.Pass ⟨0, 0, 0, 0⟩)
def d0 : He.DefD := ⟨("_law_cell", none), "_law_cell", "_law_cell", defArgs (top 35), defBody (top 35), defScope (top 35), [], []⟩
def t0 : FnT := ⟨["script", "k"], ["script", "k"], defBody (top 35), defScope (top 35)⟩
def d1 : He.DefD := ⟨("_law_numbers", none), "_law_numbers", "_law_numbers", defArgs (top 36), defBody (top 36), defScope (top 36), [], []⟩
def t1 : FnT := ⟨["script", "at", "many", "cell", "great", "numbers", "k"], ["script", "at", "many"], defBody (top 36), defScope (top 36)⟩
def d2 : He.DefD := ⟨("all_rows", none), "all_rows", "all_rows", defArgs (top 4), defBody (top 4), defScope (top 4), [], []⟩
def t2 : FnT := ⟨["many", "bound", "rows", "row", "number"], ["many", "bound"], defBody (top 4), defScope (top 4)⟩
def d3 : He.DefD := ⟨("is_whole", none), "is_whole", "is_whole", defArgs (top 1), defBody (top 1), defScope (top 1), [], []⟩
def t3 : FnT := ⟨["thing"], ["thing"], defBody (top 1), defScope (top 1)⟩
def d4 : He.DefD := ⟨("is_below", none), "is_below", "is_below", defArgs (top 2), defBody (top 2), defScope (top 2), [], []⟩
def t4 : FnT := ⟨["thing", "bound"], ["thing", "bound"], defBody (top 2), defScope (top 2)⟩
def d5 : He.DefD := ⟨("is_back", none), "is_back", "is_back", defArgs (top 31), defBody (top 31), defScope (top 31), [], []⟩
def t5 : FnT := ⟨["thing", "kind"], ["thing"], defBody (top 31), defScope (top 31)⟩
def d6 : He.DefD := ⟨("are_below", none), "are_below", "are_below", defArgs (top 3), defBody (top 3), defScope (top 3), [], []⟩
def t6 : FnT := ⟨["thing", "many", "bound", "number"], ["thing", "many", "bound"], defBody (top 3), defScope (top 3)⟩
def d7 : He.DefD := ⟨("orders_of", none), "orders_of", "orders_of", defArgs (top 30), defBody (top 30), defScope (top 30), [], []⟩
def t7 : FnT := ⟨["back", "trio", "p", "q", "r"], ["back", "trio"], defBody (top 30), defScope (top 30)⟩
def d8 : He.DefD := ⟨("are_barred", none), "are_barred", "are_barred", defArgs (top 32), defBody (top 32), defScope (top 32), [], []⟩
def t8 : FnT := ⟨["back", "thing", "at", "trio"], ["back", "thing"], defBody (top 32), defScope (top 32)⟩
def d9 : He.DefD := ⟨("Book", some "__init__"), "__init__", "Book.__init__", defArgs (inClass (top 33) 0), defBody (inClass (top 33) 0), defScope (inClass (top 33) 0), [], []⟩
def t9 : FnT := ⟨["self", "back", "barred", "trio"], ["self", "back", "barred"], defBody (inClass (top 33) 0), defScope (inClass (top 33) 0)⟩
def d10 : He.DefD := ⟨("_law_backs", none), "_law_backs", "_law_backs", defArgs (top 39), defBody (top 39), defScope (top 39), [], []⟩
def t10 : FnT := ⟨["backs"], [], defBody (top 39), defScope (top 39)⟩
def d11 : He.DefD := ⟨("_law_tellings", none), "_law_tellings", "_law_tellings", defArgs (top 40), defBody (top 40), defScope (top 40), [], []⟩
def t11 : FnT := ⟨["back", "p", "q", "r", "told"], ["back", "p", "q", "r"], defBody (top 40), defScope (top 40)⟩
def d12 : He.DefD := ⟨("_law_form", none), "_law_form", "_law_form", defArgs (top 41), defBody (top 41), defScope (top 41), [], []⟩
def t12 : FnT := ⟨["back", "p", "q", "r"], ["back", "p", "q", "r"], defBody (top 41), defScope (top 41)⟩
def d13 : He.DefD := ⟨("_law_forms", none), "_law_forms", "_law_forms", defArgs (top 42), defBody (top 42), defScope (top 42), [], []⟩
def t13 : FnT := ⟨["back", "forms", "kinds", "number", "form"], ["back"], defBody (top 42), defScope (top 42)⟩
def d14 : He.DefD := ⟨("_law_any_book", none), "_law_any_book", "_law_any_book", defArgs (top 46), defBody (top 46), defScope (top 46), [], []⟩
def t14 : FnT := ⟨["numbers", "back", "forms", "barred", "k"], ["numbers"], defBody (top 46), defScope (top 46)⟩
def d15 : He.DefD := ⟨("_law_is_number", none), "_law_is_number", "_law_is_number", defArgs (top 37), defBody (top 37), defScope (top 37), [], []⟩
def t15 : FnT := ⟨["thing"], ["thing"], defBody (top 37), defScope (top 37)⟩
def d16 : He.DefD := ⟨("_law_let", none), "_law_let", "_law_let", defArgs (top 43), defBody (top 43), defScope (top 43), [], []⟩
def t16 : FnT := ⟨["back", "barred", "p", "q", "r"], ["back", "barred", "p", "q", "r"], defBody (top 43), defScope (top 43)⟩
def d17 : He.DefD := ⟨("all_kinds", none), "all_kinds", "all_kinds", defArgs (top 22), defBody (top 22), defScope (top 22), [], []⟩
def t17 : FnT := ⟨["book"], ["book"], defBody (top 22), defScope (top 22)⟩
def d22 : He.DefD := ⟨("_law_is_row", none), "_law_is_row", "_law_is_row", defArgs (top 38), defBody (top 38), defScope (top 38), [], []⟩
def t22 : FnT := ⟨["thing", "many", "bound", "piece"], ["thing", "many", "bound"], defBody (top 38), defScope (top 38)⟩
def d23 : He.DefD := ⟨("_law_known", none), "_law_known", "_law_known", defArgs (top 44), defBody (top 44), defScope (top 44), [], []⟩
def t23 : FnT := ⟨["number", "books"], ["number"], defBody (top 44), defScope (top 44)⟩
def d24 : He.DefD := ⟨("_law_knit", none), "_law_knit", "_law_knit", defArgs (top 45), defBody (top 45), defScope (top 45), [], []⟩
def t24 : FnT := ⟨["numbers", "back", "own", "keep", "barred", "forms", "k", "kind"], ["numbers"], defBody (top 45), defScope (top 45)⟩
def d25 : He.DefD := ⟨("_law_kind", none), "_law_kind", "_law_kind", defArgs (top 47), defBody (top 47), defScope (top 47), [], []⟩
def t25 : FnT := ⟨["back", "company", "a", "b"], ["back", "company", "a", "b"], defBody (top 47), defScope (top 47)⟩
def d26 : He.DefD := ⟨("_law_lets", none), "_law_lets", "_law_lets", defArgs (top 48), defBody (top 48), defScope (top 48), [], []⟩
def t26 : FnT := ⟨["back", "barred", "company", "told", "person", "kind", "pair"], ["back", "barred", "company", "told", "person", "kind"], defBody (top 48), defScope (top 48)⟩
def d27 : He.DefD := ⟨("_law_row", none), "_law_row", "_law_row", defArgs (top 49), defBody (top 49), defScope (top 49), [], []⟩
def t27 : FnT := ⟨["back", "barred", "company", "numbers", "at", "told", "kinds", "person", "found", "k", "kind", "pair"], ["back", "barred", "company", "numbers", "at"], defBody (top 49), defScope (top 49)⟩
def d28 : He.DefD := ⟨("_law_company", none), "_law_company", "_law_company", defArgs (top 50), defBody (top 50), defScope (top 50), [], []⟩
def t28 : FnT := ⟨["back", "barred", "numbers", "many", "company", "k", "row"], ["back", "barred", "numbers", "many"], defBody (top 50), defScope (top 50)⟩
def d29 : He.DefD := ⟨("is_company", none), "is_company", "is_company", defArgs (top 12), defBody (top 12), defScope (top 12), [], []⟩
def t29 : FnT := ⟨["book", "thing", "at", "row"], ["book", "thing"], defBody (top 12), defScope (top 12)⟩
def d30 : He.DefD := ⟨("choices_of", none), "choices_of", "choices_of", defArgs (top 5), defBody (top 5), defScope (top 5), [], []⟩
def t30 : FnT := ⟨["things", "many", "found", "turn", "longer", "row", "begin", "at"], ["things", "many"], defBody (top 5), defScope (top 5)⟩
def d31 : He.DefD := ⟨("kind_from", none), "kind_from", "kind_from", defArgs (top 13), defBody (top 13), defScope (top 13), [], []⟩
def t31 : FnT := ⟨["book", "company", "a", "b"], ["book", "company", "a", "b"], defBody (top 13), defScope (top 13)⟩
def d32 : He.DefD := ⟨("is_let", none), "is_let", "is_let", defArgs (top 14), defBody (top 14), defScope (top 14), [], []⟩
def t32 : FnT := ⟨["book", "company", "a", "b", "c", "trio"], ["book", "company", "a", "b", "c"], defBody (top 14), defScope (top 14)⟩
def d33 : He.DefD := ⟨("broken_trios", none), "broken_trios", "broken_trios", defArgs (top 15), defBody (top 15), defScope (top 15), [], []⟩
def t33 : FnT := ⟨["book", "company", "found", "a", "b", "c"], ["book", "company"], defBody (top 15), defScope (top 15)⟩
def d34 : He.DefD := ⟨("is_lawful", none), "is_lawful", "is_lawful", defArgs (top 16), defBody (top 16), defScope (top 16), [], []⟩
def t34 : FnT := ⟨["book", "thing"], ["book", "thing"], defBody (top 16), defScope (top 16)⟩
def d35 : He.DefD := ⟨("lawful_asked", none), "lawful_asked", "lawful_asked", defArgs (top 17), defBody (top 17), defScope (top 17), [], []⟩
def t35 : FnT := ⟨["book", "company"], ["book", "company"], defBody (top 17), defScope (top 17)⟩
def d37 : He.DefD := ⟨("lets_kind", none), "lets_kind", "lets_kind", defArgs (top 20), defBody (top 20), defScope (top 20), [], []⟩
def t37 : FnT := ⟨["book", "company", "told", "person", "kind", "other"], ["book", "company", "told", "person", "kind"], defBody (top 20), defScope (top 20)⟩
def d38 : He.DefD := ⟨("fulfilling", none), "fulfilling", "fulfilling", defArgs (top 23), defBody (top 23), defScope (top 23), [], []⟩
def t38 : FnT := ⟨["book", "company", "lot", "wish", "told", "person", "kinds", "other"], ["book", "company", "lot", "wish"], defBody (top 23), defScope (top 23)⟩
def d39 : He.DefD := ⟨("_law_kinds_to", none), "_law_kinds_to", "_law_kinds_to", defArgs (top 51), defBody (top 51), defScope (top 51), [], []⟩
def t39 : FnT := ⟨["back", "company", "person", "lot", "other"], ["back", "company", "person", "lot"], defBody (top 51), defScope (top 51)⟩
def d40 : He.DefD := ⟨("_law_fulfilling", none), "_law_fulfilling", "_law_fulfilling", defArgs (top 52), defBody (top 52), defScope (top 52), [], []⟩
def t40 : FnT := ⟨["back", "company", "lot", "wish", "told", "person"], ["back", "company", "lot", "wish"], defBody (top 52), defScope (top 52)⟩
def d41 : He.DefD := ⟨("_law_pairs", none), "_law_pairs", "_law_pairs", defArgs (top 53), defBody (top 53), defScope (top 53), [], []⟩
def t41 : FnT := ⟨["lot", "wish", "k"], ["lot", "wish"], defBody (top 53), defScope (top 53)⟩
def d44 : He.DefD := ⟨("rows_over", none), "rows_over", "rows_over", defArgs (top 21), defBody (top 21), defScope (top 21), [], []⟩
def t44 : FnT := ⟨["book", "company", "lot", "kinds", "rows", "at", "grown", "row", "told", "place", "kind"], ["book", "company", "lot", "kinds"], defBody (top 21), defScope (top 21)⟩
def d45 : He.DefD := ⟨("lots_by_size", none), "lots_by_size", "lots_by_size", defArgs (top 24), defBody (top 24), defScope (top 24), [], []⟩
def t45 : FnT := ⟨["persons", "many", "told", "at", "lot"], ["persons", "many"], defBody (top 24), defScope (top 24)⟩
def d46 : He.DefD := ⟨("is_number", none), "is_number", "is_number", defArgs (top 19), defBody (top 19), defScope (top 19), [], []⟩
def t46 : FnT := ⟨["thing", "least", "most"], ["thing", "least", "most"], defBody (top 19), defScope (top 19)⟩
def d47 : He.DefD := ⟨("_law_rows_over", none), "_law_rows_over", "_law_rows_over", defArgs (top 55), defBody (top 55), defScope (top 55), [], []⟩
def t47 : FnT := ⟨["back", "barred", "company", "lot", "rows", "k", "grown", "row", "kind"], ["back", "barred", "company", "lot"], defBody (top 55), defScope (top 55)⟩
def d48 : He.DefD := ⟨("_law_invited", none), "_law_invited", "_law_invited", defArgs (top 54), defBody (top 54), defScope (top 54), [], []⟩
def t48 : FnT := ⟨["back", "barred", "company", "asked", "told", "row", "person", "mine", "kind", "pair"], ["back", "barred", "company", "asked"], defBody (top 54), defScope (top 54)⟩
def d49 : He.DefD := ⟨("_law_lots", none), "_law_lots", "_law_lots", defArgs (top 56), defBody (top 56), defScope (top 56), [], []⟩
def t49 : FnT := ⟨["many", "size", "lots", "k", "grown", "lot", "first", "person"], ["many", "size"], defBody (top 56), defScope (top 56)⟩
def d50 : He.DefD := ⟨("_law_lack", none), "_law_lack", "_law_lack", defArgs (top 57), defBody (top 57), defScope (top 57), [], []⟩
def t50 : FnT := ⟨["back", "barred", "company", "m", "size", "lot", "wish"], ["back", "barred", "company", "m"], defBody (top 57), defScope (top 57)⟩
def d51 : He.DefD := ⟨("first_lack", none), "first_lack", "first_lack", defArgs (top 26), defBody (top 26), defScope (top 26), [], []⟩
def t51 : FnT := ⟨["book", "company", "m", "size", "lot", "wish"], ["book", "company", "m"], defBody (top 26), defScope (top 26)⟩
def d52 : He.DefD := ⟨("lacking", none), "lacking", "lacking", defArgs (top 27), defBody (top 27), defScope (top 27), [], []⟩
def t52 : FnT := ⟨["book", "company", "m"], ["book", "company", "m"], defBody (top 27), defScope (top 27)⟩
def d53 : He.DefD := ⟨("_law_refused", none), "_law_refused", "_law_refused", defArgs (top 58), defBody (top 58), defScope (top 58), [], []⟩
def t53 : FnT := ⟨["book", "company", "m", "e"], ["book", "company", "m"], defBody (top 58), defScope (top 58)⟩
def d54 : He.DefD := ⟨("law", none), "law", "law", defArgs (top 59), defBody (top 59), defScope (top 59), [], []⟩
def t54 : FnT := ⟨["script", "numbers", "more", "back", "barred", "book", "company", "m", "due", "told", "row", "grown", "later"], ["script"], defBody (top 59), defScope (top 59)⟩
def fn : List He.DefD := [d0, d1, d2, d3, d4, d5, d6, d7, d8, d9, d10, d11, d12, d13, d14, d15, d16, d17, d22, d23, d24, d25, d26, d27, d28, d29, d30, d31, d32, d33, d34, d35, d37, d38, d39, d40, d41, d44, d45, d46, d47, d48, d49, d50, d51, d52, d53, d54]
def fa : List He.Fa := [.glo "is_whole", .glo "is_below", .glo "are_below", .glo "all_rows", .glo "choices_of", .glo "WishError", .glo "BadBook", .glo "NoNumber", .glo "NotLawful", .glo "is_company", .glo "kind_from", .glo "is_let", .glo "broken_trios", .glo "is_lawful", .glo "lawful_asked", .glo "is_number", .glo "lets_kind", .glo "rows_over", .glo "all_kinds", .glo "fulfilling", .glo "lots_by_size", .glo "first_lack", .glo "lacking", .glo "orders_of", .glo "is_back", .glo "are_barred", .glo "Book", .glo "_law_cell", .glo "_law_numbers", .glo "_law_is_number", .glo "_law_is_row", .glo "_law_backs", .glo "_law_tellings", .glo "_law_form", .glo "_law_forms", .glo "_law_let", .glo "_law_known", .glo "_law_knit", .glo "_law_any_book", .glo "_law_kind", .glo "_law_lets", .glo "_law_row", .glo "_law_company", .glo "_law_kinds_to", .glo "_law_fulfilling", .glo "_law_pairs", .glo "_law_invited", .glo "_law_rows_over", .glo "_law_lots", .glo "_law_lack", .glo "_law_refused", .glo "law", .int "MOST_KINDS" 4, .free "ValueError", .free "abs", .free "all", .free "bool", .free "enumerate", .free "int", .free "isinstance", .free "len", .free "list", .free "min", .free "range", .free "sorted", .free "tuple", .cls "Book", .mkr "Book", .noat "Book" "back", .noat "Book" "barred", .noat "Book" "kinds", .noat "Book" "lets", .noat "Book" "known_knit", .exc "WishError", .exc "NoNumber", .exc "NotLawful"]
def en : List Str := ["WishError", "NoNumber", "NotLawful"]
def SX : Sx := ⟨[], (([some "_law_cell", some "_law_numbers", some "all_rows", some "is_whole", some "is_below", some "is_back", some "are_below", some "orders_of", some "are_barred", none, some "_law_backs", some "_law_tellings", some "_law_form", some "_law_forms", some "_law_any_book", some "_law_is_number", some "_law_let", some "all_kinds", none, none] : List (Option Str)) ++ ([none, none, some "_law_is_row", some "_law_known", some "_law_knit", some "_law_kind", some "_law_lets", some "_law_row", some "_law_company", some "is_company", some "choices_of", some "kind_from", some "is_let", some "broken_trios", some "is_lawful", some "lawful_asked", none, some "lets_kind", some "fulfilling", some "_law_kinds_to"] : List (Option Str)) ++ ([some "_law_fulfilling", some "_law_pairs", none, none, some "rows_over", some "lots_by_size", some "is_number", some "_law_rows_over", some "_law_invited", some "_law_lots", some "_law_lack", some "first_lack", some "lacking", some "_law_refused", some "law", none] : List (Option Str))), ["Book"], en, [("MOST_KINDS", 4)], [], ["ValueError", "abs", "all", "bool", "enumerate", "int", "isinstance", "len", "list", "min", "range", "sorted", "tuple"], cfL, (([none, none, none, none, none, none, none, none, none, some 0, none, none, none, none, none, none, none, none, none, none] : List (Option Nat)) ++ ([none, none, none, none, none, none, none, none, none, none, none, none, none, none, none, none, none, none, none, none] : List (Option Nat)) ++ ([none, none, none, none, none, none, none, none, none, none, none, none, none, none, none, none] : List (Option Nat)))⟩
theorem ok0 : t0.ok SX f0 = true := by kernel_rfl
theorem ok1 : t1.ok SX f1 = true := by kernel_rfl
theorem ok2 : t2.ok SX f2 = true := by kernel_rfl
theorem ok3 : t3.ok SX f3 = true := by kernel_rfl
theorem ok4 : t4.ok SX f4 = true := by kernel_rfl
theorem ok5 : t5.ok SX f5 = true := by kernel_rfl
theorem ok6 : t6.ok SX f6 = true := by kernel_rfl
theorem ok7 : t7.ok SX f7 = true := by kernel_rfl
theorem ok8 : t8.ok SX f8 = true := by kernel_rfl
theorem ok9 : t9.ok SX f9 = true := by kernel_rfl
theorem ok10 : t10.ok SX f10 = true := by kernel_rfl
theorem ok11 : t11.ok SX f11 = true := by kernel_rfl
theorem ok12 : t12.ok SX f12 = true := by kernel_rfl
theorem ok13 : t13.ok SX f13 = true := by kernel_rfl
theorem ok14 : t14.ok SX f14 = true := by kernel_rfl
theorem ok15 : t15.ok SX f15 = true := by kernel_rfl
theorem ok16 : t16.ok SX f16 = true := by kernel_rfl
theorem ok17 : t17.ok SX f17 = true := by kernel_rfl
theorem ok22 : t22.ok SX f22 = true := by kernel_rfl
theorem ok23 : t23.ok SX f23 = true := by kernel_rfl
theorem ok24 : t24.ok SX f24 = true := by kernel_rfl
theorem ok25 : t25.ok SX f25 = true := by kernel_rfl
theorem ok26 : t26.ok SX f26 = true := by kernel_rfl
theorem ok27 : t27.ok SX f27 = true := by kernel_rfl
theorem ok28 : t28.ok SX f28 = true := by kernel_rfl
theorem ok29 : t29.ok SX f29 = true := by kernel_rfl
theorem ok30 : t30.ok SX f30 = true := by kernel_rfl
theorem ok31 : t31.ok SX f31 = true := by kernel_rfl
theorem ok32 : t32.ok SX f32 = true := by kernel_rfl
theorem ok33 : t33.ok SX f33 = true := by kernel_rfl
theorem ok34 : t34.ok SX f34 = true := by kernel_rfl
theorem ok35 : t35.ok SX f35 = true := by kernel_rfl
theorem ok37 : t37.ok SX f37 = true := by kernel_rfl
theorem ok38 : t38.ok SX f38 = true := by kernel_rfl
theorem ok39 : t39.ok SX f39 = true := by kernel_rfl
theorem ok40 : t40.ok SX f40 = true := by kernel_rfl
theorem ok41 : t41.ok SX f41 = true := by kernel_rfl
theorem ok44 : t44.ok SX f44 = true := by kernel_rfl
theorem ok45 : t45.ok SX f45 = true := by kernel_rfl
theorem ok46 : t46.ok SX f46 = true := by kernel_rfl
theorem ok47 : t47.ok SX f47 = true := by kernel_rfl
theorem ok48 : t48.ok SX f48 = true := by kernel_rfl
theorem ok49 : t49.ok SX f49 = true := by kernel_rfl
theorem ok50 : t50.ok SX f50 = true := by kernel_rfl
theorem ok51 : t51.ok SX f51 = true := by kernel_rfl
theorem ok52 : t52.ok SX f52 = true := by kernel_rfl
theorem ok53 : t53.ok SX f53 = true := by kernel_rfl
theorem ok54 : t54.ok SX f54 = true := by kernel_rfl
def bs : PySem.W.Frag → Bool := moreB sub en
abbrev R : PySem.W.OpenRow := PySem.W.OpenLaw.row PySem.Challenge.rw_wishmet_k76_lacking
abbrev hk : PySem.W.Hook := hookP 5 fa fn bs
def ob (s : PySem.W.SharedT) : AlP := obsPG 5 fa fn bs (HandSHeadRun.getT s)
theorem ob_eq (s : PySem.W.SharedT) : ob s = hk.obs s.abs := obsPG_eq (HandSHeadRun.getT_eq s)
def loose : List PySem.Str := ((["is_whole", "is_below", "are_below", "all_rows", "choices_of", "WishError", "BadBook", "NoNumber", "NotLawful", "is_company", "kind_from", "is_let", "broken_trios", "is_lawful", "lawful_asked", "is_number", "lets_kind", "rows_over", "all_kinds", "fulfilling"] : List (PySem.Str)) ++ (["lots_by_size", "first_lack", "lacking", "MOST_KINDS", "orders_of", "is_back", "are_barred", "Book", "_law_cell", "_law_numbers", "_law_is_number", "_law_is_row", "_law_backs", "_law_tellings", "_law_form", "_law_forms", "_law_let", "_law_known", "_law_knit", "_law_any_book"] : List (PySem.Str)) ++ (["_law_kind", "_law_lets", "_law_row", "_law_company", "_law_kinds_to", "_law_fulfilling", "_law_pairs", "_law_invited", "_law_rows_over", "_law_lots", "_law_lack", "_law_refused"] : List (PySem.Str)))
theorem run (w : World) : HandSHeadRun.RunEq R (PySem.W.view R.prog [59]) hk ob 4000 loose w := by
  intro os
  kernel_rfl
def cfG (c : Nat) : List Str := (cfL[c]?).getD []
def caG (K : PySem.W.Frag) : Nat → Addr
  | 0 => He.ga K "Book"
  | _ => 0
def GG (K : PySem.W.Frag) : Sg := ⟨K, caG K, cfG, fun c => He.ga K (en.getD c ""), fun _ => "", en.length⟩
theorem facts {K : PySem.W.Frag} {h : Heap} {mg : Str → Option Value} (X : K.In h) (G : h.Ns mainGlobals mg) (c : He.SaysD fa fn K) (cb : bs K = true) : Facts (GG K) SX K mg B fi sub := by
  obtain ⟨fd0, F0⟩ := c.def_ 0 (d := d0) rfl
  obtain ⟨fd1, F1⟩ := c.def_ 1 (d := d1) rfl
  obtain ⟨fd2, F2⟩ := c.def_ 2 (d := d2) rfl
  obtain ⟨fd3, F3⟩ := c.def_ 3 (d := d3) rfl
  obtain ⟨fd4, F4⟩ := c.def_ 4 (d := d4) rfl
  obtain ⟨fd5, F5⟩ := c.def_ 5 (d := d5) rfl
  obtain ⟨fd6, F6⟩ := c.def_ 6 (d := d6) rfl
  obtain ⟨fd7, F7⟩ := c.def_ 7 (d := d7) rfl
  obtain ⟨fd8, F8⟩ := c.def_ 8 (d := d8) rfl
  obtain ⟨fd9, F9⟩ := c.def_ 9 (d := d9) rfl
  obtain ⟨fd10, F10⟩ := c.def_ 10 (d := d10) rfl
  obtain ⟨fd11, F11⟩ := c.def_ 11 (d := d11) rfl
  obtain ⟨fd12, F12⟩ := c.def_ 12 (d := d12) rfl
  obtain ⟨fd13, F13⟩ := c.def_ 13 (d := d13) rfl
  obtain ⟨fd14, F14⟩ := c.def_ 14 (d := d14) rfl
  obtain ⟨fd15, F15⟩ := c.def_ 15 (d := d15) rfl
  obtain ⟨fd16, F16⟩ := c.def_ 16 (d := d16) rfl
  obtain ⟨fd17, F17⟩ := c.def_ 17 (d := d17) rfl
  obtain ⟨fd22, F22⟩ := c.def_ 18 (d := d22) rfl
  obtain ⟨fd23, F23⟩ := c.def_ 19 (d := d23) rfl
  obtain ⟨fd24, F24⟩ := c.def_ 20 (d := d24) rfl
  obtain ⟨fd25, F25⟩ := c.def_ 21 (d := d25) rfl
  obtain ⟨fd26, F26⟩ := c.def_ 22 (d := d26) rfl
  obtain ⟨fd27, F27⟩ := c.def_ 23 (d := d27) rfl
  obtain ⟨fd28, F28⟩ := c.def_ 24 (d := d28) rfl
  obtain ⟨fd29, F29⟩ := c.def_ 25 (d := d29) rfl
  obtain ⟨fd30, F30⟩ := c.def_ 26 (d := d30) rfl
  obtain ⟨fd31, F31⟩ := c.def_ 27 (d := d31) rfl
  obtain ⟨fd32, F32⟩ := c.def_ 28 (d := d32) rfl
  obtain ⟨fd33, F33⟩ := c.def_ 29 (d := d33) rfl
  obtain ⟨fd34, F34⟩ := c.def_ 30 (d := d34) rfl
  obtain ⟨fd35, F35⟩ := c.def_ 31 (d := d35) rfl
  obtain ⟨fd37, F37⟩ := c.def_ 32 (d := d37) rfl
  obtain ⟨fd38, F38⟩ := c.def_ 33 (d := d38) rfl
  obtain ⟨fd39, F39⟩ := c.def_ 34 (d := d39) rfl
  obtain ⟨fd40, F40⟩ := c.def_ 35 (d := d40) rfl
  obtain ⟨fd41, F41⟩ := c.def_ 36 (d := d41) rfl
  obtain ⟨fd44, F44⟩ := c.def_ 37 (d := d44) rfl
  obtain ⟨fd45, F45⟩ := c.def_ 38 (d := d45) rfl
  obtain ⟨fd46, F46⟩ := c.def_ 39 (d := d46) rfl
  obtain ⟨fd47, F47⟩ := c.def_ 40 (d := d47) rfl
  obtain ⟨fd48, F48⟩ := c.def_ 41 (d := d48) rfl
  obtain ⟨fd49, F49⟩ := c.def_ 42 (d := d49) rfl
  obtain ⟨fd50, F50⟩ := c.def_ 43 (d := d50) rfl
  obtain ⟨fd51, F51⟩ := c.def_ 44 (d := d51) rfl
  obtain ⟨fd52, F52⟩ := c.def_ 45 (d := d52) rfl
  obtain ⟨fd53, F53⟩ := c.def_ 46 (d := d53) rfl
  obtain ⟨fd54, F54⟩ := c.def_ 47 (d := d54) rfl
  obtain ⟨cb1, cb⟩ := bb cb
  obtain ⟨cb2, cb3⟩ := bb cb
  rw [List.all_eq_true] at cb1
  refine { hG := rfl, gi := ?gi, gs := ?gs, free := ?free, cls := ?cls, cfS := fun _ => rfl, cfN := ?cfN, exn := ?exn, enE := rfl, ini := ?ini, kit := ?kit, kitV := ?kitV, exm := ?exm, hE := ?hE, fiOk := ?fiOk, fns := ?fns, mks := ?mks }
  case gi =>
    intro p hp
    rcases List.mem_cons.mp hp with rfl | hp
    · exact He.int_ok X G (c.fact 52 (f := .int "MOST_KINDS" 4) rfl)
    cases hp
  case gs =>
    intro p hp
    cases hp
  case free =>
    intro x hp
    rcases List.mem_cons.mp hp with rfl | hp
    · exact He.free_ok X G (c.fact 53 (f := .free "ValueError") rfl)
    rcases List.mem_cons.mp hp with rfl | hp
    · exact He.free_ok X G (c.fact 54 (f := .free "abs") rfl)
    rcases List.mem_cons.mp hp with rfl | hp
    · exact He.free_ok X G (c.fact 55 (f := .free "all") rfl)
    rcases List.mem_cons.mp hp with rfl | hp
    · exact He.free_ok X G (c.fact 56 (f := .free "bool") rfl)
    rcases List.mem_cons.mp hp with rfl | hp
    · exact He.free_ok X G (c.fact 57 (f := .free "enumerate") rfl)
    rcases List.mem_cons.mp hp with rfl | hp
    · exact He.free_ok X G (c.fact 58 (f := .free "int") rfl)
    rcases List.mem_cons.mp hp with rfl | hp
    · exact He.free_ok X G (c.fact 59 (f := .free "isinstance") rfl)
    rcases List.mem_cons.mp hp with rfl | hp
    · exact He.free_ok X G (c.fact 60 (f := .free "len") rfl)
    rcases List.mem_cons.mp hp with rfl | hp
    · exact He.free_ok X G (c.fact 61 (f := .free "list") rfl)
    rcases List.mem_cons.mp hp with rfl | hp
    · exact He.free_ok X G (c.fact 62 (f := .free "min") rfl)
    rcases List.mem_cons.mp hp with rfl | hp
    · exact He.free_ok X G (c.fact 63 (f := .free "range") rfl)
    rcases List.mem_cons.mp hp with rfl | hp
    · exact He.free_ok X G (c.fact 64 (f := .free "sorted") rfl)
    rcases List.mem_cons.mp hp with rfl | hp
    · exact He.free_ok X G (c.fact 65 (f := .free "tuple") rfl)
    cases hp
  case cls =>
    intro k f hf
    match k, hf with
    | 0, hf =>
      rcases List.mem_cons.mp hf with rfl | hf
      · exact ⟨He.cls_ok (c.fact 66 (f := .cls "Book") rfl), He.noat_ok (c.fact 68 (f := .noat "Book" "back") rfl)⟩
      rcases List.mem_cons.mp hf with rfl | hf
      · exact ⟨He.cls_ok (c.fact 66 (f := .cls "Book") rfl), He.noat_ok (c.fact 69 (f := .noat "Book" "barred") rfl)⟩
      rcases List.mem_cons.mp hf with rfl | hf
      · exact ⟨He.cls_ok (c.fact 66 (f := .cls "Book") rfl), He.noat_ok (c.fact 70 (f := .noat "Book" "kinds") rfl)⟩
      rcases List.mem_cons.mp hf with rfl | hf
      · exact ⟨He.cls_ok (c.fact 66 (f := .cls "Book") rfl), He.noat_ok (c.fact 71 (f := .noat "Book" "lets") rfl)⟩
      rcases List.mem_cons.mp hf with rfl | hf
      · exact ⟨He.cls_ok (c.fact 66 (f := .cls "Book") rfl), He.noat_ok (c.fact 72 (f := .noat "Book" "known_knit") rfl)⟩
      cases hf
    | n + 1, hf => cases hf
  case cfN =>
    intro c
    match c with
    | 0 => exact nodupB_ok rfl
    | n + 1 => exact List.nodup_nil
  case exn =>
    intro k x hx
    match k, hx with
    | 0, hx =>
      cases hx
      exact ⟨He.glo_ok X G (c.fact 5 (f := .glo "WishError") rfl), He.exc_ok (c.fact 73 (f := .exc "WishError") rfl)⟩
    | 1, hx =>
      cases hx
      exact ⟨He.glo_ok X G (c.fact 7 (f := .glo "NoNumber") rfl), He.exc_ok (c.fact 74 (f := .exc "NoNumber") rfl)⟩
    | 2, hx =>
      cases hx
      exact ⟨He.glo_ok X G (c.fact 8 (f := .glo "NotLawful") rfl), He.exc_ok (c.fact 75 (f := .exc "NotLawful") rfl)⟩
    | n + 3, hx => cases hx
  case ini =>
    intro f k hx
    match f, hx with
    | 0, hx => cases hx
    | 1, hx => cases hx
    | 2, hx => cases hx
    | 3, hx => cases hx
    | 4, hx => cases hx
    | 5, hx => cases hx
    | 6, hx => cases hx
    | 7, hx => cases hx
    | 8, hx => cases hx
    | 9, hx => cases hx; rfl
    | 10, hx => cases hx
    | 11, hx => cases hx
    | 12, hx => cases hx
    | 13, hx => cases hx
    | 14, hx => cases hx
    | 15, hx => cases hx
    | 16, hx => cases hx
    | 17, hx => cases hx
    | 18, hx => cases hx
    | 19, hx => cases hx
    | 20, hx => cases hx
    | 21, hx => cases hx
    | 22, hx => cases hx
    | 23, hx => cases hx
    | 24, hx => cases hx
    | 25, hx => cases hx
    | 26, hx => cases hx
    | 27, hx => cases hx
    | 28, hx => cases hx
    | 29, hx => cases hx
    | 30, hx => cases hx
    | 31, hx => cases hx
    | 32, hx => cases hx
    | 33, hx => cases hx
    | 34, hx => cases hx
    | 35, hx => cases hx
    | 36, hx => cases hx
    | 37, hx => cases hx
    | 38, hx => cases hx
    | 39, hx => cases hx
    | 40, hx => cases hx
    | 41, hx => cases hx
    | 42, hx => cases hx
    | 43, hx => cases hx
    | 44, hx => cases hx
    | 45, hx => cases hx
    | 46, hx => cases hx
    | 47, hx => cases hx
    | 48, hx => cases hx
    | 49, hx => cases hx
    | 50, hx => cases hx
    | 51, hx => cases hx
    | 52, hx => cases hx
    | 53, hx => cases hx
    | 54, hx => cases hx
    | 55, hx => cases hx
    | n + 56, hx => cases hx
  case kit => exact fun k e hk he => (kitB_ok cb2 hk he).1
  case kitV => exact fun k hk => kitVB_ok cb3 hk
  case exm => exact fun k e hk he => (kitB_ok cb2 hk he).2
  case hE =>
    intro k hk
    refine exB_ok (cb1 _ ?_)
    have hk : k < en.length := hk
    rw [show en.getD k "" = en[k] by simp [List.getD, List.getElem?_eq_getElem hk]]
    exact List.getElem_mem hk
  case fiOk => exact fun c y j h => idxS_ok h
  case fns =>
    intro f x hx
    match f, hx with
    | 0, hx =>
      cases hx
      exact ⟨t0, f0, _, _, _, _, _, rfl, rfl, ok0, F0, He.glo_ok X G (c.fact 27 (f := .glo "_law_cell") rfl), (FunD.bindsN (ps := ["script", "k"]) F0 fun _ _ _ _ _ _ us hl => match us, hl with | [_, _], _ => rfl)⟩
    | 1, hx =>
      cases hx
      exact ⟨t1, f1, _, _, _, _, _, rfl, rfl, ok1, F1, He.glo_ok X G (c.fact 28 (f := .glo "_law_numbers") rfl), (FunD.bindsN (ps := ["script", "at", "many"]) F1 fun _ _ _ _ _ _ us hl => match us, hl with | [_, _, _], _ => rfl)⟩
    | 2, hx =>
      cases hx
      exact ⟨t2, f2, _, _, _, _, _, rfl, rfl, ok2, F2, He.glo_ok X G (c.fact 3 (f := .glo "all_rows") rfl), (FunD.bindsN (ps := ["many", "bound"]) F2 fun _ _ _ _ _ _ us hl => match us, hl with | [_, _], _ => rfl)⟩
    | 3, hx =>
      cases hx
      exact ⟨t3, f3, _, _, _, _, _, rfl, rfl, ok3, F3, He.glo_ok X G (c.fact 0 (f := .glo "is_whole") rfl), (FunD.bindsN (ps := ["thing"]) F3 fun _ _ _ _ _ _ us hl => match us, hl with | [_], _ => rfl)⟩
    | 4, hx =>
      cases hx
      exact ⟨t4, f4, _, _, _, _, _, rfl, rfl, ok4, F4, He.glo_ok X G (c.fact 1 (f := .glo "is_below") rfl), (FunD.bindsN (ps := ["thing", "bound"]) F4 fun _ _ _ _ _ _ us hl => match us, hl with | [_, _], _ => rfl)⟩
    | 5, hx =>
      cases hx
      exact ⟨t5, f5, _, _, _, _, _, rfl, rfl, ok5, F5, He.glo_ok X G (c.fact 24 (f := .glo "is_back") rfl), (FunD.bindsN (ps := ["thing"]) F5 fun _ _ _ _ _ _ us hl => match us, hl with | [_], _ => rfl)⟩
    | 6, hx =>
      cases hx
      exact ⟨t6, f6, _, _, _, _, _, rfl, rfl, ok6, F6, He.glo_ok X G (c.fact 2 (f := .glo "are_below") rfl), (FunD.bindsN (ps := ["thing", "many", "bound"]) F6 fun _ _ _ _ _ _ us hl => match us, hl with | [_, _, _], _ => rfl)⟩
    | 7, hx =>
      cases hx
      exact ⟨t7, f7, _, _, _, _, _, rfl, rfl, ok7, F7, He.glo_ok X G (c.fact 23 (f := .glo "orders_of") rfl), (FunD.bindsN (ps := ["back", "trio"]) F7 fun _ _ _ _ _ _ us hl => match us, hl with | [_, _], _ => rfl)⟩
    | 8, hx =>
      cases hx
      exact ⟨t8, f8, _, _, _, _, _, rfl, rfl, ok8, F8, He.glo_ok X G (c.fact 25 (f := .glo "are_barred") rfl), (FunD.bindsN (ps := ["back", "thing"]) F8 fun _ _ _ _ _ _ us hl => match us, hl with | [_, _], _ => rfl)⟩
    | 9, hx => cases hx
    | 10, hx =>
      cases hx
      exact ⟨t10, f10, _, _, _, _, _, rfl, rfl, ok10, F10, He.glo_ok X G (c.fact 31 (f := .glo "_law_backs") rfl), (FunD.bindsN (ps := []) F10 fun _ _ _ _ _ _ us hl => match us, hl with | [], _ => rfl)⟩
    | 11, hx =>
      cases hx
      exact ⟨t11, f11, _, _, _, _, _, rfl, rfl, ok11, F11, He.glo_ok X G (c.fact 32 (f := .glo "_law_tellings") rfl), (FunD.bindsN (ps := ["back", "p", "q", "r"]) F11 fun _ _ _ _ _ _ us hl => match us, hl with | [_, _, _, _], _ => rfl)⟩
    | 12, hx =>
      cases hx
      exact ⟨t12, f12, _, _, _, _, _, rfl, rfl, ok12, F12, He.glo_ok X G (c.fact 33 (f := .glo "_law_form") rfl), (FunD.bindsN (ps := ["back", "p", "q", "r"]) F12 fun _ _ _ _ _ _ us hl => match us, hl with | [_, _, _, _], _ => rfl)⟩
    | 13, hx =>
      cases hx
      exact ⟨t13, f13, _, _, _, _, _, rfl, rfl, ok13, F13, He.glo_ok X G (c.fact 34 (f := .glo "_law_forms") rfl), (FunD.bindsN (ps := ["back"]) F13 fun _ _ _ _ _ _ us hl => match us, hl with | [_], _ => rfl)⟩
    | 14, hx =>
      cases hx
      exact ⟨t14, f14, _, _, _, _, _, rfl, rfl, ok14, F14, He.glo_ok X G (c.fact 38 (f := .glo "_law_any_book") rfl), (FunD.bindsN (ps := ["numbers"]) F14 fun _ _ _ _ _ _ us hl => match us, hl with | [_], _ => rfl)⟩
    | 15, hx =>
      cases hx
      exact ⟨t15, f15, _, _, _, _, _, rfl, rfl, ok15, F15, He.glo_ok X G (c.fact 29 (f := .glo "_law_is_number") rfl), (FunD.bindsN (ps := ["thing"]) F15 fun _ _ _ _ _ _ us hl => match us, hl with | [_], _ => rfl)⟩
    | 16, hx =>
      cases hx
      exact ⟨t16, f16, _, _, _, _, _, rfl, rfl, ok16, F16, He.glo_ok X G (c.fact 35 (f := .glo "_law_let") rfl), (FunD.bindsN (ps := ["back", "barred", "p", "q", "r"]) F16 fun _ _ _ _ _ _ us hl => match us, hl with | [_, _, _, _, _], _ => rfl)⟩
    | 17, hx =>
      cases hx
      exact ⟨t17, f17, _, _, _, _, _, rfl, rfl, ok17, F17, He.glo_ok X G (c.fact 18 (f := .glo "all_kinds") rfl), (FunD.bindsN (ps := ["book"]) F17 fun _ _ _ _ _ _ us hl => match us, hl with | [_], _ => rfl)⟩
    | 18, hx => cases hx
    | 19, hx => cases hx
    | 20, hx => cases hx
    | 21, hx => cases hx
    | 22, hx =>
      cases hx
      exact ⟨t22, f22, _, _, _, _, _, rfl, rfl, ok22, F22, He.glo_ok X G (c.fact 30 (f := .glo "_law_is_row") rfl), (FunD.bindsN (ps := ["thing", "many", "bound"]) F22 fun _ _ _ _ _ _ us hl => match us, hl with | [_, _, _], _ => rfl)⟩
    | 23, hx =>
      cases hx
      exact ⟨t23, f23, _, _, _, _, _, rfl, rfl, ok23, F23, He.glo_ok X G (c.fact 36 (f := .glo "_law_known") rfl), (FunD.bindsN (ps := ["number"]) F23 fun _ _ _ _ _ _ us hl => match us, hl with | [_], _ => rfl)⟩
    | 24, hx =>
      cases hx
      exact ⟨t24, f24, _, _, _, _, _, rfl, rfl, ok24, F24, He.glo_ok X G (c.fact 37 (f := .glo "_law_knit") rfl), (FunD.bindsN (ps := ["numbers"]) F24 fun _ _ _ _ _ _ us hl => match us, hl with | [_], _ => rfl)⟩
    | 25, hx =>
      cases hx
      exact ⟨t25, f25, _, _, _, _, _, rfl, rfl, ok25, F25, He.glo_ok X G (c.fact 39 (f := .glo "_law_kind") rfl), (FunD.bindsN (ps := ["back", "company", "a", "b"]) F25 fun _ _ _ _ _ _ us hl => match us, hl with | [_, _, _, _], _ => rfl)⟩
    | 26, hx =>
      cases hx
      exact ⟨t26, f26, _, _, _, _, _, rfl, rfl, ok26, F26, He.glo_ok X G (c.fact 40 (f := .glo "_law_lets") rfl), (FunD.bindsN (ps := ["back", "barred", "company", "told", "person", "kind"]) F26 fun _ _ _ _ _ _ us hl => match us, hl with | [_, _, _, _, _, _], _ => rfl)⟩
    | 27, hx =>
      cases hx
      exact ⟨t27, f27, _, _, _, _, _, rfl, rfl, ok27, F27, He.glo_ok X G (c.fact 41 (f := .glo "_law_row") rfl), (FunD.bindsN (ps := ["back", "barred", "company", "numbers", "at"]) F27 fun _ _ _ _ _ _ us hl => match us, hl with | [_, _, _, _, _], _ => rfl)⟩
    | 28, hx =>
      cases hx
      exact ⟨t28, f28, _, _, _, _, _, rfl, rfl, ok28, F28, He.glo_ok X G (c.fact 42 (f := .glo "_law_company") rfl), (FunD.bindsN (ps := ["back", "barred", "numbers", "many"]) F28 fun _ _ _ _ _ _ us hl => match us, hl with | [_, _, _, _], _ => rfl)⟩
    | 29, hx =>
      cases hx
      exact ⟨t29, f29, _, _, _, _, _, rfl, rfl, ok29, F29, He.glo_ok X G (c.fact 9 (f := .glo "is_company") rfl), (FunD.bindsN (ps := ["book", "thing"]) F29 fun _ _ _ _ _ _ us hl => match us, hl with | [_, _], _ => rfl)⟩
    | 30, hx =>
      cases hx
      exact ⟨t30, f30, _, _, _, _, _, rfl, rfl, ok30, F30, He.glo_ok X G (c.fact 4 (f := .glo "choices_of") rfl), (FunD.bindsN (ps := ["things", "many"]) F30 fun _ _ _ _ _ _ us hl => match us, hl with | [_, _], _ => rfl)⟩
    | 31, hx =>
      cases hx
      exact ⟨t31, f31, _, _, _, _, _, rfl, rfl, ok31, F31, He.glo_ok X G (c.fact 10 (f := .glo "kind_from") rfl), (FunD.bindsN (ps := ["book", "company", "a", "b"]) F31 fun _ _ _ _ _ _ us hl => match us, hl with | [_, _, _, _], _ => rfl)⟩
    | 32, hx =>
      cases hx
      exact ⟨t32, f32, _, _, _, _, _, rfl, rfl, ok32, F32, He.glo_ok X G (c.fact 11 (f := .glo "is_let") rfl), (FunD.bindsN (ps := ["book", "company", "a", "b", "c"]) F32 fun _ _ _ _ _ _ us hl => match us, hl with | [_, _, _, _, _], _ => rfl)⟩
    | 33, hx =>
      cases hx
      exact ⟨t33, f33, _, _, _, _, _, rfl, rfl, ok33, F33, He.glo_ok X G (c.fact 12 (f := .glo "broken_trios") rfl), (FunD.bindsN (ps := ["book", "company"]) F33 fun _ _ _ _ _ _ us hl => match us, hl with | [_, _], _ => rfl)⟩
    | 34, hx =>
      cases hx
      exact ⟨t34, f34, _, _, _, _, _, rfl, rfl, ok34, F34, He.glo_ok X G (c.fact 13 (f := .glo "is_lawful") rfl), (FunD.bindsN (ps := ["book", "thing"]) F34 fun _ _ _ _ _ _ us hl => match us, hl with | [_, _], _ => rfl)⟩
    | 35, hx =>
      cases hx
      exact ⟨t35, f35, _, _, _, _, _, rfl, rfl, ok35, F35, He.glo_ok X G (c.fact 14 (f := .glo "lawful_asked") rfl), (FunD.bindsN (ps := ["book", "company"]) F35 fun _ _ _ _ _ _ us hl => match us, hl with | [_, _], _ => rfl)⟩
    | 36, hx => cases hx
    | 37, hx =>
      cases hx
      exact ⟨t37, f37, _, _, _, _, _, rfl, rfl, ok37, F37, He.glo_ok X G (c.fact 16 (f := .glo "lets_kind") rfl), (FunD.bindsN (ps := ["book", "company", "told", "person", "kind"]) F37 fun _ _ _ _ _ _ us hl => match us, hl with | [_, _, _, _, _], _ => rfl)⟩
    | 38, hx =>
      cases hx
      exact ⟨t38, f38, _, _, _, _, _, rfl, rfl, ok38, F38, He.glo_ok X G (c.fact 19 (f := .glo "fulfilling") rfl), (FunD.bindsN (ps := ["book", "company", "lot", "wish"]) F38 fun _ _ _ _ _ _ us hl => match us, hl with | [_, _, _, _], _ => rfl)⟩
    | 39, hx =>
      cases hx
      exact ⟨t39, f39, _, _, _, _, _, rfl, rfl, ok39, F39, He.glo_ok X G (c.fact 43 (f := .glo "_law_kinds_to") rfl), (FunD.bindsN (ps := ["back", "company", "person", "lot"]) F39 fun _ _ _ _ _ _ us hl => match us, hl with | [_, _, _, _], _ => rfl)⟩
    | 40, hx =>
      cases hx
      exact ⟨t40, f40, _, _, _, _, _, rfl, rfl, ok40, F40, He.glo_ok X G (c.fact 44 (f := .glo "_law_fulfilling") rfl), (FunD.bindsN (ps := ["back", "company", "lot", "wish"]) F40 fun _ _ _ _ _ _ us hl => match us, hl with | [_, _, _, _], _ => rfl)⟩
    | 41, hx =>
      cases hx
      exact ⟨t41, f41, _, _, _, _, _, rfl, rfl, ok41, F41, He.glo_ok X G (c.fact 45 (f := .glo "_law_pairs") rfl), (FunD.bindsN (ps := ["lot", "wish"]) F41 fun _ _ _ _ _ _ us hl => match us, hl with | [_, _], _ => rfl)⟩
    | 42, hx => cases hx
    | 43, hx => cases hx
    | 44, hx =>
      cases hx
      exact ⟨t44, f44, _, _, _, _, _, rfl, rfl, ok44, F44, He.glo_ok X G (c.fact 17 (f := .glo "rows_over") rfl), (FunD.bindsN (ps := ["book", "company", "lot", "kinds"]) F44 fun _ _ _ _ _ _ us hl => match us, hl with | [_, _, _, _], _ => rfl)⟩
    | 45, hx =>
      cases hx
      exact ⟨t45, f45, _, _, _, _, _, rfl, rfl, ok45, F45, He.glo_ok X G (c.fact 20 (f := .glo "lots_by_size") rfl), (FunD.bindsN (ps := ["persons", "many"]) F45 fun _ _ _ _ _ _ us hl => match us, hl with | [_, _], _ => rfl)⟩
    | 46, hx =>
      cases hx
      exact ⟨t46, f46, _, _, _, _, _, rfl, rfl, ok46, F46, He.glo_ok X G (c.fact 15 (f := .glo "is_number") rfl), (FunD.bindsN (ps := ["thing", "least", "most"]) F46 fun _ _ _ _ _ _ us hl => match us, hl with | [_, _, _], _ => rfl)⟩
    | 47, hx =>
      cases hx
      exact ⟨t47, f47, _, _, _, _, _, rfl, rfl, ok47, F47, He.glo_ok X G (c.fact 47 (f := .glo "_law_rows_over") rfl), (FunD.bindsN (ps := ["back", "barred", "company", "lot"]) F47 fun _ _ _ _ _ _ us hl => match us, hl with | [_, _, _, _], _ => rfl)⟩
    | 48, hx =>
      cases hx
      exact ⟨t48, f48, _, _, _, _, _, rfl, rfl, ok48, F48, He.glo_ok X G (c.fact 46 (f := .glo "_law_invited") rfl), (FunD.bindsN (ps := ["back", "barred", "company", "asked"]) F48 fun _ _ _ _ _ _ us hl => match us, hl with | [_, _, _, _], _ => rfl)⟩
    | 49, hx =>
      cases hx
      exact ⟨t49, f49, _, _, _, _, _, rfl, rfl, ok49, F49, He.glo_ok X G (c.fact 48 (f := .glo "_law_lots") rfl), (FunD.bindsN (ps := ["many", "size"]) F49 fun _ _ _ _ _ _ us hl => match us, hl with | [_, _], _ => rfl)⟩
    | 50, hx =>
      cases hx
      exact ⟨t50, f50, _, _, _, _, _, rfl, rfl, ok50, F50, He.glo_ok X G (c.fact 49 (f := .glo "_law_lack") rfl), (FunD.bindsN (ps := ["back", "barred", "company", "m"]) F50 fun _ _ _ _ _ _ us hl => match us, hl with | [_, _, _, _], _ => rfl)⟩
    | 51, hx =>
      cases hx
      exact ⟨t51, f51, _, _, _, _, _, rfl, rfl, ok51, F51, He.glo_ok X G (c.fact 21 (f := .glo "first_lack") rfl), (FunD.bindsN (ps := ["book", "company", "m"]) F51 fun _ _ _ _ _ _ us hl => match us, hl with | [_, _, _], _ => rfl)⟩
    | 52, hx =>
      cases hx
      exact ⟨t52, f52, _, _, _, _, _, rfl, rfl, ok52, F52, He.glo_ok X G (c.fact 22 (f := .glo "lacking") rfl), (FunD.bindsN (ps := ["book", "company", "m"]) F52 fun _ _ _ _ _ _ us hl => match us, hl with | [_, _, _], _ => rfl)⟩
    | 53, hx =>
      cases hx
      exact ⟨t53, f53, _, _, _, _, _, rfl, rfl, ok53, F53, He.glo_ok X G (c.fact 50 (f := .glo "_law_refused") rfl), (FunD.bindsN (ps := ["book", "company", "m"]) F53 fun _ _ _ _ _ _ us hl => match us, hl with | [_, _, _], _ => rfl)⟩
    | 54, hx =>
      cases hx
      exact ⟨t54, f54, _, _, _, _, _, rfl, rfl, ok54, F54, He.glo_ok X G (c.fact 51 (f := .glo "law") rfl), (FunD.bindsN (ps := ["script"]) F54 fun _ _ _ _ _ _ us hl => match us, hl with | [_], _ => rfl)⟩
    | 55, hx => cases hx
    | n + 56, hx => cases hx
  case mks =>
    intro k x f hx hi
    match f, hi with
    | 0, hi => cases hi
    | 1, hi => cases hi
    | 2, hi => cases hi
    | 3, hi => cases hi
    | 4, hi => cases hi
    | 5, hi => cases hi
    | 6, hi => cases hi
    | 7, hi => cases hi
    | 8, hi => cases hi
    | 9, hi =>
      cases hi
      cases hx
      exact ⟨t9, f9, _, _, _, _, _, rfl, rfl, ok9, F9, He.mkr_ok (c.fact 67 (f := .mkr "Book") rfl), He.glo_ok X G (c.fact 26 (f := .glo "Book") rfl), (FunD.bindsN (ps := ["self", "back", "barred"]) F9 fun _ _ _ _ _ _ us hl => match us, hl with | [_, _, _], _ => rfl)⟩
    | 10, hi => cases hi
    | 11, hi => cases hi
    | 12, hi => cases hi
    | 13, hi => cases hi
    | 14, hi => cases hi
    | 15, hi => cases hi
    | 16, hi => cases hi
    | 17, hi => cases hi
    | 18, hi => cases hi
    | 19, hi => cases hi
    | 20, hi => cases hi
    | 21, hi => cases hi
    | 22, hi => cases hi
    | 23, hi => cases hi
    | 24, hi => cases hi
    | 25, hi => cases hi
    | 26, hi => cases hi
    | 27, hi => cases hi
    | 28, hi => cases hi
    | 29, hi => cases hi
    | 30, hi => cases hi
    | 31, hi => cases hi
    | 32, hi => cases hi
    | 33, hi => cases hi
    | 34, hi => cases hi
    | 35, hi => cases hi
    | 36, hi => cases hi
    | 37, hi => cases hi
    | 38, hi => cases hi
    | 39, hi => cases hi
    | 40, hi => cases hi
    | 41, hi => cases hi
    | 42, hi => cases hi
    | 43, hi => cases hi
    | 44, hi => cases hi
    | 45, hi => cases hi
    | 46, hi => cases hi
    | 47, hi => cases hi
    | 48, hi => cases hi
    | 49, hi => cases hi
    | 50, hi => cases hi
    | 51, hi => cases hi
    | 52, hi => cases hi
    | 53, hi => cases hi
    | 54, hi => cases hi
    | 55, hi => cases hi
    | n + 56, hi => cases hi
theorem lawF {P : Program} {w : World} {K : PySem.W.Frag} {h : Heap} {mg : Str → Option Value} {f : Addr} (X : K.In h) (G : h.Ns mainGlobals mg) (hfa : mg ("law" : Str) = some (.ref f)) (c : He.SaysD fa fn K) (cb : bs K = true) (fuel : Nat) :
    ∃ fd : FuncData, (∀ (s : Shared) (v : Value), BindsTo s fd ⟨[v], []⟩ [("script", v)]) ∧ ∀ base : Heap, K.In base → base.Ns mainGlobals mg → FnOk P w K mg base (L2.CX P w) (2 * 20) f fd ["script"] (fnSp (GG K) (callF B fi sub fuel 20 lawI)) := by
  obtain ⟨fd, F⟩ := c.def_ 47 (d := d54) rfl
  have e := hfa.symm.trans (He.glo_ok X G (c.fact 51 (f := .glo "law") rfl))
  cases e
  have b := FunD.bindsA (ps := ["script"]) F fun _ _ _ _ _ _ us hl => match us, hl with | [_], _ => rfl
  refine ⟨fd, fun s v => b s [v] rfl, fun base _ _ => ?_⟩
  have Fa := facts X G c cb
  have e : callF B fi sub fuel 20 lawI = f54.run (tab B fi sub fuel 19) := by
    funext ds
    rfl
  rw [e]
  exact fn_of_def Fa (lev Fa 19) rfl ok54 F
end K76
end

section
set_option Elab.async false
set_option linter.all false
set_option maxRecDepth 100000
set_option maxHeartbeats 0
open PySem PySem.W PySem.Calls PyProof.Rows
theorem PySem.Challenge.cw_wishmet_k76_lacking_holds : PySem.Challenge.rw_wishmet_k76_lacking.Holds := by
  w_on; o_law
  refine HandSHeadRun.head_any (r := OpenLaw.row PySem.Challenge.rw_wishmet_k76_lacking) (q := view (OpenLaw.row PySem.Challenge.rw_wishmet_k76_lacking).prog [59]) (H := K76.hk) (ob := K76.ob) (M := 4000) (loose := K76.loose) (d := HandSHeadRun.topDef (OpenLaw.row PySem.Challenge.rw_wishmet_k76_lacking).prog 59) (kwd := []) K76.ob_eq
    (by kernel_rfl) (fun s => by kernel_rfl) K76.run (by kernel_rfl) (by kernel_rfl) (by kernel_rfl) (by rfl) (by first | assumption | decide +kernel) (by decide +kernel) ⟨rfl, rfl, rfl, rfl, rfl, by decide +kernel⟩ ?hw ?hc
  case hw => w_witness2
  case hc =>
    refine PD.walk_ofW (l := PySem.Challenge.rw_wishmet_k76_lacking) (n := 63) (k := 2 * 20) (x := "script") (CX := fun w => L2.CX (PySem.Challenge.rw_wishmet_k76_lacking).prog w) rfl (by decide) (by kernel_rfl) ⟨rfl, by decide, by decide⟩ ?F (fun w => PD.sub_pass)
    intro w mg fa h Y G hmg0
    obtain ⟨K, KX, c, cb⟩ := Y
    have hmg : mg ("law" : PySem.Str) = some (.ref fa) := by
      have e : (HandSHeadRun.topDef (OpenLaw.row PySem.Challenge.rw_wishmet_k76_lacking).prog 59).name = ("law" : PySem.Str) := by kernel_rfl
      rw [← e]
      exact hmg0
    obtain ⟨fd, hb, hF⟩ := K76.lawF (P := (PySem.Challenge.rw_wishmet_k76_lacking).prog) (w := w) KX G hmg c cb K76.fu
    exact ⟨K, fd, _, KX, hb, fun H a ns hl hO hS => PD.law_sp (G := K76.GG K) K76.math rfl H a ns hl hO hS, hF⟩
end
