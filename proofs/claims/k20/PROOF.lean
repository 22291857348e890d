import PyProof.Rows.All
import Wide.All
import OpenK.AllK
import Wide.FinOn
import HandS.ForMost
import HandS.ForExc
import HandS.Lambda
import HandS.TupAny
import HandS.TupMul
import HandS.TupLe
import HandS.Deep
import HandS.More
import HandS.Conv
import HandS.IsInst
import HandS.Style
import HandS.SortRule
import HandS.DictTup
import KE.LtSeq
import HandS.ListItems
import HandS.TupSets
import KE.KDictPairs
import HandS.Zip
import HandS.Walk
import HandS.Replace
import HandS.ReplaceLit
import HandS.ReplaceList
import KE.GoesMore
import HandS.ExcIs
import HandS.SetFor
import HandS.WordsExc
import HandS.Ends
import HandS.EndTab
import PySem.Challenge.RW_marktrees_k20_spaces
set_option linter.all false
set_option Elab.async false
section
set_option linter.all false
namespace Mk

abbrev LIM : Nat := 1000000

/-- pure data -/
inductive D where
  | non
  | bl (b : Bool)
  | int (i : Int)
  | str (x : List Nat)
  | tup (xs : List D)
  | lst (xs : List D)
  | dct (ks : List (List Nat)) (vs : List D)
  | scr (ns : List Int)
  | tpl (xs : List D)

/-- refusals -/
inductive Ex where
  | noPart | noValue | badChange | noStep
  | badText (i : Int)
  deriving DecidableEq

/-- what an evaluation comes to: a value, a refusal, or nothing is said -/
inductive R (a : Type) where
  | ok (x : a)
  | ex (e : Ex)
  | no

def R.bind {a b : Type} : R a → (a → R b) → R b
  | .ok x, f => f x
  | .ex e, _ => .ex e
  | .no, _ => .no
instance : Monad R where
  pure := R.ok
  bind := R.bind
@[simp] theorem R.ok_bind {a b : Type} (x : a) (f : a → R b) : (R.ok x >>= f) = f x := Eq.trans (Eq.refl _) (Eq.refl _)
@[simp] theorem R.ex_bind {a b : Type} (e : Ex) (f : a → R b) : ((R.ex e : R a) >>= f) = R.ex e := Eq.trans (Eq.refl _) (Eq.refl _)
@[simp] theorem R.no_bind {a b : Type} (f : a → R b) : ((R.no : R a) >>= f) = R.no := Eq.trans (Eq.refl _) (Eq.refl _)
@[simp] theorem R.pure_eq {a : Type} (x : a) : (pure x : R a) = R.ok x := rfl
/-- a refusal counts as nothing said -/
def R.still {a : Type} : R a → R a
  | .ok x => .ok x
  | _ => .no
@[simp] theorem R.still_ok {a : Type} (x : a) : (R.ok x).still = R.ok x := rfl

mutual
def eqv : D → D → Bool
  | .non, .non => true
  | .bl a, .bl b => a == b
  | .int a, .int b => a == b
  | .bl a, .int b => (if a then (1 : Int) else 0) == b
  | .int a, .bl b => a == (if b then (1 : Int) else 0)
  | .str a, .str b => a == b
  | .tup a, .tup b => eqvs a b
  | .lst a, .lst b => eqvs a b
  | _, _ => false
def eqvs : List D → List D → Bool
  | [], [] => true
  | x :: xs, y :: ys => eqv x y && eqvs xs ys
  | _, _ => false
end
mutual
/-- no dict within, nested at most n deep -/
def fl : D → Nat → Bool
  | .tup ds, n + 1 => fls ds n
  | .lst ds, n + 1 => fls ds n
  | .tup _, 0 => false
  | .lst _, 0 => false
  | .dct _ _, _ => false
  | .scr _, _ => false
  | .tpl _, _ => false
  | _, _ => true
def fls : List D → Nat → Bool
  | [], _ => true
  | d :: ds, n => fl d n && fls ds n
end

def ixN (n : Nat) (i : Int) : Option Nat :=
  if 0 ≤ i then (if i < n then some i.toNat else none) else if -(n : Int) ≤ i then some (i + n).toNat else none
def atI {α : Type} (xs : List α) (i : Int) : Option α := (ixN xs.length i).bind fun j => xs[j]?
def sIx (n d : Nat) : Option Int → Nat
  | none => d
  | some v => if v < 0 then (v + (n : Int)).toNat else min v.toNat n
def cut {α : Type} (xs : List α) (lo hi : Option Int) : List α :=
  (xs.drop (sIx xs.length 0 lo)).take (sIx xs.length xs.length hi - sIx xs.length 0 lo)

/-- the texts between the seps -/
def splitOn (c : Nat) : List Nat → List Nat → List (List Nat)
  | acc, [] => [acc]
  | acc, x :: r => if x = c then acc :: splitOn c [] r else splitOn c (acc ++ [x]) r
def isPre : List Nat → List Nat → Bool
  | [], _ => true
  | _ :: _, [] => false
  | a :: s, b :: t => a == b && isPre s t
/-- s stands within t -/
def isIn (s : List Nat) : List Nat → Bool
  | [] => isPre s []
  | b :: t => isPre s (b :: t) || isIn s t
def replOne (c : Nat) (new : List Nat) : List Nat → List Nat
  | [] => []
  | x :: r => if x = c then new ++ replOne c new r else x :: replOne c new r
/-- texts by their codes -/
def ltS : List Nat → List Nat → Bool
  | [], [] => false
  | [], _ :: _ => true
  | _ :: _, [] => false
  | a :: s, b :: t => if a = b then ltS s t else decide (a < b)

def look (k : List Nat) : List (List Nat) → List D → Option D
  | x :: ks, d :: ds => if x = k then some d else look k ks ds
  | _, _ => none
/-- a key's value is set -/
def putD (k : List Nat) (v : D) : List (List Nat) → List D → List D
  | x :: ks, d :: ds => (if x = k then v else d) :: putD k v ks ds
  | _, ds => ds

inductive Bop where
  | add | sub | mul | fdiv | mod
  deriving DecidableEq
inductive Cop where
  | eq | ne | lt | le | gt | ge | isin | notin | is | isnot
  deriving DecidableEq
inductive Ty where
  | str | tup | bl | int | lst
  deriving DecidableEq

def small (a : Int) : Bool := decide (-(2 ^ 64) < a) && decide (a < 2 ^ 64)

def binD : Bop → D → D → R D
  | .add, .int a, .int b => .ok (.int (a + b))
  | .add, .str a, .str b => if a.length + b.length < LIM then .ok (.str (a ++ b)) else .no
  | .add, .tup a, .tup b => if a.length + b.length ≤ LIM then .ok (.tup (a ++ b)) else .no
  | .add, .lst a, .lst b => if a.length + b.length ≤ LIM then .ok (.lst (a ++ b)) else .no
  | .sub, .int a, .int b => .ok (.int (a - b))
  | .mul, .int a, .int b => if small a || small b then .ok (.int (a * b)) else .no
  | .mul, .str a, .int k => if k = 0 then .ok (.str []) else if k = 1 then .ok (.str a) else .no
  | .mul, .tup a, .int k => if a ≠ [] ∧ 2 ≤ k ∧ k ≤ 1000 ∧ a.length ≤ 1000 then .ok (.tup (List.replicate k.toNat a).flatten) else .no
  | .mul, .lst a, .int k => if 0 ≤ k ∧ k ≤ 1000 ∧ a.length ≤ 1000 then .ok (.lst (List.replicate k.toNat a).flatten) else .no
  | .fdiv, .int a, .int b => if 0 < b ∧ b < 1073741824 then .ok (.int (a / b)) else .no
  | .mod, .int a, .int b => if 0 < b then .ok (.int (a % b)) else .no
  | _, _, _ => .no

def isNon : D → Bool
  | .non => true
  | _ => false
def isAny (x : D) (ds : List D) : Bool := ds.any fun y => eqv y x

def cmpD : Cop → D → D → R D
  | .eq, a, b => if fl a 60 && fl b 60 then .ok (.bl (eqv a b)) else .no
  | .ne, a, b => if fl a 60 && fl b 60 then .ok (.bl (!eqv a b)) else .no
  | .lt, .int a, .int b => .ok (.bl (decide (a < b)))
  | .le, .int a, .int b => .ok (.bl (decide (a ≤ b)))
  | .gt, .int a, .int b => .ok (.bl (decide (b < a)))
  | .ge, .int a, .int b => .ok (.bl (decide (b ≤ a)))
  | .le, .str a, .str b => .ok (.bl (!ltS b a))
  | .isin, .str a, .str b => .ok (.bl (isIn a b))
  | .notin, .str a, .str b => .ok (.bl (!isIn a b))
  | .isin, a, .lst ds => if fl a 60 && fls ds 60 then .ok (.bl (isAny a ds)) else .no
  | .notin, a, .lst ds => if fl a 60 && fls ds 60 then .ok (.bl (!isAny a ds)) else .no
  | .isin, a, .tup ds => if fl a 0 && fls ds 0 then .ok (.bl (isAny a ds)) else .no
  | .notin, a, .tup ds => if fl a 0 && fls ds 0 then .ok (.bl (!isAny a ds)) else .no
  | .isin, .str a, .dct ks vs => .ok (.bl (look a ks vs).isSome)
  | .notin, .str a, .dct ks vs => .ok (.bl (!(look a ks vs).isSome))
  | .is, a, .non => .ok (.bl (isNon a))
  | .isnot, a, .non => .ok (.bl (!isNon a))
  | .is, .bl a, .bl b => .ok (.bl (a == b))
  | .isnot, .bl a, .bl b => .ok (.bl (!(a == b)))
  | _, _, _ => .no

def opt {α β : Type} (f : α → β) : Option α → R β
  | some x => .ok (f x)
  | none => .no
def idxD : D → D → R D
  | .tup ds, .int i => opt id (atI ds i)
  | .lst ds, .int i => opt id (atI ds i)
  | .scr ns, .int i => opt D.int (atI ns i)
  | .str x, .int i => opt (fun c => D.str [c]) (atI x i)
  | .dct ks vs, .str k => opt id (look k ks vs)
  | _, _ => .no
def slcD : D → Option Int → Option Int → R D
  | .tup ds, lo, hi => .ok (.tup (cut ds lo hi))
  | .lst ds, lo, hi => .ok (.lst (cut ds lo hi))
  | .str x, lo, hi => .ok (.str (cut x lo hi))
  | _, _, _ => .no
def isaD : Ty → D → Bool
  | .str, .str _ => true
  | .tup, .tup _ => true
  | .bl, .bl _ => true
  | .int, .int _ => true
  | .int, .bl _ => true
  | .lst, .lst _ => true
  | _, _ => false

/-- built-in functions -/
inductive Blt where
  | len | all | any | lenset | dict | tuple | list | sorted | int | min | max | ord | sitems
  deriving DecidableEq
/-- methods of built-in types -/
inductive Mth where
  | split | join | replace | get | count | index | find | find2 | startswith2 | strip | lstrip | rstrip | items
  deriving DecidableEq
/-- what a for walks -/
inductive Sk where
  | it | keys | range | zip | enum | enumzip
  deriving DecidableEq

/-- all truths -/
def bools : List D → Option (List Bool)
  | [] => some []
  | .bl b :: r => (bools r).map (b :: ·)
  | _ :: _ => none
/-- all texts -/
def txts : List D → Option (List (List Nat))
  | [] => some []
  | .str x :: r => (txts r).map (x :: ·)
  | _ :: _ => none
/-- all pairs of texts -/
def pairs : List D → Option (List (List Nat × List Nat))
  | [] => some []
  | .tup [.str a, .str b] :: r => (pairs r).map ((a, b) :: ·)
  | _ :: _ => none
/-- each once -/
def dedup {α : Type} [DecidableEq α] : List α → List α
  | [] => []
  | x :: r => x :: (dedup r).filter (fun y => decide (y ≠ x))
def insS (x : List Nat) : List (List Nat) → List (List Nat)
  | [] => [x]
  | y :: r => if ltS x y then x :: y :: r else y :: insS x r
def sortS : List (List Nat) → List (List Nat)
  | [] => []
  | x :: r => insS x (sortS r)
/-- rows of texts, by the first unlike one -/
def ltL : List (List Nat) → List (List Nat) → Bool
  | [], [] => false
  | [], _ :: _ => true
  | _ :: _, [] => false
  | a :: s, b :: t => if a = b then ltL s t else ltS a b
def insL (x : List (List Nat)) : List (List (List Nat)) → List (List (List Nat))
  | [] => [x]
  | y :: r => if ltL x y then x :: y :: r else y :: insL x r
def sortL : List (List (List Nat)) → List (List (List Nat))
  | [] => []
  | x :: r => insL x (sortL r)
/-- a pair of texts, as a row of texts; a pair of a pair of texts and a text -/
def keyF : D → Option (List (List Nat))
  | .tup [.str a, .str b] => some [a, b]
  | _ => none
def keyN : D → Option (List (List Nat))
  | .tup [.tup [.str a, .str b], .str c] => some [a, b, c]
  | _ => none
def unF : List (List Nat) → D
  | [a, b] => .tup [.str a, .str b]
  | _ => .non
def unN : List (List Nat) → D
  | [a, b, c] => .tup [.tup [.str a, .str b], .str c]
  | _ => .non
def keysBy (f : D → Option (List (List Nat))) : List D → Option (List (List (List Nat)))
  | [] => some []
  | d :: r => match f d, keysBy f r with
    | some k, some ks => some (k :: ks)
    | _, _ => none
/-- the rows of a dict of texts -/
def rowsD : List (List Nat) → List D → Option (List (List (List Nat)))
  | [], [] => some []
  | k :: ks, .str x :: vs => (rowsD ks vs).map ([k, x] :: ·)
  | _, _ => none
def sumLen : List (List Nat) → Nat
  | [] => 0
  | x :: r => x.length + sumLen r
def joinS (s : List Nat) : List (List Nat) → List Nat
  | [] => []
  | [x] => x
  | x :: r => x ++ (s ++ joinS s r)

/-- a dict of pairs, one behind the other -/
def dictOf (ks : List (List Nat)) (vs : List D) : List D → Option D
  | [] => some (.dct ks vs)
  | .tup [.str k, d] :: r => if (look k ks vs).isSome = true then dictOf ks (putD k d ks vs) r else dictOf (ks ++ [k]) (vs ++ [d]) r
  | _ :: _ => none
def bltD : Blt → List D → R D
  | .len, [.tup ds] => .ok (.int ds.length)
  | .len, [.lst ds] => .ok (.int ds.length)
  | .len, [.scr ns] => .ok (.int ns.length)
  | .len, [.str x] => .ok (.int x.length)
  | .len, [.dct ks _] => .ok (.int ks.length)
  | .all, [.lst ds] => opt (fun bs => D.bl (bs.all id)) (bools ds)
  | .any, [.lst ds] => opt (fun bs => D.bl (bs.any id)) (bools ds)
  | .lenset, [.lst ds] =>
    match txts ds with
    | some xs => if xs.length ≤ 1000 then .ok (.int (dedup xs).length) else .no
    | none => match keysBy keyF ds with
      | some ks => if ks.length ≤ 4 then .ok (.int (dedup ks).length) else .no
      | none => .no
  | .dict, [.dct ks vs] => .ok (.dct ks vs)
  | .dict, [.lst ds] => opt id (dictOf [] [] ds)
  | .dict, [.tup ds] => opt id (dictOf [] [] ds)
  | .tuple, [.lst ds] => .ok (.tup ds)
  | .tuple, [.tup ds] => .ok (.tup ds)
  | .list, [.lst ds] => .ok (.lst ds)
  | .list, [.tup ds] => .ok (.lst ds)
  | .sorted, [.lst ds] =>
    match txts ds with
    | some xs => if xs.length < 64 then .ok (.lst ((sortS xs).map .str)) else .no
    | none => match keysBy keyF ds with
      | some ks => .ok (.lst ((sortL ks).map unF))
      | none => match keysBy keyN ds with
        | some ks => .ok (.lst ((sortL ks).map unN))
        | none => .no
  | .sorted, [.dct ks _] => if ks.length < 64 then .ok (.lst ((sortS ks).map .str)) else .no
  | .sitems, [.dct ks vs] =>
    match rowsD ks vs with
    | some rs => .ok (.lst ((sortL rs).map unF))
    | none => .no
  | .int, [.bl b] => .ok (.int (if b then 1 else 0))
  | .int, [.int i] => .ok (.int i)
  | .min, [.int a, .int b] => .ok (.int (if b < a then b else a))
  | .max, [.int a, .int b] => .ok (.int (if a < b then b else a))
  | .ord, [.str [c]] => .ok (.int c)
  | _, _ => .no

/-- the first place of an equal one -/
def ixOf (x : D) : List D → Option Nat
  | [] => none
  | y :: r => if eqv y x then some 0 else (ixOf x r).map (· + 1)
def mthD : Mth → D → List D → R D
  | .split, .str x, [.str [c]] => .ok (.lst ((splitOn c [] x).map .str))
  | .join, .str s, [.lst ds] =>
    match txts ds with
    | some xs => if sumLen xs + s.length * xs.length < LIM then .ok (.str (joinS s xs)) else .no
    | none => .no
  | .replace, .str x, [.str [c], .str y] => if x.length * (y.length + 1) < LIM then .ok (.str (replOne c y x)) else .no
  | .get, .dct ks vs, [.str k, d] => .ok ((look k ks vs).getD d)
  | .index, .lst ds, [x] => if fl x 60 && fls ds 60 then opt (fun i : Nat => D.int i) (ixOf x ds) else .no
  | _, _, _ => .no

def mthOk : Mth → D → Bool
  | .get, .dct _ _ => true
  | .items, .dct _ _ => true
  | .count, .lst _ => true
  | .index, .lst _ => true
  | .get, _ => false
  | .items, _ => false
  | .count, _ => false
  | .index, _ => false
  | _, .str _ => true
  | _, _ => false

def itemsD : D → Option (List D)
  | .lst ds => some ds
  | .tup ds => some ds
  | .str x => some (x.map fun c => .str [c])
  | _ => none
def seqD : D → Option (List D)
  | .lst ds => some ds
  | .tup ds => some ds
  | _ => none
def enumD (n : Nat) : List D → List D
  | [] => []
  | d :: r => .tpl [.int n, d] :: enumD (n + 1) r
def zipD : List D → List D → List D
  | x :: xs, y :: ys => .tpl [x, y] :: zipD xs ys
  | _, _ => []
def rangeD (lo : Int) : Nat → List D
  | 0 => []
  | n + 1 => .int lo :: rangeD (lo + 1) n
def srcD : Sk → List D → R (List D)
  | .it, [d] => opt id (itemsD d)
  | .keys, [.dct ks _] => .ok (ks.map .str)
  | .range, [.int n] => if -LIM ≤ n ∧ n ≤ LIM then .ok (rangeD 0 n.toNat) else .no
  | .range, [.int a, .int b] => if -LIM ≤ a ∧ a ≤ LIM ∧ -LIM ≤ b ∧ b ≤ LIM ∧ b - a ≤ LIM then .ok (rangeD a (b - a).toNat) else .no
  | .zip, [.lst xs, .lst ys] => .ok (zipD xs ys)
  | .zip, [.tup xs, .tup ys] => .ok (zipD xs ys)
  | .enum, [a] => match seqD a with
    | some xs => .ok (enumD 0 xs)
    | none => .no
  | _, _ => .no

inductive Tg where
  | nm (i : Nat)
  | tp (is : List Nat)
def Tg.slots : Tg → List Nat
  | .nm i => [i]
  | .tp is => is

inductive E (F : Type) where
  | var (i : Nat)
  | kst (d : D)
  | tup (es : List (E F))
  | lst (es : List (E F))
  | dnew
  | bin (op : Bop) (a b : E F)
  | neg (a : E F)
  | cmp (op : Cop) (a b : E F)
  | chain (op op' : Cop) (a b c : E F)
  | and (a b : E F)
  | or (a b : E F)
  | not (a : E F)
  | idx (a b : E F)
  | slc (a : E F) (lo hi : List (E F))
  | rev (a : E F)
  | isa (a : E F) (t : Ty)
  | call (f : F) (es : List (E F))
  | blt (b : Blt) (es : List (E F))
  | mth (m : Mth) (o : E F) (es : List (E F))
  | lc (tg : Tg) (k : Sk) (es : List (E F)) (cond : List (E F)) (elt : E F)
  | told (f : F) (es : List (E F))

inductive S (F : Type) where
  | set (i : Nat) (e : E F)
  | unp (is : List Nat) (e : E F)
  | app (i : Nat) (e : E F)
  | ext (i : Nat) (e : E F)
  | put (i : Nat) (k e : E F)
  | ife (c : E F) (a b : List (S F))
  | forr (tg : Tg) (k : Sk) (es : List (E F)) (body : List (S F))
  | ret (e : E F)
  | expr (e : E F)
  | retF (e : E F)
  | rai (x : Ex)
  | wh (n : Nat) (c : E F) (body : List (S F))
  | frz (s : S F)
  | bad

inductive Slot where
  | un
  | val (d : D)
  | own (d : D)

structure Tb (F : Type) where
  c : F → List D → R D
  c2 : F → List D → R D

def setAll : List Nat → List D → List Slot → Option (List Slot)
  | [], [], r => some r
  | i :: is, d :: ds, r => if i < r.length then setAll is ds (r.set i (.val d)) else none
  | _, _, _ => none
def asg : Tg → D → List Slot → R (List Slot)
  | .nm i, d, r => if i < r.length then .ok (r.set i (.val d)) else .no
  | .tp is, .tup ds, r => opt id (setAll is ds r)
  | .tp is, .tpl ds, r => opt id (setAll is ds r)
  | .tp _, _, _ => .no

def part1 : List D → R (Option Int)
  | [] => .ok none
  | [.int i] => .ok (some i)
  | _ => .no
def truth : D → R Bool
  | .bl b => .ok b
  | _ => .no

/-- the items kept and told -/
def lcL (f : D → R (Option D)) : List D → R (List D)
  | [] => .ok []
  | x :: r => do
    let y ← (f x).still
    let ys ← lcL f r
    match y with
    | some z => .ok (z :: ys)
    | none => .ok ys

/-- what the law's told makes of an answer -/
def exNo : Ex → Option Int
  | .noPart => some 1
  | .noValue => some 2
  | .badChange => some 3
  | .noStep => some 4
  | .badText _ => none
def kTold : List Nat := [116, 111, 108, 100]
def kRefused : List Nat := [114, 101, 102, 117, 115, 101, 100]
def toldR : R D → R D
  | .ok d => .ok (.tup [.str kTold, d])
  | .ex e => opt (fun i => D.tup [.str kRefused, .int i]) (exNo e)
  | .no => .no
def allSeq : List D → Bool := fun _ => true

mutual
def ev {F : Type} (t : Tb F) : E F → Bool → List Slot → R D
  | .var i, pk, r => match r[i]? with
    | some (.val d) => .ok d
    | some (.own d) => if pk then .ok d else .no
    | _ => .no
  | .kst d, _, _ => .ok d
  | .tup es, _, r => do let ds ← evs t es false r; .ok (.tup ds)
  | .lst es, _, r => do let ds ← evs t es false r; .ok (.lst ds)
  | .dnew, _, _ => .ok (.dct [] [])
  | .bin op a b, _, r => do
    let x ← ev t a true r
    let y ← ev t b true r
    binD op x y
  | .neg a, _, r => do
    match ← ev t a false r with
    | .int i => .ok (.int (-i))
    | _ => .no
  | .cmp op a b, _, r => do
    let x ← ev t a true r
    let y ← ev t b true r
    cmpD op x y
  | .chain op op' a b c, _, r => do
    let x ← ev t a true r
    let y ← ev t b true r
    let z ← cmpD op x y
    match ← truth z with
    | true => do
      let w ← ev t c true r
      cmpD op' y w
    | false => .ok (.bl false)
  | .and a b, pk, r => do
    match ← truth (← ev t a false r) with
    | true => ev t b false r
    | false => .ok (.bl false)
  | .or a b, pk, r => do
    match ← truth (← ev t a false r) with
    | true => .ok (.bl true)
    | false => ev t b false r
  | .not a, _, r => do
    let x ← truth (← ev t a false r)
    .ok (.bl (!x))
  | .idx a b, _, r => do
    let x ← ev t a true r
    let y ← ev t b false r
    idxD x y
  | .slc a lo hi, _, r => do
    let x ← ev t a true r
    let l ← evs t lo false r
    let l ← part1 l
    let h ← evs t hi false r
    let h ← part1 h
    slcD x l h
  | .rev a, _, r => do
    match ← ev t a true r with
    | .tup ds => .ok (.tup ds.reverse)
    | _ => .no
  | .isa a ty, _, r => do
    match ← ev t a true r with
    | .scr _ => .no
    | .dct _ _ => .no
    | .tpl _ => .no
    | x => .ok (.bl (isaD ty x))
  | .call f es, _, r => do
    let ds ← evs t es false r
    t.c f ds
  | .blt b es, _, r => do
    let ds ← evs t es true r
    bltD b ds
  | .mth m o es, _, r => do
    let x ← ev t o true r
    if mthOk m x then (do
      let ds ← evs t es false r
      mthD m x ds) else .no
  | .lc tg k es cond elt, _, r => do
    let src ← evs t es true r
    let items ← srcD k src
    let ys ← lcL (fun x => do
      let r' ← asg tg x r
      let cs ← evs t cond false r'
      match cs with
      | [] => do
        let y ← ev t elt false r'
        .ok (some y)
      | [c] => do
        match ← truth c with
        | true => do
          let y ← ev t elt false r'
          .ok (some y)
        | false => .ok none
      | _ => .no) items
    .ok (.lst ys)
  | .told f es, _, r => do
    let ds ← evs t es false r
    toldR (t.c2 f ds)
def evs {F : Type} (t : Tb F) : List (E F) → Bool → List Slot → R (List D)
  | [], _, _ => .ok []
  | e :: es, pk, r => do
    let d ← ev t e pk r
    let ds ← evs t es pk r
    .ok (d :: ds)
end

/-- the value is an object made here -/
def fresh {F : Type} : E F → Bool
  | .lst _ => true
  | .dnew => true
  | .bin .add _ _ => true
  | .bin .mul _ _ => true
  | .slc _ _ _ => true
  | .blt .list _ => true
  | .blt .dict _ => true
  | .blt .sorted _ => true
  | .blt .sitems _ => true
  | .mth .split _ _ => true
  | .lc _ _ _ _ _ => true
  | _ => false
def isMut : D → Bool
  | .lst _ => true
  | .dct _ _ => true
  | _ => false

inductive Out where
  | nx (r : List Slot)
  | rt (d : D)

def forL (f : D → List Slot → R Out) : List D → List Slot → R Out
  | [], r => .ok (.nx r)
  | x :: xs, r => do
    match ← f x r with
    | .nx r' => forL f xs r'
    | .rt d => .ok (.rt d)

def whL (c : List Slot → R Bool) (f : List Slot → R Out) : Nat → List Slot → R Out
  | 0, _ => .no
  | n + 1, r => do
    match ← c r with
    | true => do
      match ← f r with
      | .nx r' => whL c f n r'
      | .rt d => .ok (.rt d)
    | false => .ok (.nx r)
/-- o[x] = d -/
def putR : D → D → D → R D
  | .lst ds, .int j, d => match ixN ds.length j with
    | some n => .ok (.lst (ds.set n d))
    | none => .no
  | .dct ks vs, .str key, d =>
    if (look key ks vs).isSome = true then .ok (.dct ks (putD key d ks vs))
    else if ks.length < LIM then .ok (.dct (ks ++ [key]) (vs ++ [d])) else .no
  | _, _, _ => .no

/-- things of its own are told once for all -/
def Slot.frz : Slot → Slot
  | .own d => .val d
  | s => s
def frzR (r : List Slot) : List Slot := r.map Slot.frz
mutual
def ex {F : Type} (t : Tb F) : S F → List Slot → R Out
  | .set i e, r => do
    let d ← ev t e false r
    if i < r.length then .ok (.nx (r.set i (if fresh e && isMut d then .own d else .val d))) else .no
  | .unp is e, r => do
    let d ← ev t e false r
    let r' ← asg (.tp is) d r
    .ok (.nx r')
  | .app i e, r => match r[i]? with
    | some (.own (.lst ds)) => do
      let d ← ev t e false r
      if ds.length < LIM then .ok (.nx (r.set i (.own (.lst (ds ++ [d]))))) else .no
    | _ => .no
  | .ext i e, r => match r[i]? with
    | some (.own (.lst ds)) => do
      let d ← ev t e false r
      match d with
      | .lst es => if ds.length + es.length ≤ LIM then .ok (.nx (r.set i (.own (.lst (ds ++ es))))) else .no
      | _ => .no
    | _ => .no
  | .put i k e, r => match r[i]? with
    | some (.own o) => do
      let d ← ev t e false r
      let x ← ev t k false r
      let o' ← putR o x d
      .ok (.nx (r.set i (.own o')))
    | _ => .no
  | .ife c a b, r => do
    match ← truth (← ev t c false r) with
    | true => exs t a r
    | false => exs t b r
  | .forr tg k es body, r => do
    let src ← evs t es false r
    let items ← srcD k src
    forL (fun x r => do
      let r' ← asg tg x r
      exs t body r') items r
  | .ret e, r => do
    let d ← ev t e true r
    .ok (.rt d)
  | .retF e, r => do
    let d ← ev t e false (frzR r)
    .ok (.rt d)
  | .expr e, r => do
    let _ ← ev t e false r
    .ok (.nx r)
  | .rai x, _ => .ex x
  | .wh n c body, r => whL (fun r => do truth (← ev t c false r)) (fun r => exs t body r) n r
  | .frz s, r => ex t s (frzR r)
  | .bad, _ => .no
def exs {F : Type} (t : Tb F) : List (S F) → List Slot → R Out
  | [], r => .ok (.nx r)
  | s :: ss, r => do
    match ← ex t s r with
    | .nx r' => exs t ss r'
    | .rt d => .ok (.rt d)
end

structure Df (F : Type) where
  np : Nat
  ns : Nat
  body : List (S F)

def start (d : Nat) (args : List D) : List Slot := args.map .val ++ List.replicate (d - args.length) .un
def exe {F : Type} (t : Tb F) (d : Df F) (args : List D) : R D :=
  if args.length = d.np then
    match exs t d.body (start d.ns args) with
    | .ok (.rt v) => .ok v
    | .ok (.nx _) => .ok .non
    | .ex e => .ex e
    | .no => .no
  else .no

def runs {F : Type} (p : F → Df F) : Nat → (F → List D → R D) × (F → List D → R D) × (F → List D → R D)
  | 0 => (fun _ _ => .no, fun _ _ => .no, fun _ _ => .no)
  | n + 1 => (fun f args => exe ⟨(runs p n).1, (runs p n).2.2⟩ (p f) args, (runs p n).1, (runs p n).2.1)
def run {F : Type} (p : F → Df F) (n : Nat) : F → List D → R D := (runs p n).1
def tbOf {F : Type} (p : F → Df F) (n : Nat) : Tb F := ⟨(runs p n).1, (runs p n).2.2⟩
theorem run_succ {F : Type} (p : F → Df F) (n : Nat) (f : F) (args : List D) : run p (n + 1) f args = exe (tbOf p n) (p f) args := rfl
theorem run_zero {F : Type} (p : F → Df F) (f : F) (args : List D) : run p 0 f args = .no := rfl
theorem runs_two {F : Type} (p : F → Df F) : ∀ n : Nat, (runs p (n + 2)).2.2 = (runs p n).1
  | 0 => rfl
  | _ + 1 => rfl
end Mk
end
section
set_option Elab.async false
set_option linter.all false
set_option maxRecDepth 100000
set_option maxHeartbeats 4000000
namespace Mk
open PySem PySem.Spec PyProof.Rows L2

def toS (x : List Nat) : Str := ⟨x.toArray⟩
def okS (x : List Nat) : Bool := x.all (· < 0x110000)
theorem toS_list (x : List Nat) : (toS x).cps.toList = x := by simp [toS]
theorem toS_len (x : List Nat) : (toS x).length = x.length := by simp [toS, Str.length]
theorem toS_inj {x y : List Nat} (h : toS x = toS y) : x = y := by
  have := congrArg (fun z => z.cps.toList) h
  simpa [toS_list] using this
theorem toS_of (z : Str) : toS z.cps.toList = z := by simp [toS]
theorem lim_line {n : Nat} (h : n ≤ LIM) : n ≤ sizeLine := by
  rw [sizeLine_eq]; unfold LIM at h; omega

mutual
inductive Rep (K : PySem.W.Frag) (Z : Hp) : V → D → Prop
  | non : Rep K Z .non .non
  | bl (b : Bool) : Rep K Z (.bl b) (.bl b)
  | int (i : Int) : Rep K Z (.int i) (.int i)
  | str {x : List Nat} : x.length < LIM → okS x = true → Rep K Z (.str (toS x)) (.str x)
  | tup {a : Addr} {o : Obj} {xs : List V} {ds : List D} : Z a = some (.frz o (.tup xs)) → o.dict = none → xs.length ≤ LIM → RepL K Z xs ds → Rep K Z (.ref a) (.tup ds)
  | tpl {a : Addr} {xs : List V} {ds : List D} : Z a = some (.tup xs) → xs.length ≤ LIM → RepL K Z xs ds → Rep K Z (.ref a) (.tpl ds)
  | lst {a : Addr} {xs : List V} {ds : List D} : Z a = some (.lst xs) → xs.length ≤ LIM → RepL K Z xs ds → Rep K Z (.ref a) (.lst ds)
  | dct {a : Addr} {kvs : List (Key × V)} {ks : List (List Nat)} {ds : List D} : Rd Z a (.dK kvs) → kvs.length ≤ LIM → RepK K Z kvs ks ds → Rep K Z (.ref a) (.dct ks ds)
  | scr {a : Addr} {ns : List Int} : SqL K Z a (ns.map V.int) → ns.length ≤ LIM → Rep K Z (.ref a) (.scr ns)
inductive RepL (K : PySem.W.Frag) (Z : Hp) : List V → List D → Prop
  | nil : RepL K Z [] []
  | cons {v : V} {vs : List V} {d : D} {ds : List D} : Rep K Z v d → RepL K Z vs ds → RepL K Z (v :: vs) (d :: ds)
inductive RepK (K : PySem.W.Frag) (Z : Hp) : List (Key × V) → List (List Nat) → List D → Prop
  | nil : RepK K Z [] [] []
  | cons {k : List Nat} {v : V} {vs : List (Key × V)} {ks : List (List Nat)} {d : D} {ds : List D} : k.length < LIM → okS k = true → Rep K Z v d → RepK K Z vs ks ds → RepK K Z ((.inr (toS k), v) :: vs) (k :: ks) (d :: ds)
end

/-- what is read stays -/
structure Le (Z Z' : Hp) : Prop where
  tup : ∀ a xs, Z a = some (.tup xs) → Z' a = some (.tup xs)
  frt : ∀ a o xs, Z a = some (.frz o (.tup xs)) → Z' a = some (.frz o (.tup xs))
  lst : ∀ a xs, Z a = some (.lst xs) → Z' a = some (.lst xs)
  rdk : ∀ a kvs, Rd Z a (.dK kvs) → Rd Z' a (.dK kvs)
  rdl : ∀ a xs, Rd Z a (.lst xs) → Rd Z' a (.lst xs)
theorem Le.refl (Z : Hp) : Le Z Z := ⟨fun _ _ h => h, fun _ _ _ h => h, fun _ _ h => h, fun _ _ h => h, fun _ _ h => h⟩
theorem Le.trans {A B C : Hp} (h : Le A B) (g : Le B C) : Le A C :=
  ⟨fun a x q => g.tup a x (h.tup a x q), fun a o x q => g.frt a o x (h.frt a o x q), fun a x q => g.lst a x (h.lst a x q), fun a x q => g.rdk a x (h.rdk a x q), fun a x q => g.rdl a x (h.rdl a x q)⟩
theorem Le.of {A B : Hp} (h : ∀ a o, A a = some o → B a = some o) : Le A B :=
  ⟨fun a x q => h a _ q, fun a o x q => h a _ q, fun a x q => h a _ q, fun a x q => q.elim (fun q => .inl (h a _ q)) (fun ⟨o, q⟩ => .inr ⟨o, h a _ q⟩), fun a x q => q.elim (fun q => .inl (h a _ q)) (fun ⟨o, q⟩ => .inr ⟨o, h a _ q⟩)⟩

mutual
theorem Rep.mono {K : PySem.W.Frag} {Z Z' : Hp} (l : Le Z Z') : ∀ {d : D} {v : V}, Rep K Z v d → Rep K Z' v d
  | .non, _, h => by cases h; exact .non
  | .bl _, _, h => by cases h; exact .bl _
  | .int _, _, h => by cases h; exact .int _
  | .str _, _, h => by cases h with | str a b => exact .str a b
  | .tup _, _, h => by cases h with | tup a p b c => exact .tup (l.frt _ _ _ a) p b (RepL.mono l c)
  | .tpl _, _, h => by cases h with | tpl a b c => exact .tpl (l.tup _ _ a) b (RepL.mono l c)
  | .lst _, _, h => by cases h with | lst a b c => exact .lst (l.lst _ _ a) b (RepL.mono l c)
  | .dct _ _, _, h => by cases h with | dct a b c => exact .dct (l.rdk _ _ a) b (RepK.mono l c)
  | .scr _, _, h => by cases h with | scr a b => exact .scr (a.elim (fun a => .inl (l.rdl _ _ a)) .inr) b
theorem RepL.mono {K : PySem.W.Frag} {Z Z' : Hp} (l : Le Z Z') : ∀ {ds : List D} {vs : List V}, RepL K Z vs ds → RepL K Z' vs ds
  | [], _, h => by cases h; exact .nil
  | _ :: _, _, h => by cases h with | cons a b => exact .cons (Rep.mono l a) (RepL.mono l b)
theorem RepK.mono {K : PySem.W.Frag} {Z Z' : Hp} (l : Le Z Z') : ∀ {ds : List D} {ks : List (List Nat)} {vs : List (Key × V)}, RepK K Z vs ks ds → RepK K Z' vs ks ds
  | [], _, _, h => by cases h; exact .nil
  | _ :: _, _, _, h => by cases h with | cons a b c e => exact .cons a b (Rep.mono l c) (RepK.mono l e)
end

theorem RepL.length {K : PySem.W.Frag} {Z : Hp} : ∀ {vs : List V} {ds : List D}, RepL K Z vs ds → vs.length = ds.length
  | _, _, .nil => rfl
  | _, _, .cons _ h => by simp [RepL.length h]
theorem RepK.lengthK {K : PySem.W.Frag} {Z : Hp} : ∀ {ds : List D} {kvs : List (Key × V)} {ks : List (List Nat)}, RepK K Z kvs ks ds → kvs.length = ks.length ∧ ks.length = ds.length
  | [], _, _, h => by cases h; exact ⟨rfl, rfl⟩
  | _ :: _, _, _, h => by
    cases h with
    | cons _ _ _ h => have := RepK.lengthK h; simp [this.1, this.2]
theorem RepL.append {K : PySem.W.Frag} {Z : Hp} : ∀ {vs : List V} {ds : List D} {us : List V} {es : List D}, RepL K Z vs ds → RepL K Z us es → RepL K Z (vs ++ us) (ds ++ es)
  | _, _, _, _, .nil, h => h
  | _, _, _, _, .cons a b, h => .cons a (RepL.append b h)
theorem RepL.get {K : PySem.W.Frag} {Z : Hp} : ∀ {vs : List V} {ds : List D} {i : Nat} {d : D}, RepL K Z vs ds → ds[i]? = some d → ∃ v, vs[i]? = some v ∧ Rep K Z v d
  | _, _, _, _, .nil, e => by simp at e
  | _, _, 0, _, .cons a _, e => by simp at e; subst e; exact ⟨_, rfl, a⟩
  | _, _, i + 1, d, .cons _ b, e => by
    obtain ⟨v, h1, h2⟩ := RepL.get (i := i) (d := d) b (by simpa using e)
    exact ⟨v, by simpa using h1, h2⟩
theorem RepL.getV {K : PySem.W.Frag} {Z : Hp} : ∀ {vs : List V} {ds : List D} {i : Nat} {v : V}, RepL K Z vs ds → vs[i]? = some v → ∃ d, ds[i]? = some d ∧ Rep K Z v d
  | _, _, _, _, .nil, e => by simp at e
  | _, _, 0, _, .cons a _, e => by simp at e; subst e; exact ⟨_, rfl, a⟩
  | _, _, i + 1, v, .cons _ b, e => by
    obtain ⟨d, h1, h2⟩ := RepL.getV (i := i) (v := v) b (by simpa using e)
    exact ⟨d, by simpa using h1, h2⟩
theorem RepL.take {K : PySem.W.Frag} {Z : Hp} : ∀ {vs : List V} {ds : List D} (n : Nat), RepL K Z vs ds → RepL K Z (vs.take n) (ds.take n)
  | _, _, 0, _ => .nil
  | _, _, _ + 1, .nil => .nil
  | _, _, n + 1, .cons a b => .cons a (RepL.take n b)
theorem RepL.drop {K : PySem.W.Frag} {Z : Hp} : ∀ {vs : List V} {ds : List D} (n : Nat), RepL K Z vs ds → RepL K Z (vs.drop n) (ds.drop n)
  | _, _, 0, h => h
  | _, _, _ + 1, .nil => .nil
  | _, _, n + 1, .cons _ b => RepL.drop n b
theorem RepL.set {K : PySem.W.Frag} {Z : Hp} {v : V} {d : D} (r : Rep K Z v d) : ∀ {vs : List V} {ds : List D} (n : Nat), RepL K Z vs ds → RepL K Z (vs.set n v) (ds.set n d)
  | _, _, _, .nil => .nil
  | _, _, 0, .cons _ b => .cons r b
  | _, _, n + 1, .cons a b => .cons a (RepL.set r n b)
theorem RepL.reverse {K : PySem.W.Frag} {Z : Hp} : ∀ {vs : List V} {ds : List D}, RepL K Z vs ds → RepL K Z vs.reverse ds.reverse
  | _, _, .nil => .nil
  | _, _, .cons a b => by simp only [List.reverse_cons]; exact (RepL.reverse b).append (.cons a .nil)

structure Good (T : List (Addr × Str)) (Z H : Hp) : Prop where
  sub : ∀ a o, Z a = some o → H a = some o
  tabs : LamX.Tabs T H
  ntb : ∀ a ps, Z a ≠ some (.tbl ps)
/-- free, but for tables -/
def Fr (H : Hp) (a : Addr) : Prop := ∀ o, H a = some o → ∃ ps, o = .tbl ps
theorem Fr.of {H : Hp} {a : Addr} (h : H a = none) : Fr H a := fun o e => by rw [h] at e; cases e
theorem Fr.ne {H : Hp} {a b : Addr} {o : HO} (h : H a = some o) (n : ∀ ps, o ≠ .tbl ps) (f : Fr H b) : a ≠ b := fun e => by
  subst e
  obtain ⟨ps, e⟩ := f o h
  exact n ps e
structure Ext (Z H Z' H' : Hp) : Prop where
  le : Le Z Z'
  keep : ∀ a o, H a = some o → (∀ ps, o ≠ .tbl ps) → H' a = some o
  old : ∀ a o, H a = some o → (∀ ps, o ≠ .tbl ps) → Z' a = Z a
theorem Ext.dom {Z H Z' H' : Hp} (x : Ext Z H Z' H') (a : Addr) (h : Fr H' a) : Fr H a := fun o e => by
  rcases Classical.em (∃ ps, o = .tbl ps) with c | c
  · exact c
  · exact h o (x.keep a o e fun ps z => c ⟨ps, z⟩)
theorem Ext.refl (Z H : Hp) : Ext Z H Z H := ⟨Le.refl Z, fun _ _ h _ => h, fun _ _ _ _ => rfl⟩
theorem Ext.trans {Z H Z1 H1 Z2 H2 : Hp} (a : Ext Z H Z1 H1) (b : Ext Z1 H1 Z2 H2) : Ext Z H Z2 H2 := by
  refine ⟨a.le.trans b.le, fun x o h n => b.keep x o (a.keep x o h n) n, fun x o h n => ?_⟩
  rw [b.old x o (a.keep x o h n) n, a.old x o h n]

/-- a list or a dict of its own at p -/
inductive Own (K : PySem.W.Frag) (Z H : Hp) (p : Addr) : D → Prop
  | lst {xs : List V} {ds : List D} : H p = some (.lst xs) → xs.length ≤ LIM → RepL K Z xs ds → Own K Z H p (.lst ds)
  | dct {kvs : List (Key × V)} {ks : List (List Nat)} {ds : List D} : Rd H p (.dK kvs) → kvs.length ≤ LIM → RepK K Z kvs ks ds → Own K Z H p (.dct ks ds)
theorem Own.ext {K : PySem.W.Frag} {Z H Z' H' : Hp} {p : Addr} {d : D} (o : Own K Z H p d) (x : Ext Z H Z' H') : Own K Z' H' p d := by
  cases o with
  | lst a b c => exact .lst (x.keep _ _ a (fun _ h => nomatch h)) b (c.mono x.le)
  | dct a b c => exact .dct (a.elim (fun q => .inl (x.keep _ _ q (fun _ h => nomatch h))) (fun ⟨o, q⟩ => .inr ⟨o, x.keep _ _ q (fun _ h => nomatch h)⟩)) b (c.mono x.le)
theorem Own.some {K : PySem.W.Frag} {Z H : Hp} {p : Addr} {d : D} (o : Own K Z H p d) : ∃ u, H p = .some u ∧ ∀ ps, u ≠ .tbl ps := by
  cases o with
  | lst a _ _ => exact ⟨_, a, fun _ h => nomatch h⟩
  | dct a _ _ => exact a.elim (fun q => ⟨_, q, fun _ h => nomatch h⟩) (fun ⟨o, q⟩ => ⟨_, q, fun _ h => nomatch h⟩)
/-- the same, not walked just now -/
inductive OwnX (K : PySem.W.Frag) (Z H : Hp) (p : Addr) : D → Prop
  | lst {xs : List V} {ds : List D} : H p = .some (.lst xs) → xs.length ≤ LIM → RepL K Z xs ds → OwnX K Z H p (.lst ds)
  | dct {kvs : List (Key × V)} {ks : List (List Nat)} {ds : List D} : H p = .some (.dK kvs) → kvs.length ≤ LIM → RepK K Z kvs ks ds → OwnX K Z H p (.dct ks ds)
theorem OwnX.own {K : PySem.W.Frag} {Z H : Hp} {p : Addr} {d : D} (o : OwnX K Z H p d) : Own K Z H p d := by
  cases o with
  | lst a b c => exact .lst a b c
  | dct a b c => exact .dct (.inl a) b c
theorem OwnX.ext {K : PySem.W.Frag} {Z H Z' H' : Hp} {p : Addr} {d : D} (o : OwnX K Z H p d) (x : Ext Z H Z' H') : OwnX K Z' H' p d := by
  cases o with
  | lst a b c => exact .lst (x.keep _ _ a (fun _ h => nomatch h)) b (c.mono x.le)
  | dct a b c => exact .dct (x.keep _ _ a (fun _ h => nomatch h)) b (c.mono x.le)
/-- as a value, or (pk) as a list or dict of its own -/
def RepM (pk : Bool) (K : PySem.W.Frag) (Z H : Hp) (v : V) (d : D) : Prop := Rep K Z v d ∨ (pk = true ∧ ∃ p, v = .ref p ∧ Z p = none ∧ Own K Z H p d)
theorem RepM.ext {pk : Bool} {K : PySem.W.Frag} {Z H Z' H' : Hp} {v : V} {d : D} (o : RepM pk K Z H v d) (x : Ext Z H Z' H') : RepM pk K Z' H' v d := by
  rcases o with o | ⟨h, p, e, n, o⟩
  · exact .inl (o.mono x.le)
  · refine .inr ⟨h, p, e, ?_, o.ext x⟩
    obtain ⟨u, q, qn⟩ := o.some
    rw [x.old p u q qn, n]
theorem RepM.val {K : PySem.W.Frag} {Z H : Hp} {v : V} {d : D} (o : RepM false K Z H v d) : Rep K Z v d := by
  rcases o with o | ⟨h, _⟩
  · exact o
  · cases h
/-- made here: at p, that was free in H0 -/
def Made (K : PySem.W.Frag) (H0 Z H : Hp) (v : V) (d : D) : Prop :=
  if isMut d = true then ∃ p, v = .ref p ∧ Fr H0 p ∧ Z p = none ∧ OwnX K Z H p d else Rep K Z v d

/-- the slots -/
def EnvW (K : PySem.W.Frag) (Z H : Hp) (σ : L2.St) (r : List Slot) : Prop :=
  σ.length = r.length ∧ ∀ i : Nat, match r[i]? with
    | some (.val d) => ∃ v, σ[i]? = some (some v) ∧ Rep K Z v d
    | some (.own d) => ∃ p, σ[i]? = some (some (.ref p)) ∧ Z p = none ∧ Own K Z H p d
    | _ => True
theorem EnvW.ext {K : PySem.W.Frag} {Z H Z' H' : Hp} {σ : L2.St} {r : List Slot} (e : EnvW K Z H σ r) (x : Ext Z H Z' H') : EnvW K Z' H' σ r := by
  refine ⟨e.1, fun i => ?_⟩
  have h := e.2 i
  split at h
  · obtain ⟨v, a, b⟩ := h; exact ⟨v, a, b.mono x.le⟩
  · obtain ⟨p, a, n, b⟩ := h
    obtain ⟨u, q, qn⟩ := b.some
    exact ⟨p, a, by rw [x.old p u q qn, n], b.ext x⟩
  · trivial

section
variable {T : List (Addr × Str)} {K : PySem.W.Frag} {Z H : Hp} {p : Addr} {o : HO}
theorem Good.none (g : Good T Z H) (h : H p = .none) : Z p = .none := by
  cases q : Z p with
  | none => rfl
  | some u => rw [g.sub p u q] at h; cases h
theorem tabs_upd (t : LamX.Tabs T H) (h : H p = .none) : LamX.Tabs T (upd H p o) := t.ext fun b u e => by rw [upd_ne (ne_of_none e h)]; exact e
/-- laid, told once for all -/
theorem Good.put (g : Good T Z H) (h : H p = .none) (n : ∀ ps, o ≠ .tbl ps) : Good T (upd Z p o) (upd H p o) := by
  refine ⟨fun a u e => ?_, tabs_upd g.tabs h, fun a ps e => ?_⟩
  · by_cases q : a = p
    · subst q; rw [upd_same] at e ⊢; exact e
    · rw [upd_ne q] at e ⊢; exact g.sub a u e
  · by_cases q : a = p
    · subst q; rw [upd_same] at e; exact n ps (Option.some.inj e)
    · rw [upd_ne q] at e; exact g.ntb a ps e
theorem Ext.put (g : Good T Z H) (h : H p = .none) : Ext Z H (upd Z p o) (upd H p o) := by
  have z := g.none h
  refine ⟨Le.of fun a u e => by rw [upd_ne (ne_of_none e z)]; exact e, fun a u e _ => by rw [upd_ne (ne_of_none e h)]; exact e, fun a u e _ => by rw [upd_ne (ne_of_none e h)]⟩
/-- laid, a thing of its own -/
theorem Good.lay (g : Good T Z H) (h : H p = .none) : Good T Z (upd H p o) :=
  ⟨fun a u e => by rw [upd_ne (ne_of_none (g.sub a u e) h)]; exact g.sub a u e, tabs_upd g.tabs h, g.ntb⟩
theorem Ext.lay (h : H p = .none) : Ext Z H Z (upd H p o) := by
  refine ⟨Le.refl Z, fun a u e _ => by rw [upd_ne (ne_of_none e h)]; exact e, fun a u e _ => rfl⟩
/-- a thing of its own is told once for all -/
theorem Good.fix {u : HO} (g : Good T Z H) (h : H p = .some u) (n : ∀ ps, u ≠ .tbl ps) : Good T (upd Z p u) H := by
  refine ⟨fun a w e => ?_, g.tabs, fun a ps e => ?_⟩
  · by_cases q : a = p
    · subst q; rw [upd_same] at e; cases e; exact h
    · rw [upd_ne q] at e; exact g.sub a w e
  · by_cases q : a = p
    · subst q; rw [upd_same] at e; exact n ps (Option.some.inj e)
    · rw [upd_ne q] at e; exact g.ntb a ps e
theorem Own.fix {d : D} (w : Own K Z H p d) (n : Z p = .none) : ∃ u, H p = .some u ∧ (∀ ps, u ≠ .tbl ps) ∧ Rep K (upd Z p u) (.ref p) d := by
  have le : ∀ u, Le Z (upd Z p u) := fun u => Le.of fun a x e => by rw [upd_ne (ne_of_none e n)]; exact e
  cases w with
  | lst a b c => exact ⟨_, a, (fun _ h => nomatch h), .lst upd_same b (c.mono (le _))⟩
  | dct a b c =>
    rcases a with a | ⟨ob, a⟩
    · exact ⟨_, a, (fun _ h => nomatch h), .dct (.inl upd_same) b (c.mono (le _))⟩
    · exact ⟨_, a, (fun _ h => nomatch h), .dct (.inr ⟨ob, upd_same⟩) b (c.mono (le _))⟩
end

/-- an exception's class and dict -/
def ExR (ca : Nat → Addr) : Ex → Value → Option Addr → Hp → Prop
  | .noPart, c, d, _ => c = .ref (ca 0) ∧ d = none
  | .noValue, c, d, _ => c = .ref (ca 1) ∧ d = none
  | .badChange, c, d, _ => c = .ref (ca 2) ∧ d = none
  | .noStep, c, d, _ => c = .ref (ca 3) ∧ d = none
  | .badText i, c, d, H => c = .ref (ca 4) ∧ ∃ a, d = some a ∧ H a = some (.xd [(Str.ofString "at", .int i)])

structure Law where
  T : List (Addr × Str)
  K : PySem.W.Frag
  ca : Nat → Addr

def Got (L : Law) (W : XK) (Z H : Hp) {α γ : Type} (x : R α) (rel : Hp → Hp → Hp → γ → α → Prop) (Q : γ → Hp → Prop) : Prop :=
  match x with
  | .ok d => ∀ v H' Z', Good L.T Z' H' → Ext Z H Z' H' → rel H Z' H' v d → Q v H'
  | .ex e => ∀ H' Z' c d, Good L.T Z' H' → Ext Z H Z' H' → ExR L.ca e c d H' → W c d H'
  | .no => False
/-- a relation that stands in grown heaps, told from an elder one -/
def Grows {α γ : Type} (rel : Hp → Hp → Hp → γ → α → Prop) : Prop := ∀ H0 H1 Z H v d, (∀ a, Fr H1 a → Fr H0 a) → rel H1 Z H v d → rel H0 Z H v d
def relV (pk : Bool) (K : PySem.W.Frag) : Hp → Hp → Hp → V → D → Prop := fun _ Z H v d => RepM pk K Z H v d
def relF (K : PySem.W.Frag) : Hp → Hp → Hp → V → D → Prop := fun H0 Z H v d => Made K H0 Z H v d
theorem grows_v (pk : Bool) (K : PySem.W.Frag) : Grows (relV pk K) := fun _ _ _ _ _ _ _ h => h
theorem grows_f (K : PySem.W.Frag) : Grows (relF K) := fun H0 H1 Z H v d n h => by
  unfold relF Made at h ⊢
  split at h
  · rename_i hm
    rw [if_pos hm]
    obtain ⟨p, e, a, b⟩ := h
    exact ⟨p, e, n p a, b⟩
  · rename_i hm
    rw [if_neg hm]
    exact h

section
variable {L : Law} {W : XK} {Z H Z1 H1 : Hp} {α β γ δ : Type} {rel : Hp → Hp → Hp → γ → α → Prop} {Q Q' : γ → Hp → Prop} {Qd : δ → Hp → Prop}
theorem Got.mono {x : R α} (h : Got L W Z H x rel Q) (q : ∀ v H', Q v H' → Q' v H') : Got L W Z H x rel Q' := by
  cases x with
  | ok d => exact fun v H' Z' a b c => q _ _ (h v H' Z' a b c)
  | ex e => exact h
  | no => exact h
theorem Got.weak {x : R α} (g : Grows rel) (h : Got L W Z H x rel Q) (e : Ext Z H Z1 H1) : Got L W Z1 H1 x rel Q := by
  cases x with
  | ok d => exact fun v H' Z' a b c => h v H' Z' a (e.trans b) (g _ _ _ _ _ _ e.dom c)
  | ex e' => exact fun H' Z' c d a b x => h H' Z' c d a (e.trans b) x
  | no => exact h
/-- a part is evaluated first -/
theorem Got.bind {x : R α} {f : α → R β} {rl : Hp → Hp → Hp → δ → β → Prop} (g : Grows rl) (h : Got L W Z H (x >>= f) rl Qd) :
    Got L W Z H x rel (fun v H1 => ∃ Z1 d, x = .ok d ∧ Good L.T Z1 H1 ∧ Ext Z H Z1 H1 ∧ rel H Z1 H1 v d ∧ Got L W Z1 H1 (f d) rl Qd) := by
  cases x with
  | ok d => exact fun v H1 Z1 a b c => ⟨Z1, d, rfl, a, b, c, Got.weak g h b⟩
  | ex e => exact h
  | no => exact h
end

/-- an expression's reading by m -/
def tE (L : Law) (W : XK) (pk : Bool) (m : List Slot → R D) : TE := fun σ H Q => ∃ Z r, Good L.T Z H ∧ EnvW L.K Z H σ r ∧ Got L W Z H (m r) (relV pk L.K) Q
def tF (L : Law) (W : XK) (m : List Slot → R D) : TE := fun σ H Q => ∃ Z r, Good L.T Z H ∧ EnvW L.K Z H σ r ∧ Got L W Z H (m r) (relF L.K) Q
theorem PE.mono {X : Cx} {e : Expr} {t u : TE} (h : PE X e t) (q : ∀ σ H Q, u σ H Q → t σ H Q) : PE X e u := ⟨fun pins s σ H Q I hw => h.run pins s σ H Q I (q σ H Q hw)⟩
theorem PT.mono {X : Cx} {e : Expr} {t u : TT} (h : PT X e t) (q : ∀ σ H Q, u σ H Q → t σ H Q) : PT X e u := ⟨fun pins s σ H Q I hw => h.run pins s σ H Q I (q σ H Q hw)⟩

/-- what is made here may be told once for all -/
theorem made_rep {T : List (Addr × Str)} {K : PySem.W.Frag} {H0 Z H : Hp} {v : V} {d : D} (g : Good T Z H) (m : Made K H0 Z H v d) : ∃ Z', Good T Z' H ∧ Le Z Z' ∧ (∀ a o, H0 a = some o → (∀ ps, o ≠ .tbl ps) → Z' a = Z a) ∧ Rep K Z' v d := by
  unfold Made at m
  split at m
  · obtain ⟨p, rfl, h0, n, w⟩ := m
    obtain ⟨u, hu, nt, r⟩ := w.own.fix n
    refine ⟨_, g.fix hu nt, Le.of fun a x e => by rw [upd_ne (ne_of_none e n)]; exact e, fun a o e n => ?_, r⟩
    rw [upd_ne (Fr.ne e n h0)]
  · exact ⟨Z, g, Le.refl Z, fun _ _ _ _ => rfl, m⟩
theorem pe_of_fresh {L : Law} {W : XK} {m : List Slot → R D} {X : Cx} {e : Expr} (pk : Bool) (h : PE X e (tF L W m)) : PE X e (tE L W pk m) := by
  refine PE.mono h fun σ H Q ⟨Z, r, g, v, q⟩ => ⟨Z, r, g, v, ?_⟩
  revert q
  cases m r with
  | ok d =>
    intro q u H' Z' g' x md
    obtain ⟨Z2, g2, le, od, rp⟩ := made_rep g' md
    exact q u H' Z2 g2 ⟨x.le.trans le, x.keep, fun a o e n => by rw [od a o e n, x.old a o e n]⟩ (.inl rp)
  | ex e => exact fun q => q
  | no => exact fun q => q

theorem tabs_set {T : List (Addr × Str)} {H : Hp} {p : Addr} {u o : HO} (t : LamX.Tabs T H) (h : H p = some u) (n1 : ∀ ps, u ≠ .tbl ps) (n2 : ∀ f, u ≠ .ext f) : LamX.Tabs T (upd H p o) := by
  intro q hq
  obtain ⟨ps, a, b, c⟩ := t q hq
  refine ⟨ps, ?_, b, fun pos cv hc => ?_⟩
  · rw [upd_ne (fun z => ?_)]
    · exact a
    · rw [z, h] at a; exact n1 _ (Option.some.inj a)
  · obtain ⟨x, e, k⟩ := c pos cv hc
    refine ⟨x, e, ?_⟩
    rw [upd_ne (fun z => ?_)]
    · exact k
    · rw [z, h] at k; exact n2 _ (Option.some.inj k)
theorem Good.set {T : List (Addr × Str)} {Z H : Hp} {p : Addr} {u o : HO} (g : Good T Z H) (z : Z p = .none) (h : H p = some u) (n1 : ∀ ps, u ≠ .tbl ps) (n2 : ∀ f, u ≠ .ext f) : Good T Z (upd H p o) :=
  ⟨fun a w e => by rw [upd_ne (ne_of_none e z)]; exact g.sub a w e, tabs_set g.tabs h n1 n2, g.ntb⟩
theorem Ext.set {Z H Z' H' : Hp} {p : Addr} {o : HO} (x : Ext Z H Z' H') (h : Fr H p) : Ext Z H Z' (upd H' p o) := by
  refine ⟨x.le, fun a w e n => by rw [upd_ne (Fr.ne e n h)]; exact x.keep a w e n, x.old⟩
end Mk
end
section
set_option Elab.async false
set_option linter.all false
set_option maxRecDepth 100000
set_option maxHeartbeats 4000000
namespace Mk
open PySem PySem.Spec PyProof.Rows L2

/-- a tuple's object -/
abbrev tupO (arr : Array Value) : Obj := { cls := .type "tuple", data := .seq arr }
section
variable {X : Cx} {pins : List (Addr × Obj)} {σ : L2.St} {H : Hp} {s : Shared}
/-- a tuple laid anew, its object known -/
theorem laidP {xs : List V} {its : List Value} (I : Inv X pins σ H s) (z : xs.length ≤ sizeLine) (r : Vals xs its) : Inv X pins σ (upd H s.heap.objs.size (.frz (tupO its.toArray) (.tup xs))) { s with heap := s.heap.push (tupO its.toArray) } :=
  I.laid (t' := s.toks) (fun b u e => Heap.get?_push_of_some _ e) (Nat.le_refl _) ⟨Heap.get?_push_size _ rfl, z, its, r, ⟨_, Heap.get?_push_size _ rfl, rfl, 0, rfl⟩⟩
/-- what may be asked of a new tuple -/
abbrev NewT (H : Hp) (xs : List V) (Q : VK) : Prop := ∀ p o, H p = none → o.dict = none → Q (.ref p) (upd H p (.frz o (.tup xs)))
theorem NewT.ep {xs : List V} {its : List Value} {Q : VK} (q : NewT H xs Q) (I : Inv X pins σ H s) (z : xs.length ≤ sizeLine) (r : Vals xs its) : EP X pins σ Q (.ref s.heap.objs.size) { s with heap := s.heap.push (tupO its.toArray) } :=
  ⟨.ref s.heap.objs.size, _, laidP I z r, rfl, q _ _ (I.hok.fresh (Nat.le_refl _)) rfl⟩
end
section
variable {X : Cx} {pos : Pos} {es : List Expr} {t : TA}
def tTupP (t : TA) : TE := fun σ H Q => t σ H fun xs H1 => xs.length ≤ sizeLine ∧ NewT H1 xs Q
theorem pe_tupP {k : Nat} (h : PA X es t) : PE X (.Tuple es k pos) (tTupP t) := by
  refine ⟨fun pins s σ H Q I hq => ?_⟩
  exact wpAny_Tuple_spliced (thn (h.run pos pins s σ H _ I hq) fun us s1 ⟨xs, H1, I1, r, z, q⟩ => ⟨by rw [← r.length]; exact z, NewT.ep q I1 z r⟩)
def rCatP (K : PySem.W.Frag) : R2 := fun x y H Q => ∃ a b xs ys, x = .ref a ∧ y = .ref b ∧ SqT K H a xs ∧ SqT K H b ys ∧ xs.length + ys.length ≤ sizeLine ∧ (xs = [] → Q (.ref b) H) ∧ (xs ≠ [] → ys = [] → Q (.ref a) H) ∧ (xs ≠ [] → ys ≠ [] → NewT H (xs ++ ys) Q)
theorem op_catP : OpR X (binaryOp .Add) (rCatP X.K) := by
  intro pins s σ H x y v u Q I rx ry ⟨a, b, xs, ys, ex, ey, ha, hb, hz, q0, q1, q2⟩
  subst ex ey
  cases rx
  cases ry
  obtain ⟨its, r1, t1, _⟩ := I.tuple ha
  obtain ⟨jts, r2, t2, _⟩ := I.tuple hb
  by_cases hx : xs = []
  · subst hx
    cases r1
    exact cat_tup0 t1 t2 ⟨.ref b, H, I, rfl, q0 rfl⟩
  · refine HT.cat_tup t1 t2 (fun e => hx (r1.nil_iff.mp e)) (fun e => ⟨.ref a, H, I, rfl, q1 hx (r2.nil_iff.mp e)⟩) (fun e => ?_) (by rw [← r1.length, ← r2.length]; exact hz)
    exact NewT.ep (q2 hx fun h => e (r2.nil_iff.mpr h)) I (by rw [List.length_append]; exact hz) (r1.append r2)
def rSlP (K : PySem.W.Frag) : V → Option Int → Option Int → Hp → VK → Prop := fun x lo hi H Q => ∃ a xs, x = .ref a ∧ SqT K H a xs ∧
  (HT.sIx xs.length 0 lo = 0 ∧ HT.sIx xs.length xs.length hi = xs.length → Q (.ref a) H) ∧ (¬ (HT.sIx xs.length 0 lo = 0 ∧ HT.sIx xs.length xs.length hi = xs.length) → NewT H (cutV xs lo hi) Q)
theorem sl_tupP : SlR X (rSlP X.K) := by
  intro pins s σ H x v vl vu lo hi sl Q I rx hs pl pu ⟨a, xs, ex, hx, q1, q2⟩
  subst ex
  cases rx
  obtain ⟨its, r, ht, hz⟩ := I.tuple hx
  have hl : its.toArray.size = xs.length := by rw [List.size_toArray, r.length]
  refine ⟨"tuple", _, PyProof.Rows.slot_tuple_getitem.lookup, ht.typeIs, ?_⟩
  by_cases hw : HT.sIx xs.length 0 lo = 0 ∧ HT.sIx xs.length xs.length hi = xs.length
  · exact getItem_tuple_whole ht hs pl pu (by rw [hl]; exact hw) ⟨.ref a, H, I, rfl, q1 hw⟩
  · refine HT.getItem_tuple_cut ht hs pl pu (by rw [hl]; exact hw) ?_ (by rw [hl]; exact hz)
    rw [hl]
    exact NewT.ep (q2 hw) I (Nat.le_trans (cutV_length xs lo hi) hz) ((r.drop (HT.sIx xs.length 0 lo)).take (HT.sIx xs.length xs.length hi - HT.sIx xs.length 0 lo))
theorem call_tupleP : CallR X (.type "tuple") (fun xs H Q => ∃ p ys, xs = [.ref p] ∧ ((SqL X.K H p ys ∧ NewT H ys Q) ∨ (SqT X.K H p ys ∧ Q (.ref p) H))) := by
  intro pins s σ H xs us Q I r ⟨p, ys, ex, h⟩
  subst ex
  obtain rfl := Vals.ref1 r
  rcases h with ⟨hq, q⟩ | ⟨hq, q⟩
  · obtain ⟨its, r', pl, hz⟩ := I.list hq
    refine call_tuple_list pl.isList (fun h' kp => ?_) (by rw [List.size_toArray, ← r'.length]; exact hz)
    exact NewT.ep (s := { s with heap := h' }) q (I.kept (t' := s.toks) kp) hz r'
  · obtain ⟨its, r', pl, hz⟩ := I.tuple hq
    exact call_tuple_same pl ⟨.ref p, H, I, rfl, q⟩
def rRepP (K : PySem.W.Frag) : R2 := fun x y H Q => ∃ l k xs, x = .ref l ∧ y = .int k ∧ SqT K H l xs ∧ xs ≠ [] ∧ 2 ≤ k ∧ k ≤ 1000 ∧ xs.length ≤ 1000 ∧ NewT H (List.replicate k.toNat xs).flatten Q
theorem op_repP : OpR X (binaryOp .Mult) (rRepP X.K) := by
  intro pins s σ H x y v u Q I rx ry ⟨l, k, xs, ex, ey, hT, hne, k2, kM, hx, q⟩
  subst ex ey
  cases rx
  obtain ⟨t, rfl⟩ := ry
  obtain ⟨its, r, ⟨⟨cls, dd, data, sl⟩, ho, hc, n, hd⟩, _⟩ := I.tuple hT
  simp only at hc hd
  subst hc hd
  have hle : its.length = xs.length := r.length.symm
  have hsz : its.toArray.size = xs.length := by rw [List.size_toArray, hle]
  have hem : its.toArray.isEmpty = false := by
    cases its with
    | nil => exact absurd (List.eq_nil_of_length_eq_zero hle.symm) hne
    | cons _ _ => rfl
  have prod : ((its.toArray.size : Nat) : Int) * k ≤ 1000000 := by
    rw [hsz]
    have : ((xs.length : Nat) : Int) * k ≤ 1000 * k := Int.mul_le_mul_of_nonneg_right (by omega) (by omega)
    omega
  have many : k.toNat * xs.length ≤ 1000 * 1000 := Nat.mul_le_mul (by omega) hx
  have small : (List.replicate k.toNat xs).flatten.length ≤ sizeLine := by
    rw [PyProof.Rows.lm_len_rep_flat, sizeLine_eq]
    omega
  have big : Builtin.Tuple.tupleTooMany (((its.toArray.size : Nat) : Int) * k) = false := by
    unfold Builtin.Tuple.tupleTooMany
    rw [sizeLine_eq]
    exact decide_eq_false (by omega)
  refine wpAny_binaryOp_repeat_ref (T := "tuple") (U := "int") (by decide) ⟨_, ho, rfl⟩ (fun s' => typeIs_int s' k t) noFill_tuple_mul F.fills_int_mul F.slot_int_rmul repeat_tuple F.slot_int_index.lookup
    (call_meets F.slot_int_rmul (typeIs_int s k t) F.entry_int_rmul (F.args_int_rmul_2 _ _) (int_rmul_tuple k t l its.toArray n dd sl)
      ⟨ho, rfl, ⟨_, ho, rfl⟩, call_meets F.slot_tuple_mul ⟨_, ho, rfl⟩ F.entry_tuple_mul (F.args_tuple_mul_2 _ _) (tuple_mulW l its.toArray n dd sl k t ?_ ?_ ?_ (by omega) big ?_) ⟨ho, ?_⟩⟩)
  · rw [decide_eq_false (by omega), decide_eq_false (by omega)] <;> rfl
  · rw [hem, Bool.false_or]
    exact beq_eq_false_iff_ne.mpr (by omega)
  · rw [hem, Bool.or_false]
    exact decide_eq_false (by omega)
  · rw [size_rep, List.size_toArray, PyProof.Rows.lm_len_rep_flat, hle, sizeLine_eq]
    omega
  · rw [size_rep]
    exact NewT.ep q I small (r.rep k.toNat)
end
end Mk
end
section
set_option Elab.async false
set_option linter.all false
set_option maxRecDepth 100000
set_option maxHeartbeats 4000000
namespace Mk
open PySem PySem.Spec PyProof.Rows L2

section
variable {T : List (Addr × Str)} {K : PySem.W.Frag} {Z H : Hp} {v : V} {pk : Bool}
theorem rep_int {i : Int} (h : RepM pk K Z H v (.int i)) : v = .int i := by
  rcases h with h | ⟨_, p, _, _, h⟩ <;> cases h; rfl
theorem rep_bl {b : Bool} (h : RepM pk K Z H v (.bl b)) : v = .bl b := by
  rcases h with h | ⟨_, p, _, _, h⟩ <;> cases h; rfl
theorem rep_non (h : RepM pk K Z H v .non) : v = .non := by
  rcases h with h | ⟨_, p, _, _, h⟩ <;> cases h; rfl
theorem rep_str {x : List Nat} (h : RepM pk K Z H v (.str x)) : v = .str (toS x) ∧ x.length < LIM ∧ okS x = true := by
  rcases h with h | ⟨_, p, _, _, h⟩
  · cases h with | str a b => exact ⟨rfl, a, b⟩
  · cases h
theorem rep_tup {ds : List D} (g : Good T Z H) (h : RepM pk K Z H v (.tup ds)) : ∃ a xs, v = .ref a ∧ (∃ o, Z a = some (.frz o (.tup xs)) ∧ o.dict = none) ∧ SqT K H a xs ∧ xs.length ≤ LIM ∧ RepL K Z xs ds := by
  rcases h with h | ⟨_, p, _, _, h⟩
  · cases h with | tup a p b c => exact ⟨_, _, rfl, ⟨_, a, p⟩, .inl (.inr ⟨_, g.sub _ _ a⟩), b, c⟩
  · cases h
theorem rep_lst {ds : List D} (g : Good T Z H) (h : RepM pk K Z H v (.lst ds)) : ∃ a xs, v = .ref a ∧ H a = some (.lst xs) ∧ xs.length ≤ LIM ∧ RepL K Z xs ds := by
  rcases h with h | ⟨_, p, rfl, _, h⟩
  · cases h with | lst a b c => exact ⟨_, _, rfl, g.sub _ _ a, b, c⟩
  · cases h with | lst a b c => exact ⟨_, _, rfl, a, b, c⟩
theorem rd_sub {a : Addr} {u : HO} (g : Good T Z H) (h : Rd Z a u) : Rd H a u := h.elim (fun q => .inl (g.sub _ _ q)) fun ⟨o, q⟩ => .inr ⟨o, g.sub _ _ q⟩
theorem rep_dct {ks : List (List Nat)} {ds : List D} (g : Good T Z H) (h : RepM pk K Z H v (.dct ks ds)) : ∃ a kvs, v = .ref a ∧ Rd H a (.dK kvs) ∧ kvs.length ≤ LIM ∧ RepK K Z kvs ks ds := by
  rcases h with h | ⟨_, p, rfl, _, h⟩
  · cases h with | dct a b c => exact ⟨_, _, rfl, rd_sub g a, b, c⟩
  · cases h with | dct a b c => exact ⟨_, _, rfl, a, b, c⟩
theorem rep_scr {ns : List Int} (g : Good T Z H) (h : RepM pk K Z H v (.scr ns)) : ∃ a, v = .ref a ∧ SqL K H a (ns.map V.int) ∧ ns.length ≤ LIM := by
  rcases h with h | ⟨_, p, rfl, _, h⟩
  · cases h with | scr a b => exact ⟨_, rfl, a.elim (fun a => .inl (rd_sub g a)) .inr, b⟩
  · cases h
end

/-- what follows an operation that comes to d -/
def Fin (L : Law) (Z H : Hp) (d : D) (Q : VK) : Prop := ∀ v H' Z', Good L.T Z' H' → Ext Z H Z' H' → Made L.K H Z' H' v d → Q v H'
section
variable {L : Law} {Z H : Hp} {d : D} {Q : VK}
theorem made_val {K : PySem.W.Frag} {H0 Z H : Hp} {v : V} {d : D} (r : Rep K Z v d) (h : isMut d = false) : Made K H0 Z H v d := by
  unfold Made; rw [if_neg (by rw [h]; simp)]; exact r
theorem Fin.val {v : V} (q : Fin L Z H d Q) (g : Good L.T Z H) (r : Rep L.K Z v d) (h : isMut d = false := by rfl) : Q v H := q v H Z g (Ext.refl Z H) (made_val r h)
theorem Fin.bl {b : Bool} (q : Fin L Z H (.bl b) Q) (g : Good L.T Z H) : Q (.bl b) H := q.val g (.bl b)
theorem Fin.int {b : Int} (q : Fin L Z H (.int b) Q) (g : Good L.T Z H) : Q (.int b) H := q.val g (.int b)
theorem Fin.str {x : List Nat} (q : Fin L Z H (.str x) Q) (g : Good L.T Z H) (a : x.length < LIM) (b : okS x = true) : Q (.str (toS x)) H := q.val g (.str a b)
theorem Fin.tup {xs : List V} {ds : List D} (q : Fin L Z H (.tup ds) Q) (g : Good L.T Z H) (a : xs.length ≤ LIM) (r : RepL L.K Z xs ds) : NewT H xs Q := fun p o np hd =>
  q _ _ _ (g.put np (fun _ h => nomatch h)) (Ext.put g np) (made_val (.tup upd_same hd a (r.mono (Ext.put (o := .frz o (.tup xs)) g np).le)) rfl)
theorem Fin.lst {xs : List V} {ds : List D} (q : Fin L Z H (.lst ds) Q) (g : Good L.T Z H) (a : xs.length ≤ LIM) (r : RepL L.K Z xs ds) : ∀ p, H p = none → Q (.ref p) (upd H p (.lst xs)) := fun p np =>
  q _ _ _ (g.lay np) (Ext.lay np) (by unfold Made; rw [if_pos (show isMut (D.lst ds) = true from rfl)]; exact ⟨p, rfl, .of np, g.none np, .lst upd_same a r⟩)
theorem Fin.dct {kvs : List (Key × V)} {ks : List (List Nat)} {ds : List D} (q : Fin L Z H (.dct ks ds) Q) (g : Good L.T Z H) (a : kvs.length ≤ LIM) (r : RepK L.K Z kvs ks ds) : ∀ p, H p = none → Q (.ref p) (upd H p (.dK kvs)) := fun p np =>
  q _ _ _ (g.lay np) (Ext.lay np) (by unfold Made; rw [if_pos (show isMut (D.dct ks ds) = true from rfl)]; exact ⟨p, rfl, .of np, g.none np, .dct upd_same a r⟩)
end

theorem okS_append {x y : List Nat} (a : okS x = true) (b : okS y = true) : okS (x ++ y) = true := by
  unfold okS at *; rw [List.all_append, a, b]; rfl
theorem toS_append (x y : List Nat) : toS x ++ toS y = toS (x ++ y) := by
  show (⟨(toS x).cps ++ (toS y).cps⟩ : Str) = toS (x ++ y)
  simp [toS]
theorem RepL.rep {K : PySem.W.Frag} {Z : Hp} {vs : List V} {ds : List D} (h : RepL K Z vs ds) : ∀ n : Nat, RepL K Z (List.replicate n vs).flatten (List.replicate n ds).flatten
  | 0 => .nil
  | n + 1 => by simp only [List.replicate_succ, List.flatten_cons]; exact h.append (RepL.rep h n)

theorem flat_len {α : Type} (l : List α) : ∀ n : Nat, (List.replicate n l).flatten.length = n * l.length
  | 0 => by simp
  | n + 1 => by rw [List.replicate_succ, List.flatten_cons, List.length_append, flat_len l n, Nat.succ_mul]; omega
def bopPy : Bop → Operator
  | .add => .Add | .sub => .Sub | .mul => .Mult | .fdiv => .FloorDiv | .mod => .Mod
def rBin (L : Law) (op : Bop) : R2 := fun x y H Q => ∃ Z dx dy d, Good L.T Z H ∧ RepM true L.K Z H x dx ∧ RepM true L.K Z H y dy ∧ binD op dx dy = .ok d ∧ Fin L Z H d Q
theorem opr_bin {X : Cx} {L : Law} (hK : L.K = X.K) (op : Bop) : OpR X (binaryOp (bopPy op)) (rBin L op) := by
  intro pins s σ H x y v u Q I rx ry ⟨Z, dx, dy, d, g, hx, hy, e, q⟩
  unfold binD at e
  split at e
  · -- int + int
    cases e; cases rep_int hx; cases rep_int hy
    exact op_add pins s σ H _ _ v u Q I rx ry ⟨_, _, rfl, rfl, q.int g⟩
  · -- str + str
    split at e <;> cases e
    rename_i hl
    obtain ⟨rfl, a1, a2⟩ := rep_str hx
    obtain ⟨rfl, b1, b2⟩ := rep_str hy
    refine op_add_str pins s σ H _ _ v u Q I rx ry ⟨_, _, rfl, rfl, ?_, ?_⟩
    · rw [toS_len, toS_len]; exact lim_line (Nat.le_of_lt hl)
    · rw [toS_append]; exact q.str g (by rw [List.length_append]; exact hl) (okS_append a2 b2)
  · -- tuples
    split at e <;> cases e
    rename_i a b hl
    obtain ⟨p, xs, rfl, zx, sx, lx, rlx⟩ := rep_tup g hx
    obtain ⟨p2, ys, rfl, zy, sy, ly, rly⟩ := rep_tup g hy
    rw [hK] at sx sy
    have ex := rlx.length
    have ey := rly.length
    refine op_catP pins s σ H _ _ v u Q I rx ry ⟨_, _, _, _, rfl, rfl, sx, sy, lim_line (by omega), fun e0 => ?_, fun e0 e1 => ?_, fun e0 e1 => ?_⟩
    · subst e0
      cases rlx
      exact q.val g (let ⟨_, z1, z2⟩ := zy; .tup z1 z2 ly rly)
    · subst e1
      cases rly
      obtain ⟨_, z1, z2⟩ := zx
      refine q.val g (.tup z1 z2 lx ?_)
      rw [List.append_nil]; exact rlx
    · exact q.tup g (by rw [List.length_append]; omega) (rlx.append rly)
  · -- lists
    split at e <;> cases e
    rename_i a b hl
    obtain ⟨p, xs, rfl, sx, lx, rlx⟩ := rep_lst g hx
    obtain ⟨p2, ys, rfl, sy, ly, rly⟩ := rep_lst g hy
    have ex := rlx.length
    have ey := rly.length
    exact op_cat pins s σ H _ _ v u Q I rx ry ⟨_, _, _, _, rfl, rfl, sx, sy, lim_line (by omega), q.lst g (by rw [List.length_append]; omega) (rlx.append rly)⟩
  · cases e; cases rep_int hx; cases rep_int hy
    exact op_sub pins s σ H _ _ v u Q I rx ry ⟨_, _, rfl, rfl, q.int g⟩
  · split at e <;> cases e
    rename_i a b hs
    cases rep_int hx; cases rep_int hy
    refine op_mul pins s σ H _ _ v u Q I rx ry ⟨_, _, rfl, rfl, ?_, q.int g⟩
    unfold small at hs
    simp only [Bool.or_eq_true, Bool.and_eq_true, decide_eq_true_eq] at hs
    exact hs
  · -- str * int
    rename_i a k
    obtain ⟨rfl, a1, a2⟩ := rep_str hx
    cases rep_int hy
    obtain ⟨t, rfl⟩ := rx
    obtain ⟨t', rfl⟩ := ry
    split at e
    · rename_i hk
      cases e
      refine PySem.P.mul_str_none (by omega) (by omega) ⟨.str (toS []), H, I.tok _, ⟨_, rfl⟩, q.str g (show 0 < LIM by decide) rfl⟩
    · split at e <;> cases e
      rename_i hk0 hk
      subst hk
      refine PySem.P.mul_str (by decide) (fun _ h => by simp at h) (fun _ h => by simp at h) ?_
      rw [if_neg (by decide), if_pos (by simp)]
      exact ⟨.str (toS a), H, I, ⟨_, rfl⟩, q.str g a1 a2⟩
  · split at e <;> cases e
    rename_i a k hc
    obtain ⟨p, xs, rfl, zx, sx, lx, rlx⟩ := rep_tup g hx
    cases rep_int hy
    rw [hK] at sx
    have ex := rlx.length
    refine op_repP pins s σ H _ _ v u Q I rx ry ⟨_, _, _, rfl, rfl, sx, fun z => hc.1 ?_, hc.2.1, hc.2.2.1, by omega, q.tup g ?_ (rlx.rep _)⟩
    · subst z; cases rlx; rfl
    · rw [flat_len]
      have : k.toNat * xs.length ≤ 1000 * 1000 := Nat.mul_le_mul (by omega) (by omega)
      unfold LIM; omega
  · split at e <;> cases e
    rename_i a k hc
    obtain ⟨p, xs, rfl, sx, lx, rlx⟩ := rep_lst g hx
    cases rep_int hy
    have ex := rlx.length
    have hm : k.toNat * xs.length ≤ 1000 * 1000 := Nat.mul_le_mul (by omega) (by omega)
    refine op_rep pins s σ H _ _ v u Q I rx ry ⟨_, _, _, rfl, rfl, sx, by omega, by omega, ?_, q.lst g ?_ (rlx.rep _)⟩
    · rw [Nat.mul_comm]; exact lim_line (by unfold LIM; omega)
    · rw [flat_len]; unfold LIM; omega
  · split at e <;> cases e
    rename_i a b hs
    cases rep_int hx; cases rep_int hy
    exact op_fdiv pins s σ H _ _ v u Q I rx ry ⟨_, _, rfl, rfl, hs, q.int g⟩
  · split at e <;> cases e
    rename_i a b hs
    cases rep_int hx; cases rep_int hy
    exact op_mod pins s σ H _ _ v u Q I rx ry ⟨_, _, rfl, rfl, hs, q.int g⟩
  · cases e

mutual
def toP : D → PyData
  | .non => .none
  | .bl b => .bool b
  | .int i => .int i
  | .str x => .str (toS x)
  | .tup ds => .tuple (toPs ds)
  | .lst ds => .list (toPs ds)
  | .dct _ _ => .dict []
  | .scr _ => .dict []
  | .tpl _ => .dict []
def toPs : List D → List PyData
  | [] => []
  | d :: ds => toP d :: toPs ds
end
mutual
theorem rep_dp {T : List (Addr × Str)} {K : PySem.W.Frag} {Z H : Hp} (g : Good T Z H) : ∀ {d : D} {v : V} {n : Nat}, fl d n = true → Rep K Z v d → Dp K H v (toP d)
  | .non, _, _, _, h => by cases h; exact .non
  | .bl _, _, _, _, h => by cases h; exact .bl _
  | .int _, _, _, _, h => by cases h; exact .int _
  | .str _, _, _, _, h => by cases h; exact .str _
  | .tup ds, _, n, f, h => by
    cases h with
    | tup a _ b c =>
      cases n with
      | zero => simp [fl] at f
      | succ n => exact .tup (.inl (.inr ⟨_, g.sub _ _ a⟩)) (repL_dp g (by simpa [fl] using f) c)
  | .lst ds, _, n, f, h => by
    cases h with
    | lst a b c =>
      cases n with
      | zero => simp [fl] at f
      | succ n => exact .lst (.of (g.sub _ _ a)) (repL_dp g (by simpa [fl] using f) c)
  | .dct _ _, _, n, f, h => by cases n <;> simp [fl] at f
  | .scr _, _, n, f, h => by cases n <;> simp [fl] at f
  | .tpl _, _, n, f, h => by cases n <;> simp [fl] at f
theorem repL_dp {T : List (Addr × Str)} {K : PySem.W.Frag} {Z H : Hp} (g : Good T Z H) : ∀ {ds : List D} {vs : List V} {n : Nat}, fls ds n = true → RepL K Z vs ds → DpAll K H vs (toPs ds)
  | [], _, _, _, h => by cases h; exact .nil
  | d :: ds, _, n, f, h => by
    cases h with
    | cons a b =>
      rw [fls, Bool.and_eq_true] at f
      exact .cons (rep_dp g f.1 a) (repL_dp g f.2 b)
end
mutual
theorem shp {K : PySem.W.Frag} {Z : Hp} : ∀ {d : D} {v : V} {n : Nat}, fl d n = true → Rep K Z v d → (toP d).canLay0 = true ∧ (toP d).depth ≤ n
  | .non, _, _, _, _ => by simp [toP, PyData.canLay0, PyData.depth]
  | .bl _, _, _, _, _ => by simp [toP, PyData.canLay0, PyData.depth]
  | .int _, _, _, _, _ => by simp [toP, PyData.canLay0, PyData.depth]
  | .str x, _, _, _, h => by
    cases h with
    | str a b =>
      refine ⟨?_, by simp [toP, PyData.depth]⟩
      simp only [toP, PyData.canLay0, PyData.strOk, toS]
      unfold okS at b
      simpa using b
  | .tup ds, _, n, f, h => by
    cases h with
    | tup a _ b c =>
      cases n with
      | zero => simp [fl] at f
      | succ n =>
        have k := shps (by simpa [fl] using f) c
        simp only [toP, PyData.canLay0, PyData.depth]
        exact ⟨k.1, by omega⟩
  | .lst ds, _, n, f, h => by
    cases h with
    | lst a b c =>
      cases n with
      | zero => simp [fl] at f
      | succ n =>
        have k := shps (by simpa [fl] using f) c
        simp only [toP, PyData.canLay0, PyData.depth]
        exact ⟨k.1, by omega⟩
  | .dct _ _, _, n, f, h => by cases n <;> simp [fl] at f
  | .scr _, _, n, f, h => by cases n <;> simp [fl] at f
  | .tpl _, _, n, f, h => by cases n <;> simp [fl] at f
theorem shps {K : PySem.W.Frag} {Z : Hp} : ∀ {ds : List D} {vs : List V} {n : Nat}, fls ds n = true → RepL K Z vs ds → PyData.canLayAll0 (toPs ds) = true ∧ PyData.depthAll (toPs ds) ≤ n
  | [], _, _, _, _ => by simp [toPs, PyData.canLayAll0, PyData.depthAll]
  | d :: ds, _, n, f, h => by
    cases h with
    | cons a b =>
      rw [fls, Bool.and_eq_true] at f
      have h1 := shp f.1 a
      have h2 := shps f.2 b
      simp only [toPs, PyData.canLayAll0, PyData.depthAll, h1.1, h2.1]
      exact ⟨rfl, by omega⟩
end
theorem toS_beq (x y : List Nat) : (toS x == toS y) = (x == y) := by
  rw [Bool.eq_iff_iff, beq_iff_eq, beq_iff_eq]
  exact ⟨toS_inj, congrArg toS⟩
mutual
theorem eqv_toP : ∀ {a b : D} {n m : Nat}, fl a n = true → fl b m = true → PyData.eqv (toP a) (toP b) = eqv a b
  | .non, b, n, m, _, f => by cases b <;> simp [toP, PyData.eqv, eqv]; all_goals (cases m <;> simp [fl] at f)
  | .bl _, b, n, m, _, f => by cases b <;> simp [toP, PyData.eqv, eqv]; all_goals (cases m <;> simp [fl] at f)
  | .int _, b, n, m, _, f => by cases b <;> simp [toP, PyData.eqv, eqv]; all_goals (cases m <;> simp [fl] at f)
  | .str x, b, n, m, _, f => by cases b <;> simp [toP, PyData.eqv, eqv, toS_beq]; all_goals (cases m <;> simp [fl] at f)
  | .tup xs, b, n, m, f0, f => by
    cases b <;> first | rfl | skip
    all_goals (try (cases m <;> simp [fl] at f; done))
    simp only [toP, PyData.eqv, eqv]
    cases n with
    | zero => simp [fl] at f0
    | succ n =>
      cases m with
      | zero => simp [fl] at f
      | succ m => exact eqvs_toP (by simpa [fl] using f0) (by simpa [fl] using f)
  | .lst xs, b, n, m, f0, f => by
    cases b <;> first | rfl | skip
    all_goals (try (cases m <;> simp [fl] at f; done))
    simp only [toP, PyData.eqv, eqv]
    cases n with
    | zero => simp [fl] at f0
    | succ n =>
      cases m with
      | zero => simp [fl] at f
      | succ m => exact eqvs_toP (by simpa [fl] using f0) (by simpa [fl] using f)
  | .dct _ _, _, n, _, f, _ => by cases n <;> simp [fl] at f
  | .scr _, _, n, _, f, _ => by cases n <;> simp [fl] at f
theorem eqvs_toP : ∀ {a b : List D} {n m : Nat}, fls a n = true → fls b m = true → PyData.eqvAll (toPs a) (toPs b) = eqvs a b
  | [], [], _, _, _, _ => by simp [toPs, PyData.eqvAll, eqvs]
  | [], _ :: _, _, _, _, _ => by simp [toPs, PyData.eqvAll, eqvs]
  | _ :: _, [], _, _, _, _ => by simp [toPs, PyData.eqvAll, eqvs]
  | x :: xs, y :: ys, n, m, f0, f => by
    rw [fls, Bool.and_eq_true] at f0 f
    simp only [toPs, PyData.eqvAll, eqvs, eqv_toP f0.1 f.1, eqvs_toP f0.2 f.2]
end
end Mk
end
section
set_option Elab.async false
set_option linter.all false
set_option maxRecDepth 100000
set_option maxHeartbeats 4000000
namespace Mk
open PySem PySem.Spec PyProof.Rows L2

theorem repM_dp {T : List (Addr × Str)} {K : PySem.W.Frag} {Z H : Hp} {d : D} {v : V} {pk : Bool} {n : Nat} (g : Good T Z H) (f : fl d n = true) (h : RepM pk K Z H v d) : Dp K H v (toP d) := by
  rcases h with h | ⟨_, p, rfl, _, h⟩
  · exact rep_dp g f h
  · cases h with
    | lst a b c =>
      cases n with
      | zero => simp [fl] at f
      | succ n => exact .lst (.of a) (repL_dp g (by simpa [fl] using f) c)
    | dct a b c => cases n <;> simp [fl] at f
theorem repM_shp {K : PySem.W.Frag} {Z H : Hp} {d : D} {v : V} {pk : Bool} {n : Nat} (f : fl d n = true) (hn : n ≤ 64) (h : RepM pk K Z H v d) : SeqAt.shaped (toP d) = true := by
  have k : (toP d).canLay0 = true ∧ (toP d).depth ≤ n := by
    rcases h with h | ⟨_, p, rfl, _, h⟩
    · exact shp f h
    · cases h with
      | lst a b c =>
        cases n with
        | zero => simp [fl] at f
        | succ n =>
          have k := shps (by simpa [fl] using f) c
          simp only [toP, PyData.canLay0, PyData.depth]
          exact ⟨k.1, by omega⟩
      | dct a b c => cases n <;> simp [fl] at f
  unfold SeqAt.shaped
  rw [k.1, Bool.true_and]
  exact decide_eq_true (Nat.le_trans k.2 hn)
theorem any_toP {a : D} {n : Nat} (f : fl a n = true) : ∀ {ds : List D} {m : Nat}, fls ds m = true → ((toPs ds).any fun z => PyData.eqv z (toP a)) = isAny a ds
  | [], _, _ => rfl
  | d :: ds, m, h => by
    rw [fls, Bool.and_eq_true] at h
    show (PyData.eqv (toP d) (toP a) || _) = (eqv d a || _)
    rw [eqv_toP h.1 f, any_toP f h.2]
    rfl
theorem flat_rep {K : PySem.W.Frag} {Z : Hp} {v : V} {d : D} (f : fl d 0 = true) (h : Rep K Z v d) : flatV v = true := by
  cases h <;> first | rfl | simp [fl] at f
theorem flats_rep {K : PySem.W.Frag} {Z : Hp} : ∀ {ds : List D} {vs : List V}, fls ds 0 = true → RepL K Z vs ds → vs.all flatV = true
  | [], _, _, h => by cases h; rfl
  | d :: ds, _, f, h => by
    cases h with
    | cons a b =>
      rw [fls, Bool.and_eq_true] at f
      rw [List.all_cons, flat_rep f.1 a, flats_rep f.2 b]; rfl
theorem eqV_rep {K : PySem.W.Frag} {Z Z' : Hp} {v u : V} {d e : D} (f : fl d 0 = true) (f' : fl e 0 = true) (h : Rep K Z v d) (h' : Rep K Z' u e) : eqV v u = eqv d e := by
  cases h <;> cases h' <;> first | rfl | (simp [fl] at f; done) | (simp [fl] at f'; done) | (simp only [eqV, eqv, toS_beq])
theorem anyV_rep {K : PySem.W.Frag} {Z Z' : Hp} {u : V} {e : D} (f' : fl e 0 = true) (h' : Rep K Z' u e) : ∀ {ds : List D} {vs : List V}, fls ds 0 = true → RepL K Z vs ds → inV u vs = isAny e ds
  | [], _, _, h => by cases h; rfl
  | d :: ds, _, f, h => by
    cases h with
    | cons a b =>
      rw [fls, Bool.and_eq_true] at f
      show (eqV _ u || inV u _) = (eqv d e || isAny e ds)
      rw [eqV_rep f.1 f' a h', anyV_rep f' h' f.2 b]
theorem ltS_lt : ∀ a b : List Nat, ltS a b = decide (a < b)
  | [], [] => by simp [ltS]
  | [], b :: t => by simp [ltS]
  | a :: s, [] => by simp [ltS]
  | a :: s, b :: t => by
    rw [ltS, ltS_lt s t]
    rw [show decide (a :: s < b :: t) = decide (a < b ∨ a = b ∧ s < t) from by simp only [decide_eq_decide]; exact List.cons_lt_cons_iff]
    by_cases h : a = b
    · subst h; simp
    · simp [h]
theorem isPre_iff : ∀ s t : List Nat, isPre s t = true ↔ s.length ≤ t.length ∧ t.take s.length = s
  | [], t => by simp [isPre]
  | a :: s, [] => by simp [isPre]
  | a :: s, b :: t => by
    rw [isPre, Bool.and_eq_true, isPre_iff s t, beq_iff_eq]
    simp only [List.length_cons, List.take_succ_cons, List.cons.injEq]
    constructor
    · rintro ⟨rfl, h1, h2⟩; exact ⟨by omega, rfl, h2⟩
    · rintro ⟨h1, rfl, h2⟩; exact ⟨rfl, by omega, h2⟩
theorem isIn_iff (s : List Nat) : ∀ t : List Nat, isIn s t = true ↔ ∃ i, i + s.length ≤ t.length ∧ (t.drop i).take s.length = s
  | [] => by
    rw [isIn, isPre_iff]
    constructor
    · rintro ⟨h1, h2⟩; exact ⟨0, by simpa using h1, by simpa using h2⟩
    · rintro ⟨i, h1, h2⟩
      have e : s = [] := List.eq_nil_of_length_eq_zero (by simp only [List.length_nil] at h1; omega)
      subst e; exact ⟨Nat.le_refl _, rfl⟩
  | b :: t => by
    rw [isIn, Bool.or_eq_true, isPre_iff, isIn_iff s t]
    constructor
    · rintro (⟨h1, h2⟩ | ⟨i, h1, h2⟩)
      · exact ⟨0, by simpa using h1, by simpa using h2⟩
      · exact ⟨i + 1, by simp only [List.length_cons]; omega, by simpa using h2⟩
    · rintro ⟨i, h1, h2⟩
      cases i with
      | zero => exact .inl ⟨by simpa using h1, by simpa using h2⟩
      | succ i => exact .inr ⟨i, by simp only [List.length_cons] at h1; omega, by simpa using h2⟩
theorem occ_isIn (x y : List Nat) : (!(Builtin.Str.occurrences (toS y) (toS x) 0 (toS y).length 1).isEmpty) = isIn x y := by
  rw [Bool.eq_iff_iff, PySem.StrLaws.found_iff, isIn_iff]
  constructor
  · rintro ⟨i, h1, h2⟩
    rw [PySem.StrLaws.subAt_eq, toS_list, toS_list, toS_len, beq_iff_eq] at h2
    rw [toS_len, toS_len] at h1
    exact ⟨i, h1, h2⟩
  · rintro ⟨i, h1, h2⟩
    refine ⟨i, by rw [toS_len, toS_len]; exact h1, ?_⟩
    rw [PySem.StrLaws.subAt_eq, toS_list, toS_list, toS_len, beq_iff_eq]
    exact h2
theorem look_some {K : PySem.W.Frag} {Z : Hp} {k : List Nat} : ∀ {ds : List D} {ks : List (List Nat)} {kvs : List (Key × V)} {d : D}, RepK K Z kvs ks ds → look k ks ds = some d → ∃ v, valV kvs (.inr (toS k)) = some v ∧ Rep K Z v d
  | [], _, _, _, h, e => by cases h; cases e
  | d :: ds, _, _, _, h, e => by
    cases h with
    | @cons k' v vs ks _ _ a b c h =>
      rw [look] at e
      by_cases q : k' = k
      · subst q
        rw [if_pos rfl] at e; cases e
        exact ⟨v, valV_pos rfl, c⟩
      · rw [if_neg q] at e
        obtain ⟨u, h1, h2⟩ := look_some h e
        refine ⟨u, ?_, h2⟩
        rw [valV_neg (fun z => q (toS_inj (Sum.inr.inj z)))]
        exact h1
theorem look_none {K : PySem.W.Frag} {Z : Hp} {k : List Nat} : ∀ {ds : List D} {ks : List (List Nat)} {kvs : List (Key × V)}, RepK K Z kvs ks ds → look k ks ds = none → valV kvs (.inr (toS k)) = none
  | [], _, _, h, e => by cases h; rfl
  | d :: ds, _, _, h, e => by
    cases h with
    | @cons k' v vs ks _ _ a b c h =>
      rw [look] at e
      by_cases q : k' = k
      · rw [if_pos q] at e; cases e
      · rw [if_neg q] at e
        rw [valV_neg (fun z => q (toS_inj (Sum.inr.inj z)))]
        exact look_none h e
theorem look_isSome {K : PySem.W.Frag} {Z : Hp} {k : List Nat} {ds : List D} {ks : List (List Nat)} {kvs : List (Key × V)} (h : RepK K Z kvs ks ds) : (valV kvs (.inr (toS k))).isSome = (look k ks ds).isSome := by
  cases e : look k ks ds with
  | none => rw [look_none h e]; rfl
  | some d => obtain ⟨v, h1, _⟩ := look_some h e; rw [h1]; rfl

def copPy : Cop → CmpOp
  | .eq => .Eq | .ne => .NotEq | .lt => .Lt | .le => .LtE | .gt => .Gt | .ge => .GtE | .isin => .In | .notin => .NotIn | .is => .Is | .isnot => .IsNot
def rCmp (L : Law) (op : Cop) : R2 := fun x y H Q => ∃ Z dx dy d, Good L.T Z H ∧ RepM true L.K Z H x dx ∧ RepM true L.K Z H y dy ∧ cmpD op dx dy = .ok d ∧ Fin L Z H d Q
theorem dget_of {T : List (Addr × Str)} {K : PySem.W.Frag} {Z H : Hp} {a : Addr} {kvs : List (Key × V)} {k : List Nat} (h : Rd H a (.dK kvs)) : DGet H a (.str (toS k)) (valV kvs (.inr (toS k))) := .inl ⟨kvs, .inr (toS k), h, rfl, rfl⟩
theorem flat_of {K : PySem.W.Frag} {Z H : Hp} {v : V} {d : D} {pk : Bool} (f : fl d 0 = true) (h : RepM pk K Z H v d) : Rep K Z v d := by
  rcases h with h | ⟨_, p, rfl, _, h⟩
  · exact h
  · cases h <;> simp [fl] at f
theorem notN_non {v : V} {K : PySem.W.Frag} {Z H : Hp} {d : D} {pk : Bool} (h : RepM pk K Z H v d) : decide (v = .non) = isNon d := by
  rcases h with h | ⟨_, p, rfl, _, h⟩
  · cases h <;> simp [isNon]
  · cases h <;> simp [isNon]
theorem opr_cmp {X : Cx} {L : Law} (hK : L.K = X.K) (hu : X.A.units + 65 < cLine) (op : Cop) : OpR X (compareOp (copPy op)) (rCmp L op) := by
  intro pins s σ H x y v u Q I rx ry ⟨Z, dx, dy, d, g, hx, hy, e, q⟩
  have dp : ∀ {d : D} {v : V} {n : Nat}, fl d n = true → RepM true L.K Z H v d → Dp X.K H v (toP d) := fun f h => by rw [← hK]; exact repM_dp g f h
  unfold cmpD at e
  split at e
  · split at e <;> cases e
    rename_i f
    rw [Bool.and_eq_true] at f
    refine op_eqD (by omega) pins s σ H _ _ v u Q I rx ry ⟨_, _, dp f.1 hx, dp f.2 hy, repM_shp f.1 (by decide) hx, repM_shp f.2 (by decide) hy, ?_⟩
    rw [eqv_toP f.1 f.2]; exact q.bl g
  · split at e <;> cases e
    rename_i f
    rw [Bool.and_eq_true] at f
    refine op_neD (by omega) pins s σ H _ _ v u Q I rx ry ⟨_, _, dp f.1 hx, dp f.2 hy, repM_shp f.1 (by decide) hx, repM_shp f.2 (by decide) hy, ?_⟩
    rw [eqv_toP f.1 f.2]; exact q.bl g
  · cases e; cases rep_int hx; cases rep_int hy
    exact op_lt pins s σ H _ _ v u Q I rx ry ⟨_, _, rfl, rfl, q.bl g⟩
  · cases e; cases rep_int hx; cases rep_int hy
    exact op_le pins s σ H _ _ v u Q I rx ry ⟨_, _, rfl, rfl, q.bl g⟩
  · cases e; cases rep_int hx; cases rep_int hy
    exact op_gt pins s σ H _ _ v u Q I rx ry ⟨_, _, rfl, rfl, q.bl g⟩
  · cases e; cases rep_int hx; cases rep_int hy
    exact op_ge pins s σ H _ _ v u Q I rx ry ⟨_, _, rfl, rfl, q.bl g⟩
  · cases e
    obtain ⟨rfl, _, _⟩ := rep_str hx
    obtain ⟨rfl, _, _⟩ := rep_str hy
    refine op_le_str pins s σ H _ _ v u Q I rx ry ⟨_, _, rfl, rfl, ?_⟩
    rw [toS_list, toS_list, ← ltS_lt]; exact q.bl g
  · cases e
    obtain ⟨rfl, _, _⟩ := rep_str hx
    obtain ⟨rfl, _, _⟩ := rep_str hy
    refine op_in_str pins s σ H _ _ v u Q I rx ry ⟨_, _, rfl, rfl, ?_⟩
    rw [occ_isIn]; exact q.bl g
  · cases e
    obtain ⟨rfl, _, _⟩ := rep_str hx
    obtain ⟨rfl, _, _⟩ := rep_str hy
    refine op_notin_str pins s σ H _ _ v u Q I rx ry ⟨_, _, rfl, rfl, ?_⟩
    rw [occ_isIn]; exact q.bl g
  · split at e <;> cases e
    rename_i f
    rw [Bool.and_eq_true] at f
    have f2 : fl (.lst _) 61 = true := f.2
    refine op_inD hu pins s σ H _ _ v u Q I rx ry ⟨_, _, dp f.1 hx, dp f2 hy, repM_shp f.1 (by decide) hx, repM_shp f2 (by decide) hy, ?_⟩
    rw [any_toP f.1 f.2]; exact q.bl g
  · split at e <;> cases e
    rename_i f
    rw [Bool.and_eq_true] at f
    have f2 : fl (.lst _) 61 = true := f.2
    refine op_notInD hu pins s σ H _ _ v u Q I rx ry ⟨_, _, dp f.1 hx, dp f2 hy, repM_shp f.1 (by decide) hx, repM_shp f2 (by decide) hy, ?_⟩
    rw [any_toP f.1 f.2]; exact q.bl g
  · split at e <;> cases e
    rename_i f
    rw [Bool.and_eq_true] at f
    obtain ⟨a, xs, rfl, _, st, _, rl⟩ := rep_tup g hy
    rw [hK] at st
    have rx' := flat_of f.1 hx
    refine op_in_seq pins s σ H _ _ v u Q I rx ry ⟨_, _, rfl, .inr st, flat_rep f.1 rx', flats_rep f.2 rl, ?_⟩
    rw [if_neg (by decide), anyV_rep f.1 rx' f.2 rl]; exact q.bl g
  · split at e <;> cases e
    rename_i f
    rw [Bool.and_eq_true] at f
    obtain ⟨a, xs, rfl, _, st, _, rl⟩ := rep_tup g hy
    rw [hK] at st
    have rx' := flat_of f.1 hx
    refine op_notIn_seq pins s σ H _ _ v u Q I rx ry ⟨_, _, rfl, .inr st, flat_rep f.1 rx', flats_rep f.2 rl, ?_⟩
    rw [if_pos rfl, anyV_rep f.1 rx' f.2 rl]; exact q.bl g
  · cases e
    obtain ⟨rfl, _, _⟩ := rep_str hx
    obtain ⟨a, kvs, rfl, rd, _, rk⟩ := rep_dct g hy
    cases ry
    refine d_in (by omega) I (dget_of (T := L.T) (K := L.K) (Z := Z) rd) rx fun s' I' => ⟨.bl _, H, I', rfl, ?_⟩
    rw [look_isSome rk]; exact q.bl g
  · cases e
    obtain ⟨rfl, _, _⟩ := rep_str hx
    obtain ⟨a, kvs, rfl, rd, _, rk⟩ := rep_dct g hy
    cases ry
    refine d_notIn (by omega) I (dget_of (T := L.T) (K := L.K) (Z := Z) rd) rx fun s' I' => ⟨.bl _, H, I', rfl, ?_⟩
    rw [look_isSome rk]; exact q.bl g
  · cases e
    cases rep_non hy
    refine op_isN pins s σ H _ _ v u Q I rx ry ⟨rfl, ?_⟩
    rw [notN_non hx]; exact q.bl g
  · cases e
    cases rep_non hy
    refine op_notN pins s σ H _ _ v u Q I rx ry ⟨rfl, ?_⟩
    rw [notN_non hx]; exact q.bl g
  · cases e
    cases rep_bl hx; cases rep_bl hy
    refine op_isBl pins s σ H _ _ v u Q I rx ry ⟨_, _, rfl, rfl, ?_⟩
    rw [← Bool.beq_eq_decide_eq]; exact q.bl g
  · cases e
    cases rep_bl hx; cases rep_bl hy
    refine op_notBl pins s σ H _ _ v u Q I rx ry ⟨_, _, rfl, rfl, ?_⟩
    rw [← Bool.beq_eq_decide_eq]; exact q.bl g
  · cases e

theorem atI_eq {α : Type} (xs : List α) (i : Int) : L2.atI xs i = Mk.atI xs i := rfl
theorem atI_rep {K : PySem.W.Frag} {Z : Hp} {vs : List V} {ds : List D} {i : Int} {d : D} (h : RepL K Z vs ds) (e : Mk.atI ds i = some d) : ∃ v, L2.atI vs i = some v ∧ Rep K Z v d := by
  unfold Mk.atI at e
  rw [← h.length] at e
  unfold L2.atI
  cases q : Mk.ixN vs.length i with
  | none => rw [q] at e; cases e
  | some j =>
    rw [q] at e
    obtain ⟨v, h1, h2⟩ := h.get e
    exact ⟨v, by rw [show L2.ixN vs.length i = some j from q]; exact h1, h2⟩
theorem atI_map {α β : Type} (f : α → β) (xs : List α) (i : Int) : Mk.atI (xs.map f) i = (Mk.atI xs i).map f := by
  unfold Mk.atI
  rw [List.length_map]
  cases Mk.ixN xs.length i with
  | none => rfl
  | some j => simp
theorem okS_at {x : List Nat} {i : Int} {c : Nat} (h : okS x = true) (e : Mk.atI x i = some c) : okS [c] = true := by
  unfold Mk.atI at e
  cases q : Mk.ixN x.length i with
  | none => rw [q] at e; cases e
  | some j =>
    rw [q] at e
    have hm : c ∈ x := List.mem_of_getElem? e
    unfold okS at h ⊢
    rw [List.all_eq_true] at h
    simpa using h c hm
def rIdx (L : Law) : R2 := fun x y H Q => ∃ Z dx dy d, Good L.T Z H ∧ RepM true L.K Z H x dx ∧ RepM false L.K Z H y dy ∧ idxD dx dy = .ok d ∧ (∀ v, Rep L.K Z v d → Q v H)
theorem opt_some {α β : Type} {f : α → β} {o : Option α} {b : β} (h : opt f o = .ok b) : ∃ a, o = some a ∧ f a = b := by
  cases o with
  | none => cases h
  | some a => cases h; exact ⟨a, rfl, rfl⟩
theorem ix_idx {X : Cx} {L : Law} (hK : L.K = X.K) (hu : X.A.units + 65 < cLine) : IxR X (rIdx L) := by
  intro value slice pins s σ H x y v u Q I rx ry ⟨Z, dx, dy, d, g, hx, hy, e, q⟩ hs
  unfold idxD at e
  split at e
  · obtain ⟨z, e1, rfl⟩ := opt_some e
    obtain ⟨a, xs, rfl, _, st, _, rl⟩ := rep_tup g hx
    cases rep_int hy
    obtain ⟨w, h1, h2⟩ := atI_rep rl e1
    rw [hK] at st
    exact ix_tup value slice pins s σ H _ _ v u Q I rx ry ⟨_, _, _, _, rfl, rfl, st, h1, q _ h2⟩ hs
  · obtain ⟨z, e1, rfl⟩ := opt_some e
    obtain ⟨a, xs, rfl, st, _, rl⟩ := rep_lst g hx
    cases rep_int hy
    obtain ⟨w, h1, h2⟩ := atI_rep rl e1
    exact ix_list value slice pins s σ H _ _ v u Q I rx ry ⟨_, _, _, _, rfl, rfl, .of st, h1, q _ h2⟩ hs
  · obtain ⟨z, e1, rfl⟩ := opt_some e
    obtain ⟨a, rfl, st, _⟩ := rep_scr g hx
    cases rep_int hy
    rw [hK] at st
    exact ix_list value slice pins s σ H _ _ v u Q I rx ry ⟨_, _, _, _, rfl, rfl, st, by rw [atI_eq, atI_map, e1]; rfl, q _ (.int z)⟩ hs
  · obtain ⟨z, e1, rfl⟩ := opt_some e
    obtain ⟨rfl, l, o⟩ := rep_str hx
    cases rep_int hy
    exact ix_str value slice pins s σ H _ _ v u Q I rx ry ⟨_, _, z, rfl, rfl, by rw [toS_len]; exact lim_line (Nat.le_of_lt l), by rw [toS_list]; exact e1, q _ (.str (x := [z]) (show (1 : Nat) < LIM by decide) (okS_at o e1))⟩ hs
  · obtain ⟨z, e1, rfl⟩ := opt_some e
    obtain ⟨a, kvs, rfl, rd, _, rk⟩ := rep_dct g hx
    obtain ⟨rfl, l, o⟩ := rep_str hy
    obtain ⟨w, h1, h2⟩ := look_some rk e1
    cases rx
    have dg : DGet H a _ (some w) := .inl ⟨kvs, .inr (toS _), rd, rfl, h1.symm⟩
    have hT := dict_typeIs I dg
    unfold subscriptTail
    refine wpAny_bind ?_
    rw [getitemInPython_of_ne hT.not_modules]
    refine wpAny_bind (wpAny_specialOf hT PySem.F.slot_dict_getitem.lookup ?_)
    have fin : wpAny (model X.prog X.w) X.A (subscripted slice false (.ref a) u) (fun r s₃ => wpAny (model X.prog X.w) X.A (letTemporaryGo value (.ref a) r >>= fun _ => pure r) (EP X pins σ Q) X.xe s₃) X.xe s := by
      rw [hs]
      exact wpAny_operating (d_getItem (by omega) I dg ry fun w' s' I' r' => wpAny_bind (wpAny_letTemporaryGo (wpAny_pure ⟨w, H, I', r', q _ h2⟩)))
    first
      | exact wpAny_pure (wpAny_bind fin)
      | exact wpAny_bind (wpAny_pure (wpAny_bind fin))
      | exact wpAny_bind fin
  · cases e

theorem sIx_eq (n d : Nat) (o : Option Int) : HT.sIx n d o = Mk.sIx n d o := by cases o <;> rfl
theorem cut_rep {K : PySem.W.Frag} {Z : Hp} {vs : List V} {ds : List D} (h : RepL K Z vs ds) (lo hi : Option Int) : RepL K Z (cutV vs lo hi) (cut ds lo hi) := by
  unfold cutV cut
  rw [sIx_eq, sIx_eq, h.length]
  exact (h.drop _).take _
theorem cut_len {α : Type} (xs : List α) (lo hi : Option Int) : (cut xs lo hi).length ≤ xs.length := by
  unfold cut
  rw [List.length_take, List.length_drop]; omega
theorem cut_whole {α : Type} {xs : List α} {lo hi : Option Int} (h1 : Mk.sIx xs.length 0 lo = 0) (h2 : Mk.sIx xs.length xs.length hi = xs.length) : cut xs lo hi = xs := by
  unfold cut; rw [h1, h2]; simp
theorem cutS_eq (x : List Nat) (lo hi : Option Int) : cutS (toS x) lo hi = toS (cut x lo hi) := by
  unfold cutS cut
  rw [toS_list, toS_len, sIx_eq, sIx_eq]; rfl
theorem okS_cut {x : List Nat} (h : okS x = true) (lo hi : Option Int) : okS (cut x lo hi) = true := by
  unfold okS at *
  rw [List.all_eq_true] at *
  intro c hc
  exact h c (List.mem_of_mem_drop (List.mem_of_mem_take hc))
def rSlc (L : Law) : V → Option Int → Option Int → Hp → VK → Prop := fun x lo hi H Q => ∃ Z dx d, Good L.T Z H ∧ RepM true L.K Z H x dx ∧ slcD dx lo hi = .ok d ∧ Fin L Z H d Q
theorem sl_slc {X : Cx} {L : Law} (hK : L.K = X.K) : SlR X (rSlc L) := by
  intro pins s σ H x v vl vu lo hi sl Q I rx hs pl pu ⟨Z, dx, d, g, hx, e, q⟩
  unfold slcD at e
  split at e
  · cases e
    obtain ⟨a, xs, rfl, za, st, len, rl⟩ := rep_tup g hx
    rw [hK] at st
    refine sl_tupP pins s σ H _ v vl vu lo hi sl Q I rx hs pl pu ⟨_, _, rfl, st, fun h => ?_, fun h => ?_⟩
    · rw [sIx_eq, sIx_eq, rl.length] at h
      obtain ⟨_, z1, z2⟩ := za
      refine q.val g (.tup z1 z2 len ?_)
      rw [cut_whole h.1 h.2]; exact rl
    · exact q.tup g (Nat.le_trans (cutV_length xs lo hi) len) (cut_rep rl lo hi)
  · cases e
    obtain ⟨a, xs, rfl, st, len, rl⟩ := rep_lst g hx
    exact sl_list pins s σ H _ v vl vu lo hi sl Q I rx hs pl pu ⟨_, _, rfl, .of st, q.lst g (Nat.le_trans (cutV_length xs lo hi) len) (cut_rep rl lo hi)⟩
  · cases e
    obtain ⟨rfl, l, o⟩ := rep_str hx
    refine sl_str pins s σ H _ v vl vu lo hi sl Q I rx hs pl pu ⟨_, rfl, by rw [toS_len]; exact lim_line (Nat.le_of_lt l), ?_⟩
    rw [cutS_eq]; exact q.str g (Nat.lt_of_le_of_lt (cut_len _ lo hi) l) (okS_cut o lo hi)
  · cases e

def tyPy : Ty → String
  | .str => "str" | .tup => "tuple" | .bl => "bool" | .int => "int" | .lst => "list"
def rIsa (L : Law) (t : Ty) : List V → Hp → VK → Prop := fun xs H Q => ∃ Z dx x, Good L.T Z H ∧ xs = [x, .ty (tyPy t)] ∧ RepM true L.K Z H x dx ∧ (match dx with | .scr _ => False | .dct _ _ => False | .tpl _ => False | _ => True) ∧ Q (.bl (isaD t dx)) H
theorem call_isa {X : Cx} {L : Law} (hK : L.K = X.K) (t : Ty) : CallR X (.builtin "isinstance") (rIsa L t) := by
  intro pins s σ H xs us Q I r ⟨Z, dx, x, g, e, hx, hn, q⟩
  have go : ∀ (n : String) (b : Bool), TyX X.K H x (.type n) → kitB n (tyPy t) = some b → isaD t dx = b → wpAny (model X.prog X.w) X.A (call (.builtin "isinstance") us) (EP X pins σ Q) X.xe s := fun n b ty k eb => by
    rw [eb] at q
    exact call_isi pins s σ H xs us Q I r ⟨x, _, _, _, b, e, .ty _, ty, kit_ty k, q⟩
  cases dx with
  | non => cases rep_non hx; exact go "NoneType" (isaD t .non) (.base .non) (by cases t <;> decide +kernel) rfl
  | bl b => cases rep_bl hx; exact go "bool" (isaD t (.bl true)) (.base (.bl _)) (by cases t <;> decide +kernel) (by cases t <;> rfl)
  | int i => cases rep_int hx; exact go "int" (isaD t (.int 0)) (.base (.int _)) (by cases t <;> decide +kernel) (by cases t <;> rfl)
  | str z => obtain ⟨rfl, _, _⟩ := rep_str hx; exact go "str" (isaD t (.str [])) (.base (.str _)) (by cases t <;> decide +kernel) (by cases t <;> rfl)
  | tup ds =>
    obtain ⟨a, xs, rfl, za, st, len, rl⟩ := rep_tup g hx
    exact go "tuple" (isaD t (.tup [])) (let ⟨_, z1, _⟩ := za; .fTuple (g.sub _ _ z1)) (by cases t <;> decide +kernel) (by cases t <;> rfl)
  | lst ds =>
    obtain ⟨a, xs, rfl, st, len, rl⟩ := rep_lst g hx
    exact go "list" (isaD t (.lst [])) (.base (.lst st)) (by cases t <;> decide +kernel) (by cases t <;> rfl)
  | dct _ _ => exact hn.elim
  | scr _ => exact hn.elim
  | tpl _ => exact hn.elim
end Mk
end
section
set_option Elab.async false
set_option linter.all false
set_option maxRecDepth 100000
set_option maxHeartbeats 4000000
namespace Mk
open PySem PySem.Spec PyProof.Rows L2

theorem ltS_irrefl : ∀ a : List Nat, ltS a a = false
  | [] => rfl
  | a :: s => by simp [ltS, ltS_irrefl s]
theorem ltS_cmp (a b : List Nat) : ltS a b = false → ltS b a = false → a = b := by
  intro h1 h2
  rw [ltS_lt, decide_eq_false_iff_not] at h1 h2
  exact List.le_antisymm h2 h1
theorem ltS_trans {a b c : List Nat} (h1 : ltS b a = false) (h2 : ltS c b = false) : ltS c a = false := by
  rw [ltS_lt, decide_eq_false_iff_not] at *
  exact List.le_trans h1 h2
theorem ltS_tot {a b : List Nat} (h : ltS a b = true) : ltS b a = false := by
  rw [ltS_lt] at *
  rw [decide_eq_true_eq] at h
  rw [decide_eq_false_iff_not]
  exact List.lt_asymm h
theorem ltL_cons (a b : List Nat) (s t : List (List Nat)) : ltL (a :: s) (b :: t) = false ↔ ltS a b = false ∧ (a = b → ltL s t = false) := by
  rw [ltL]
  by_cases h : a = b
  · subst h; simp [ltS_irrefl]
  · simp [h]
theorem ltL_cmp : ∀ a b : List (List Nat), ltL a b = false → ltL b a = false → a = b
  | [], [], _, _ => rfl
  | [], _ :: _, h, _ => by simp [ltL] at h
  | _ :: _, [], _, h => by simp [ltL] at h
  | a :: s, b :: t, h1, h2 => by
    obtain ⟨p1, p2⟩ := (ltL_cons _ _ _ _).mp h1
    obtain ⟨q1, q2⟩ := (ltL_cons _ _ _ _).mp h2
    have e := ltS_cmp a b p1 q1
    rw [e, ltL_cmp s t (p2 e) (q2 e.symm)]
theorem ltL_trans : ∀ {a b c : List (List Nat)}, ltL b a = false → ltL c b = false → ltL c a = false
  | [], [], [], _, _ => rfl
  | [], [], _ :: _, _, h => h
  | [], _ :: _, [], _, _ => rfl
  | [], b :: t, c :: u, h, _ => h
  | _ :: _, [], _, h, _ => by simp [ltL] at h
  | _ :: _, _ :: _, [], _, h => by simp [ltL] at h
  | a :: s, b :: t, c :: u, h1, h2 => by
    obtain ⟨p1, p2⟩ := (ltL_cons _ _ _ _).mp h1
    obtain ⟨q1, q2⟩ := (ltL_cons _ _ _ _).mp h2
    refine (ltL_cons _ _ _ _).mpr ⟨ltS_trans p1 q1, fun e => ?_⟩
    subst e
    have e := ltS_cmp b c p1 q1
    exact ltL_trans (p2 e) (q2 e.symm)
theorem ltL_tot : ∀ {a b : List (List Nat)}, ltL a b = true → ltL b a = false
  | [], [], h => by simp [ltL] at h
  | [], _ :: _, _ => rfl
  | _ :: _, [], h => by simp [ltL] at h
  | a :: s, b :: t, h => by
    rw [ltL] at h
    split at h
    · rename_i e
      subst e
      exact (ltL_cons _ _ _ _).mpr ⟨ltS_irrefl _, fun _ => ltL_tot h⟩
    · rename_i e
      exact (ltL_cons _ _ _ _).mpr ⟨ltS_tot h, fun z => absurd z.symm e⟩
theorem swoL {α : Type} (k : α → List (List Nat)) : SrtO.Swo fun x y => ltL (k x) (k y) := ⟨fun _ _ h => ltL_tot h, fun _ _ _ h1 h2 => ltL_trans h1 h2⟩
abbrev AscL (l : List (List (List Nat))) : Prop := l.Pairwise fun a b => ltL b a = false
theorem insL_perm (x : List (List Nat)) : ∀ l, (insL x l).Perm (x :: l)
  | [] => .refl _
  | y :: r => by
    rw [insL]
    split
    · exact .refl _
    · exact (List.Perm.cons y (insL_perm x r)).trans (.swap x y r)
theorem sortL_perm : ∀ l, (sortL l).Perm l
  | [] => .refl _
  | x :: r => (insL_perm x (sortL r)).trans ((sortL_perm r).cons x)
theorem insL_asc (x : List (List Nat)) : ∀ {l}, AscL l → AscL (insL x l)
  | [], _ => .cons (fun _ h => by cases h) .nil
  | y :: r, h => by
    rw [insL]
    have h1 : ∀ b ∈ r, ltL b y = false := (List.pairwise_cons.mp h).1
    split
    · rename_i hx
      refine .cons (fun b hb => ?_) h
      rcases List.mem_cons.mp hb with rfl | hb
      · exact ltL_tot hx
      · exact ltL_trans (ltL_tot hx) (h1 b hb)
    · rename_i hx
      refine .cons (fun b hb => ?_) (insL_asc x (List.pairwise_cons.mp h).2)
      rcases List.mem_cons.mp ((insL_perm x r).mem_iff.mp hb) with rfl | hb
      · simpa using hx
      · exact h1 b hb
theorem sortL_asc : ∀ l, AscL (sortL l)
  | [] => .nil
  | x :: r => insL_asc x (sortL_asc r)
theorem ascL_unique : ∀ {l m : List (List (List Nat))}, l.Perm m → AscL l → AscL m → l = m
  | [], m, p, _, _ => (List.Perm.nil_eq p)
  | x :: r, [], p, _, _ => absurd p.symm (by simp)
  | x :: r, y :: s, p, h1, h2 => by
    have e : x = y := by
      rcases List.mem_cons.mp (p.mem_iff.mp (List.mem_cons_self (a := x))) with e | hx
      · exact e
      · rcases List.mem_cons.mp (p.mem_iff.mpr (List.mem_cons_self (a := y))) with e | hy
        · exact e.symm
        · exact ltL_cmp x y ((List.pairwise_cons.mp h2).1 x hx) ((List.pairwise_cons.mp h1).1 y hy)
    subst e
    rw [ascL_unique (List.Perm.cons_inv p) (List.pairwise_cons.mp h1).2 (List.pairwise_cons.mp h2).2]

/-- what is sorted at v: a pair of texts; a pair of a pair of texts and a text -/
def KyF (h : Heap) (v : Value) (ts : List (List Nat)) : Prop := ∃ a x y t u, v = .ref a ∧ h.IsTuple a #[.str x t, .str y u] ∧ ts = [x.cps.toList, y.cps.toList]
def KyN (h : Heap) (v : Value) (ts : List (List Nat)) : Prop := ∃ a b x y z t u r, v = .ref a ∧ h.IsTuple a #[.ref b, .str z r] ∧ h.IsTuple b #[.str x t, .str y u] ∧ ts = [x.cps.toList, y.cps.toList, z.cps.toList]
def Kps (h h' : Heap) : Prop := ∀ b o, h.get? b = some o → o.cls = .type "tuple" → h'.get? b = some o
theorem Kps.tup {h h' : Heap} (k : Kps h h') {a : Addr} {xs : Array Value} (x : h.IsTuple a xs) : h'.IsTuple a xs := by
  obtain ⟨o, e, c, n, d⟩ := x
  exact ⟨o, k _ _ e c, c, n, d⟩
theorem KyF.keeps {h h' : Heap} (k : Kps h h') {v : Value} {ts : List (List Nat)} (x : KyF h v ts) : KyF h' v ts := by
  obtain ⟨a, x, y, t, u, e, i, r⟩ := x
  exact ⟨a, x, y, t, u, e, k.tup i, r⟩
theorem KyN.keeps {h h' : Heap} (k : Kps h h') {v : Value} {ts : List (List Nat)} (x : KyN h v ts) : KyN h' v ts := by
  obtain ⟨a, b, x, y, z, t, u, r, e, i, j, q⟩ := x
  exact ⟨a, b, x, y, z, t, u, r, e, k.tup i, k.tup j, q⟩
theorem strEq_list {x y : Str} : (x == y) = decide (x.cps.toList = y.cps.toList) := by
  by_cases h : x = y
  · subst h; simp
  · have : ¬ x.cps.toList = y.cps.toList := fun e => h (by rw [← toS_of x, ← toS_of y, e])
    simp [h, this]
section
variable {prog : Program} {w : World} {A : Around} {E : Value → Shared → Prop} {s : Shared}
theorem cmpF {p q : Value} {ts us : List (List Nat)} {Q : Bool → Shared → Prop} (h1 : KyF s.heap p ts) (h2 : KyF s.heap q us) (hQ : Q (ltL ts us) s) : wpAny (model prog w) A (keyLt' (tuples' true) p q) Q E s := by
  obtain ⟨a, x, y, t, u, rfl, ⟨o, ho, hc, n, hd⟩, rfl⟩ := h1
  obtain ⟨a', x', y', t', u', rfl, ⟨o', ho', hc', n', hd'⟩, rfl⟩ := h2
  refine PySem.W.kat_lt ho hd ho' hd' ?_
  show PySem.W.KatLex prog w A true (decide (2 < 2)) _ [(.str x t, .str x' t'), (.str y u, .str y' u')] 0 s
  have l1 : ltL [x.cps.toList, y.cps.toList] [x'.cps.toList, y'.cps.toList] = if x.cps.toList = x'.cps.toList then (if y.cps.toList = y'.cps.toList then false else ltS y.cps.toList y'.cps.toList) else ltS x.cps.toList x'.cps.toList := by simp only [ltL]
  rw [l1] at hQ
  refine PySem.W.kat_cons (SeqAt.EqAt.str_str x t x' t' prog w _ _ ?_)
  rw [strEq_list]
  refine PySem.W.kat_go (fun e1 => ?_) (fun e1 => ?_)
  · rw [if_pos (of_decide_eq_true e1)] at hQ
    refine PySem.W.kat_yes (PySem.W.kat_cons (SeqAt.EqAt.str_str y u y' u' prog w _ _ ?_))
    rw [strEq_list]
    refine PySem.W.kat_go (fun e2 => ?_) (fun e2 => ?_)
    · rw [if_pos (of_decide_eq_true e2)] at hQ
      exact PySem.W.kat_yes (PySem.W.kat_nil hQ)
    · rw [if_neg (of_decide_eq_false e2), ltS_lt] at hQ
      exact PySem.W.kat_no (PySem.W.kat_one _ _ (PyProof.Rows.lt_str (show Q _ s from hQ)))
  · rw [if_neg (of_decide_eq_false e1), ltS_lt] at hQ
    exact PySem.W.kat_no (oneLt_str hQ)
theorem key2 {b : Addr} {x y : Str} {t u : Tok} {h : Heap} (i : h.IsTuple b #[.str x t, .str y u]) : IsTupleKey (L2.mixKind prog w) h [Sum.inr x, Sum.inr y] b := by
  obtain ⟨o, e, c, n, d⟩ := i
  exact ⟨o, _, n, e, c, d, .cons (L2.mixKind_str prog w x t) (.cons (L2.mixKind_str prog w y u) .nil)⟩
theorem lt_two {b b' : Addr} {x y x' y' : Str} {t u t' u' : Tok} {Q : Value → Shared → Prop} (hu : A.units < cLine) (i : s.heap.IsTuple b #[.str x t, .str y u]) (j : s.heap.IsTuple b' #[.str x' t', .str y' u'])
    (h : Q (.bool (if x.cps.toList = x'.cps.toList then (if y.cps.toList = y'.cps.toList then false else ltS y.cps.toList y'.cps.toList) else ltS x.cps.toList x'.cps.toList)) s) : wpAny (model prog w) A (compareOp .Lt (.ref b) (.ref b')) Q E s := by
  refine SeqAt.RcLt.tuples (e := fun j => if j = 0 then x == x' else y == y') (r := fun j => if j = 0 then ltS x.cps.toList x'.cps.toList else ltS y.cps.toList y'.cps.toList) i j hu (fun j h1 h2 => ?_) (fun j h1 h2 he => ?_) prog w E Q ?_
  · match j, h1 with
    | 0, _ => exact SeqAt.EqAt.str_str x t x' t'
    | 1, _ => exact SeqAt.EqAt.str_str y u y' u'
  · match j, h1 with
    | 0, _ =>
      intro P W E' Q' hq
      exact PyProof.Rows.lt_str (by simp only [ltS_lt] at hq; exact hq)
    | 1, _ =>
      intro P W E' Q' hq
      exact PyProof.Rows.lt_str (by simp only [ltS_lt] at hq; exact hq)
  · have e : SeqAt.firstLt (fun j => if j = 0 then x == x' else y == y') (fun j => if j = 0 then ltS x.cps.toList x'.cps.toList else ltS y.cps.toList y'.cps.toList) (decide (2 < 2)) [0, 1]
        = if x.cps.toList = x'.cps.toList then (if y.cps.toList = y'.cps.toList then false else ltS y.cps.toList y'.cps.toList) else ltS x.cps.toList x'.cps.toList := by
      simp only [SeqAt.firstLt, strEq_list]
      by_cases h1 : x.cps.toList = x'.cps.toList <;> by_cases h2 : y.cps.toList = y'.cps.toList <;> simp [h1, h2]
    rw [← e] at h
    exact h
theorem cmpN {p q : Value} {ts us : List (List Nat)} {Q : Bool → Shared → Prop} (hu : A.units < cLine) (h1 : KyN s.heap p ts) (h2 : KyN s.heap q us) (hQ : Q (ltL ts us) s) : wpAny (model prog w) A (keyLt' (tuples' false) p q) Q E s := by
  obtain ⟨a, b, x, y, z, t, u, r, rfl, ⟨o, ho, hc, n, hd⟩, hb, rfl⟩ := h1
  obtain ⟨a', b', x', y', z', t', u', r', rfl, ⟨o', ho', hc', n', hd'⟩, hb', rfl⟩ := h2
  refine PySem.W.kat_lt ho hd ho' hd' ?_
  show PySem.W.KatLex prog w A false (decide (2 < 2)) _ [(.ref b, .ref b'), (.str z r, .str z' r')] 0 s
  have l1 : ltL [x.cps.toList, y.cps.toList, z.cps.toList] [x'.cps.toList, y'.cps.toList, z'.cps.toList] = if x.cps.toList = x'.cps.toList then (if y.cps.toList = y'.cps.toList then (if z.cps.toList = z'.cps.toList then false else ltS z.cps.toList z'.cps.toList) else ltS y.cps.toList y'.cps.toList) else ltS x.cps.toList x'.cps.toList := by simp only [ltL]
  rw [l1] at hQ
  have inj : ∀ {c d : Str}, c.cps.toList = d.cps.toList → c = d := fun {c d} e => by rw [← toS_of c, ← toS_of d, e]
  refine PySem.W.kat_cons (wpAny_eqBool_tuple hu (key2 hb) (key2 hb') ?_)
  refine PySem.W.kat_go (fun e1 => ?_) (fun e1 => ?_)
  · have e := of_decide_eq_true e1
    simp only [List.cons.injEq, Sum.inr.injEq, and_true] at e
    obtain ⟨rfl, rfl⟩ := e
    rw [if_pos rfl, if_pos rfl] at hQ
    refine PySem.W.kat_yes (PySem.W.kat_cons (SeqAt.EqAt.str_str z r z' r' prog w _ _ ?_))
    rw [strEq_list]
    refine PySem.W.kat_go (fun e2 => ?_) (fun e2 => ?_)
    · rw [if_pos (of_decide_eq_true e2)] at hQ
      exact PySem.W.kat_yes (PySem.W.kat_nil hQ)
    · rw [if_neg (of_decide_eq_false e2), ltS_lt] at hQ
      exact PySem.W.kat_no (PySem.W.kat_one _ _ (PyProof.Rows.lt_str (show Q _ s from hQ)))
  · have e := of_decide_eq_false e1
    refine PySem.W.kat_no ?_
    refine PySem.W.kat_one _ _ (lt_two hu hb hb' ?_)
    show Q _ s
    by_cases c1 : x.cps.toList = x'.cps.toList
    · rw [if_pos c1] at hQ ⊢
      by_cases c2 : y.cps.toList = y'.cps.toList
      · exact absurd (by rw [inj c1, inj c2]) e
      · rw [if_neg c2] at hQ ⊢
        exact hQ
    · rw [if_neg c1] at hQ ⊢
      exact hQ
/-- the kinds that the sort finds -/
theorem firsF {h : Heap} : ∀ vs : List Value, (∀ v ∈ vs, ∃ ts, KyF h v ts) → ∃ fs : List Value, PySem.W.KatTups h vs fs ∧ fs.length = vs.length ∧ ∀ f ∈ fs, ∃ x t, f = Value.str x t
  | [], _ => ⟨[], PySem.W.KatTups.nil, rfl, fun f hf => by simp at hf⟩
  | v :: vs, hv => by
    obtain ⟨fs, k, hl, hi⟩ := firsF vs fun u hu => hv u (List.mem_cons_of_mem _ hu)
    obtain ⟨ts, a, x, y, t, u, rfl, ⟨o, ho, hc, n, hd⟩, _⟩ := hv v List.mem_cons_self
    refine ⟨.str x t :: fs, PySem.W.KatTups.cons ho hc hd rfl k, by rw [List.length_cons, List.length_cons, hl], fun f hf => ?_⟩
    rcases List.mem_cons.mp hf with rfl | hf
    · exact ⟨x, t, rfl⟩
    · exact hi f hf
theorem firsN {h : Heap} : ∀ vs : List Value, (∀ v ∈ vs, ∃ ts, KyN h v ts) → ∃ fs : List Value, PySem.W.KatTups h vs fs ∧ fs.length = vs.length ∧ ∀ f ∈ fs, ∃ b xs, f = Value.ref b ∧ h.IsTuple b xs
  | [], _ => ⟨[], PySem.W.KatTups.nil, rfl, fun f hf => by simp at hf⟩
  | v :: vs, hv => by
    obtain ⟨fs, k, hl, hi⟩ := firsN vs fun u hu => hv u (List.mem_cons_of_mem _ hu)
    obtain ⟨ts, a, b, x, y, z, t, u, r, rfl, ⟨o, ho, hc, n, hd⟩, hb, _⟩ := hv v List.mem_cons_self
    refine ⟨.ref b :: fs, PySem.W.KatTups.cons ho hc hd rfl k, by rw [List.length_cons, List.length_cons, hl], fun f hf => ?_⟩
    rcases List.mem_cons.mp hf with rfl | hf
    · exact ⟨b, _, rfl, hb⟩
    · exact hi f hf
theorem sortableF {a : Addr} {vs : List Value} {k : Value → List (List Nat)} (h0 : 0 < vs.length) (hp : ∀ v ∈ vs, KyF s.heap v (k v)) (ha : ∀ o, s.heap.get? a = some o → o.cls ≠ .type "tuple") : SrtO.SortableO prog w A s a vs fun v u => ltL (k v) (k u) := by
  intro h' keep
  have kp : Kps s.heap h' := fun b o e c => keep b o (fun z => by subst z; exact ha o e c) e
  have hp' : ∀ v ∈ vs, KyF h' v (k v) := fun v hm => (hp v hm).keeps kp
  obtain ⟨fs, h1, h2, h3⟩ := firsF vs fun v hm => ⟨_, hp' v hm⟩
  refine ⟨tuples' true, fun Q E hq => ?_, fun p q hm hm' => cmpF (hp' _ hm) (hp' _ hm') ⟨rfl, rfl⟩⟩
  refine PySem.W.kat_kind (T := .type "str") h1 (by omega) (fun f hm => ?_) (by rfl) ?_
  · obtain ⟨x, t, rfl⟩ := h3 f hm
    exact PySem.W.Looks.now
  · have e : (Value.type "str" != Value.type "tuple") = true := by first | decide +kernel | rfl
    rw [e]
    exact hq
theorem sortableN {a : Addr} {vs : List Value} {k : Value → List (List Nat)} (hu : A.units < cLine) (h0 : 0 < vs.length) (hp : ∀ v ∈ vs, KyN s.heap v (k v)) (ha : ∀ o, s.heap.get? a = some o → o.cls ≠ .type "tuple") : SrtO.SortableO prog w A s a vs fun v u => ltL (k v) (k u) := by
  intro h' keep
  have kp : Kps s.heap h' := fun b o e c => keep b o (fun z => by subst z; exact ha o e c) e
  have hp' : ∀ v ∈ vs, KyN h' v (k v) := fun v hm => (hp v hm).keeps kp
  obtain ⟨fs, h1, h2, h3⟩ := firsN vs fun v hm => ⟨_, hp' v hm⟩
  refine ⟨tuples' false, fun Q E hq => ?_, fun p q hm hm' => cmpN hu (hp' _ hm) (hp' _ hm') ⟨rfl, rfl⟩⟩
  refine PySem.W.kat_kind (T := .type "tuple") h1 (by omega) (fun f hm => ?_) (by rfl) ?_
  · obtain ⟨b, xs, rfl, o, ho, hc, _⟩ := h3 f hm
    have z : PySem.W.Looks (model prog w) h' (typeOf (.ref b)) o.cls := (PySem.W.Looks.ld ho).andThen .now
    rw [hc] at z
    exact z
  · have e : (Value.type "tuple" != Value.type "tuple") = false := by first | decide +kernel | rfl
    rw [e]
    exact hq
end
end Mk
end
section
set_option Elab.async false
set_option linter.all false
set_option maxRecDepth 100000
set_option maxHeartbeats 4000000
namespace Mk
open PySem PySem.Spec PyProof.Rows L2

/-- a pair of texts at x, or (n) a pair of such a pair and a text -/
def Kv (K : PySem.W.Frag) (H : Hp) (x : V) (ts : List (List Nat)) : Bool → Prop
  | false => ∃ t a b, x = .ref t ∧ SqT K H t [.str a, .str b] ∧ ts = [a.cps.toList, b.cps.toList]
  | true => ∃ t q a b c, x = .ref t ∧ SqT K H t [.ref q, .str c] ∧ SqT K H q [.str a, .str b] ∧ ts = [a.cps.toList, b.cps.toList, c.cps.toList]
theorem Kv.ref {K : PySem.W.Frag} {H : Hp} {x : V} {ts : List (List Nat)} {n : Bool} (h : Kv K H x ts n) : ∃ t, x = .ref t := by
  cases n with
  | false => obtain ⟨t, _, _, e, _⟩ := h; exact ⟨t, e⟩
  | true => obtain ⟨t, _, _, _, _, e, _⟩ := h; exact ⟨t, e⟩
def Ky (h : Heap) (v : Value) (ts : List (List Nat)) : Bool → Prop
  | false => KyF h v ts
  | true => KyN h v ts
theorem Kv.raw {X : Cx} {pins : List (Addr × Obj)} {σ : L2.St} {H : Hp} {s : Shared} {t : Addr} {ts : List (List Nat)} {n : Bool} (I : Inv X pins σ H s) (h : Kv X.K H (.ref t) ts n) : Ky s.heap (.ref t) ts n := by
  cases n with
  | false =>
    obtain ⟨t', a, b, e, sq, r⟩ := h
    cases e
    obtain ⟨its, rv, hT, _⟩ := I.tuple sq
    obtain ⟨u1, u2, rfl, r1, r2⟩ := vals2 rv
    obtain ⟨t1, rfl⟩ := r1
    obtain ⟨t2, rfl⟩ := r2
    exact ⟨t, a, b, t1, t2, rfl, hT, r⟩
  | true =>
    obtain ⟨t', q, a, b, c, e, sq, sq', r⟩ := h
    cases e
    obtain ⟨its, rv, hT, _⟩ := I.tuple sq
    obtain ⟨u1, u2, rfl, r1, r2⟩ := vals2 rv
    obtain rfl : u1 = Value.ref q := r1
    obtain ⟨t2, rfl⟩ := r2
    obtain ⟨its', rv', hT', _⟩ := I.tuple sq'
    obtain ⟨w1, w2, rfl, r3, r4⟩ := vals2 rv'
    obtain ⟨t3, rfl⟩ := r3
    obtain ⟨t4, rfl⟩ := r4
    exact ⟨t, q, a, b, c, t3, t4, t2, rfl, hT, hT', r⟩
theorem Ky.sortable {prog : Program} {w : World} {A : Around} {s : Shared} {a : Addr} {vs : List Value} {k : Value → List (List Nat)} {n : Bool} (hu : A.units < cLine) (h0 : 0 < vs.length) (hp : ∀ v ∈ vs, Ky s.heap v (k v) n) (ha : ∀ o, s.heap.get? a = some o → o.cls ≠ .type "tuple") :
    SrtO.SortableO prog w A s a vs fun v u => ltL (k v) (k u) := by
  cases n with
  | false => exact sortableF h0 hp ha
  | true => exact sortableN hu h0 hp ha
theorem Ky.keeps {h h' : Heap} (k : Kps h h') {v : Value} {ts : List (List Nat)} {n : Bool} (x : Ky h v ts n) : Ky h' v ts n := by
  cases n with
  | false => exact KyF.keeps k x
  | true => exact KyN.keeps k x
def rSortK (K : PySem.W.Frag) (n : Bool) : List V → Hp → VK → Prop := fun vs H Q => ∃ (a : Addr) (xs : List V) (k : V → List (List Nat)), vs = [V.ref a] ∧ SqL K H a xs ∧ (∀ x ∈ xs, Kv K H x (k x) n) ∧
  ∀ ys p, SrtO.Srtd (fun x y => ltL (k x) (k y)) ys → ys.Perm xs → H p = none → Q (.ref p) (upd H p (.lst ys))
theorem cr_sortK {X : Cx} (hu : X.A.units + 65 < cLine) (n : Bool) : CallR X (.builtin "sorted") (rSortK X.K n) := by
  intro pins s σ H vs us Q I r h
  obtain ⟨a, xs, k, rfl, hs, hx, q⟩ := h
  obtain ⟨its, rv, hl, hz⟩ := I.list hs
  rw [Vals.ref1 r]
  obtain ⟨e1, e2⟩ := refs_back rv fun x m => (hx x m).ref
  have ky : ∀ v ∈ its, Ky s.heap v (k (backV v)) n := fun v hv => by
    obtain ⟨t, rfl⟩ := e2 v hv
    exact (hx _ (by rw [e1]; exact List.mem_map.mpr ⟨_, hv, rfl⟩)).raw I
  refine SrtO.sorted_ord (ltv := fun v u => ltL (k (backV v)) (k (backV u))) (swoL _) hl.isList (by rw [← rv.length]; exact hz) (fun h2 h₁ b hb kk => ?_) fun out hs hb => ?_
  · refine Ky.sortable (n := n) (s := { s with heap := h₁ }) (by show X.A.units + 1 + 1 < cLine; omega) (by omega) (fun v hm => (ky v hm).keeps fun c o e _ => (kk c o e).2) fun o e => ?_
    have e' : some o = some (seqObj "list" its.toArray 0) := e.symm.trans hb
    cases e'
    exact fun c => absurd (Value.type.inj c) (by decide)
  · have h3 : ∀ u ∈ out, ∃ a, u = Value.ref a := fun u hu => e2 u (hb.perm.mem_iff.mp hu)
    obtain ⟨m, hm⟩ := sortedAll_at s.heap its out.toArray
    have hp : (out.map backV).Perm xs := by
      rw [e1]
      exact hb.perm.map backV
    refine ⟨.ref _, upd H (s.heap.objs.size + 1) (.lst (out.map backV)), I.laid (t' := s.toks) (fun _ _ e => sortedAll_old e) (Nat.le_succ _) ⟨by rw [hp.length_eq]; exact hz, out, m, vals_back h3, hm⟩, rfl, q _ _ (SrtO.srtd_map hs) hp (I.hok.fresh (Nat.le_succ _))⟩
end Mk
end
section
set_option Elab.async false
set_option linter.all false
set_option maxRecDepth 100000
set_option maxHeartbeats 4000000
namespace Mk
open PySem PySem.Spec PyProof.Rows L2

theorem KyF.uniq {h : Heap} {v : Value} {ts us : List (List Nat)} (x : KyF h v ts) (y : KyF h v us) : ts = us := by
  obtain ⟨a, x, y, t, u, rfl, ⟨o, ho, _, n, hd⟩, rfl⟩ := x
  obtain ⟨a', x', y', t', u', e, ⟨o', ho', _, n', hd'⟩, rfl⟩ := y
  cases e
  rw [ho] at ho'
  cases ho'
  rw [hd] at hd'
  cases hd'
  rfl
open Classical in
noncomputable def keyAt (h : Heap) (v : Value) : List (List Nat) := if e : ∃ ts, KyF h v ts then e.choose else []
theorem keyAt_of {h : Heap} {v : Value} {ts : List (List Nat)} (x : KyF h v ts) : keyAt h v = ts := by
  unfold keyAt
  have e : ∃ ts, KyF h v ts := ⟨ts, x⟩
  rw [dif_pos e]
  exact KyF.uniq e.choose_spec x
abbrev rowK (q : Str × Str) : Key × V := (Sum.inr q.1, V.str q.2)
abbrev rowT (q : Str × Str) : List (List Nat) := [q.1.cps.toList, q.2.cps.toList]
theorem kv_row {rows : List (Str × Str)} {vs : List (Key × Value)} (r : KV (rows.map rowK) vs) {j : Nat} {p : Key × Value} (h : vs[j]? = some p) : ∃ q u, rows[j]? = some q ∧ p = (Sum.inr q.1, Value.str q.2 u) := by
  obtain ⟨y, h1, h2, h3⟩ := DX.pget r h
  rw [List.getElem?_map] at h1
  cases e : rows[j]? with
  | none => rw [e] at h1; cases h1
  | some q =>
    rw [e] at h1
    cases h1
    obtain ⟨u, h3⟩ := h3
    obtain ⟨p1, p2⟩ := p
    refine ⟨q, u, rfl, ?_⟩
    simp only at h2 h3
    rw [h3, ← h2]
theorem ents_at {P : Program} {w : World} : ∀ {es : List DictEntry} {kvs : List (Key × Value)} {j : Nat} {e : DictEntry}, Pairs (mixKind P w) es kvs → es[j]? = some e → ∃ p, kvs[j]? = some p ∧ keyIs p.1 e.key = true ∧ e.val = p.2
  | _, _, _, _, .nil, h => by simp at h
  | _, _, 0, _, .cons (kv := q) h1 h2 _, h => by
    simp at h; subst h
    exact ⟨q, rfl, h1, h2⟩
  | _, _, j + 1, _, .cons _ _ r, h => by
    obtain ⟨p, h1, h2⟩ := ents_at r (by simpa using h)
    exact ⟨p, by simpa using h1, h2⟩
theorem ents_len {P : Program} {w : World} : ∀ {es : List DictEntry} {kvs : List (Key × Value)}, Pairs (mixKind P w) es kvs → es.length = kvs.length
  | _, _, .nil => rfl
  | _, _, .cons _ _ r => by simp [ents_len r]

/-- new tuples, one by one, each with its object -/
theorem takeZ {X : Cx} {pins : List (Addr × Obj)} {σ : L2.St} {H0 : Hp} {s : Shared} {h' : Heap} {tk : Nat} {R : Addr → Obj → List V → Prop} (I0 : Inv X pins σ H0 s) : ∀ (as : List Addr) (H1 : Hp), Inv X pins σ H1 { s with heap := h', toks := tk } → as.Nodup →
    (∀ c ∈ as, s.heap.objs.size ≤ c ∧ H1 c = none ∧ ∃ ob vs, R c ob vs ∧ h'.get? c = some ob ∧ ∀ G, ObjOk X.prog X.w G h' c (.tup vs)) →
    ∃ G, Inv X pins σ G { s with heap := h', toks := tk } ∧ (∀ b o, H1 b = some o → G b = some o) ∧ ∀ c ∈ as, ∃ ob vs, R c ob vs ∧ G c = some (.frz ob (.tup vs)) := by
  intro as
  induction as with
  | nil => exact fun H1 I1 _ _ => ⟨H1, I1, fun _ _ e => e, fun _ h => by cases h⟩
  | cons c as ih =>
    intro H1 I1 nd h
    obtain ⟨n1, n2⟩ := List.nodup_cons.mp nd
    obtain ⟨c1, c2, ob, vs, c3, c4, c5⟩ := h c List.mem_cons_self
    have J : Inv X pins σ (upd H1 c (.frz ob (.tup vs))) { s with heap := h', toks := tk } := I1.take (h' := h') (t' := tk) (fun _ _ _ e => e) (I0.fpOk c1 c2) ⟨c4, c5 _⟩
    obtain ⟨G, J2, up, all⟩ := ih _ J n2 fun e he => by
      obtain ⟨e1, e2, e3⟩ := h e (List.mem_cons_of_mem _ he)
      refine ⟨e1, ?_, e3⟩
      rw [upd_ne (fun z : e = c => n1 (by rw [← z]; exact he))]
      exact e2
    refine ⟨G, J2, fun b o e => up b o ?_, fun e he => ?_⟩
    · rw [upd_ne (ne_of_none e c2)]; exact e
    · rcases List.mem_cons.mp he with z | he
      · rw [z]; exact ⟨ob, vs, c3, up _ _ upd_same⟩
      · exact all e he
/-- sorted of the view of a dict of texts -/
theorem sort_items {X : Cx} {pins : List (Addr × Obj)} {σ : L2.St} {H : Hp} {s : Shared} {p a : Addr} {rows : List (Str × Str)} {Q : VK} (hc : X.calm = true) (hu : X.A.units + 65 < cLine) (I : Inv X pins σ H s)
    (view : s.heap.IsItemsView p a) (hd : Rd H a (.dK (rows.map rowK)))
    (q : ∀ (H' : Hp) (l : Addr) (ps : List (Addr × Str × Str)), (∀ b o, H b = some o → H' b = some o) → H l = none → (∀ z ∈ ps, H z.1 = none ∧ z.1 ≠ l) → (ps.map fun z => rowT z.2).Perm (rows.map rowT) → AscL (ps.map fun z => rowT z.2) →
      H' l = some (.lst (ps.map fun z => V.ref z.1)) → (∀ z ∈ ps, ∃ ob : Obj, H' z.1 = some (.frz ob (.tup [.str z.2.1, .str z.2.2])) ∧ ob.dict = none) → Q (.ref l) H') :
    wpAny (model X.prog X.w) X.A (call (.builtin "sorted") [.ref p]) (EP X pins σ Q) X.xe s := by
  obtain ⟨hz, hsys, vs, rel, o, es, ep, ho, hx, hdat, _, hpr, hnd⟩ := dk_rd I.hok hd
  have l1 : es.size = rows.length := by
    have e1 := ents_len hpr
    have e2 := Paired.length rel
    rw [Array.length_toList] at e1
    rw [List.length_map] at e2
    omega
  rw [List.length_map] at hz
  refine DT.sortedI (es := es) (ep := ep) (I.ok.hd hc) view ⟨o, ho, hx, hdat⟩ (by rw [l1]; exact hz) fun h' tk as hk hlt hl hG => ?_
  have lak : as.length = rows.length := by omega
  have nd : as.Nodup := List.Pairwise.imp (fun h => Nat.ne_of_lt h) hG.rise
  have pr : ∀ (j : Nat) (b : Addr), as[j]? = some b → ∃ (r : Str × Str) (t u : Tok), rows[j]? = some r ∧ h'.get? b = some { cls := .type "tuple", data := .seq #[Value.str r.1 t, Value.str r.2 u] } := by
    intro j b hj
    obtain ⟨en, he, hg⟩ := hG.pairs j b hj
    obtain ⟨w, h1, h2, h3⟩ := ents_at hpr (by rw [Array.getElem?_toList]; exact he)
    obtain ⟨r, u, h4, rfl⟩ := kv_row rel h1
    obtain ⟨t, ht⟩ := (relV_key h2 : RelV (kV (Sum.inr r.1)) en.key)
    exact ⟨r, t, u, h4, by rw [hg, ht, h3]⟩
  have hob : (h'.push { cls := .type "list", data := .seq (as.map Value.ref).toArray }).get? h'.objs.size = some (seqObj "list" (as.map Value.ref).toArray 0) := Heap.get?_push_size _ rfl
  have ka : ∀ b o, h'.get? b = some o → (h'.push { cls := .type "list", data := .seq (as.map Value.ref).toArray }).get? b = some o := fun b o e => Heap.get?_push_of_some _ e
  have ne0 : ∀ b o, h'.get? b = some o → b ≠ h'.objs.size := fun b o e => Nat.ne_of_lt (Heap.lt_size e)
  generalize hh2 : h'.push { cls := .type "list", data := .seq (as.map Value.ref).toArray } = h2 at hob ka ⊢
  have ky : ∀ (j : Nat) (b : Addr), as[j]? = some b → ∃ r, rows[j]? = some r ∧ KyF h2 (.ref b) (rowT r) := fun j b hj => by
    obtain ⟨r, t, u, h1, h2⟩ := pr j b hj
    exact ⟨r, h1, b, r.1, r.2, t, u, rfl, ⟨_, ka _ _ h2, rfl, 0, rfl⟩, rfl⟩
  have kyv : ∀ v ∈ as.map Value.ref, ∃ j b r, v = .ref b ∧ as[j]? = some b ∧ rows[j]? = some r ∧ KyF h2 v (rowT r) := fun v hv => by
    obtain ⟨b, hb, rfl⟩ := List.mem_map.mp hv
    obtain ⟨j, hj⟩ := List.mem_iff_getElem?.mp hb
    obtain ⟨r, h1, h2⟩ := ky j b hj
    exact ⟨j, b, r, rfl, hj, h1, h2⟩
  refine wpAny_call_entry slot_list_sort ⟨_, hob, rfl⟩ entry_list_sort
    (SrtO.list_sort_ord (s := { s with heap := h2, toks := tk }) (ltv := fun v u => ltL (keyAt h2 v) (keyAt h2 u)) (swoL _) hob (by rw [List.length_map, lak]; exact hz) (fun hn => ?_) fun out hs hb => ⟨.none, rfl, ?_⟩) (args_list_sort _)
  · refine Ky.sortable (n := false) (s := { s with heap := h2, toks := tk }) (by show X.A.units + 1 + 1 < cLine; omega) (by omega) (fun v hv => ?_) fun o e => ?_
    · obtain ⟨j, b, r, _, _, _, k⟩ := kyv v hv
      show KyF h2 v (keyAt h2 v)
      rw [keyAt_of k]
      exact k
    · have e' : some o = some (seqObj "list" (as.map Value.ref).toArray 0) := e.symm.trans hob
      cases e'
      exact fun c => absurd (Value.type.inj c) (by decide)
  · have at2 : ∀ v ∈ out, ∃ j b r, v = .ref b ∧ as[j]? = some b ∧ rows[j]? = some r ∧ KyF h2 v (rowT r) := fun v hv => kyv v (hb.perm.mem_iff.mp hv)
    obtain ⟨zs, pz, ez⟩ := perm_lift (fun z : Addr × Str × Str => Value.ref z.1) hb.perm (as.zip rows) (by
      have e : (as.zip rows).map (·.1) = as := List.map_fst_zip (by omega)
      have e2 : (as.zip rows).map (fun z : Addr × Str × Str => Value.ref z.1) = ((as.zip rows).map (·.1)).map Value.ref := by rw [List.map_map]; rfl
      rw [e2, e])
    have idx : ∀ z ∈ zs, ∃ j : Nat, as[j]? = some z.1 ∧ rows[j]? = some z.2 := by
      intro z' hz'
      obtain ⟨j, hj⟩ := List.mem_iff_getElem?.mp (pz.mem_iff.mp hz')
      exact ⟨j, List.getElem?_zip_eq_some.mp hj⟩
    have kz : ∀ z ∈ zs, keyAt h2 (.ref z.1) = rowT z.2 := fun z hz' => by
      obtain ⟨j, j1, j2⟩ := idx z hz'
      obtain ⟨r, r1, r2⟩ := ky j _ j1
      rw [keyAt_of r2]
      rw [j2] at r1
      rw [Option.some.inj r1]
    have hperm : (zs.map fun z => rowT z.2).Perm (rows.map rowT) := by
      have e := pz.map (fun z : Addr × Str × Str => rowT z.2)
      have m2 : (as.zip rows).map (·.2) = rows := List.map_snd_zip (by omega)
      have m3 : (as.zip rows).map (fun z : Addr × Str × Str => rowT z.2) = ((as.zip rows).map (·.2)).map rowT := by rw [List.map_map]; rfl
      rw [m3, m2] at e
      exact e
    have hsort : AscL (zs.map fun z => rowT z.2) := by
      have h1 : SrtO.Srtd (fun v u => ltL (keyAt h2 v) (keyAt h2 u)) (zs.map fun z : Addr × Str × Str => Value.ref z.1) := by rw [ez]; exact hs
      rw [SrtO.Srtd, List.pairwise_map] at h1
      rw [AscL, List.pairwise_map]
      refine List.Pairwise.imp_of_mem (fun {x y} hx hy h => ?_) h1
      rw [kz x hx, kz y hy] at h
      exact h
    have kF : ∀ b o, b ≠ h'.objs.size → h2.get? b = some o → (sortedHeap h2 h'.objs.size (as.map Value.ref) out.toArray).get? b = some o := fun b o hb e => (sortedHeap_old hb (Heap.lt_size e)).trans e
    have kS : ∀ b o, s.heap.get? b = some o → (sortedHeap h2 h'.objs.size (as.map Value.ref) out.toArray).get? b = some o := fun b o e => kF b o (ne0 _ _ (hk b o e)) (ka _ _ (hk b o e))
    obtain ⟨eF, heF⟩ := sortedHeap_at (vs := as.map Value.ref) (out := out.toArray) hob
    have I1 : Inv X pins σ H { s with heap := sortedHeap h2 h'.objs.size (as.map Value.ref) out.toArray, toks := tk } := I.kept (t' := tk) kS
    have hn0 : H h'.objs.size = none := I.hok.fresh (Nat.le_of_lt hlt)
    have hlen : (zs.map fun z => V.ref z.1).length ≤ sizeLine := by
      have e := hperm.length_eq
      rw [List.length_map, List.length_map] at e
      rw [List.length_map, e]
      exact hz
    have rv : Vals (zs.map fun z => V.ref z.1) out.toArray.toList := by
      show Vals (zs.map fun z => V.ref z.1) out
      rw [← ez]
      exact vals_maps (fun z : Addr × Str × Str => V.ref z.1) (fun z => Value.ref z.1) zs fun _ _ => rfl
    have I2 : Inv X pins σ (upd H h'.objs.size (.lst (zs.map fun z => V.ref z.1))) { s with heap := sortedHeap h2 h'.objs.size (as.map Value.ref) out.toArray, toks := tk } :=
      I1.take (h' := sortedHeap h2 h'.objs.size (as.map Value.ref) out.toArray) (t' := tk) (fun b ob _ e => e) (I.fpOk (Nat.le_of_lt hlt) hn0) ⟨hlen, out.toArray.toList, eF, rv, heF⟩
    obtain ⟨H2, I3, g, qt⟩ := takeZ (R := fun b ob vs => ob.dict = none ∧ ∃ (j : Nat) (r : Str × Str), as[j]? = some b ∧ rows[j]? = some r ∧ vs = [.str r.1, .str r.2]) I as _ I2 nd fun b hb' => by
      obtain ⟨j, hj⟩ := List.mem_iff_getElem?.mp hb'
      obtain ⟨r, t, u, h1, hg⟩ := pr j b hj
      have hbl : s.heap.objs.size ≤ b := Nat.le_of_lt (hG.above b hb')
      refine ⟨hbl, ?_, _, [.str r.1, .str r.2], ⟨rfl, j, r, hj, h1, rfl⟩, kF _ _ (ne0 _ _ hg) (ka _ _ hg), fun H3 => ⟨(by rw [sizeLine_eq]; show 2 ≤ 16777216; omega), [Value.str r.1 t, Value.str r.2 u], .cons ⟨t, rfl⟩ (.cons ⟨u, rfl⟩ .nil), ⟨_, kF _ _ (ne0 _ _ hg) (ka _ _ hg), rfl, 0, rfl⟩⟩⟩
      rw [upd_ne (ne0 _ _ hg)]
      exact I.hok.fresh hbl
    refine ⟨.ref h'.objs.size, H2, I3, rfl, q H2 h'.objs.size zs (fun b o e => g b o (by rw [upd_ne (ne_of_none e hn0)]; exact e)) hn0 (fun z' hz' => ?_) hperm hsort (g _ _ upd_same) fun z' hz' => ?_⟩
    · obtain ⟨i, i1, i2⟩ := idx z' hz'
      obtain ⟨r, t, u, _, hg⟩ := pr i _ i1
      exact ⟨I.hok.fresh (Nat.le_of_lt (hG.above _ (List.mem_of_getElem? i1))), ne0 _ _ hg⟩
    · obtain ⟨i, i1, i2⟩ := idx z' hz'
      obtain ⟨ob, ws, ⟨hob2, j, r, j1, j2, ev⟩, hH⟩ := qt z'.1 (List.mem_of_getElem? i1)
      have eij : i = j := (List.getElem?_inj (List.getElem?_eq_some_iff.mp i1).1 nd).mp (i1.trans j1.symm)
      subst eij
      have ee : r = z'.2 := Option.some.inj (j2.symm.trans i2)
      rw [ev, ee] at hH
      exact ⟨ob, hH, hob2⟩
end Mk
end
section
set_option Elab.async false
set_option linter.all false
set_option maxRecDepth 100000
set_option maxHeartbeats 4000000
namespace Mk
open PySem PySem.Spec PyProof.Rows L2

theorem putK_look {K : PySem.W.Frag} {Z : Hp} {key : List Nat} : ∀ {vs : List D} {kvs : List (Key × V)} {ks : List (List Nat)}, RepK K Z kvs ks vs → (kvs.any fun kv => decide (kv.1 = .inr (toS key))) = (look key ks vs).isSome
  | [], _, _, h => by cases h; rfl
  | _ :: _, _, _, h => by
    cases h with
    | cons a b c e =>
      rename_i k _ _ _
      have ih := putK_look (key := key) e
      rw [List.any_cons, look]
      by_cases h : k = key
      · subst h; simp
      · have h2 : ¬ (Sum.inr (toS k) : Key) = .inr (toS key) := fun z => h (toS_inj (Sum.inr.inj z))
        rw [if_neg h, decide_eq_false h2, Bool.false_or, ih]
theorem putK_in {K : PySem.W.Frag} {Z : Hp} {key : List Nat} {v : V} {d : D} (rv : Rep K Z v d) : ∀ {vs : List D} {kvs : List (Key × V)} {ks : List (List Nat)}, RepK K Z kvs ks vs → RepK K Z (kvs.map fun kv => if kv.1 = (.inr (toS key) : Key) then (kv.1, v) else kv) ks (putD key d ks vs)
  | [], _, _, h => by cases h; exact .nil
  | _ :: _, _, _, h => by
    cases h with
    | cons a b c e =>
      rename_i k _ _ _
      rw [List.map_cons, putD]
      by_cases h : k = key
      · subst h
        rw [if_pos rfl, if_pos rfl]
        exact .cons a b rv (putK_in rv e)
      · have h2 : ¬ (Sum.inr (toS k) : Key) = .inr (toS key) := fun z => h (toS_inj (Sum.inr.inj z))
        rw [if_neg h2, if_neg h]
        exact .cons a b c (putK_in rv e)
theorem RepK.append {K : PySem.W.Frag} {Z : Hp} {k : List Nat} {v : V} {d : D} (hl : k.length < LIM) (ho : okS k = true) (rv : Rep K Z v d) : ∀ {vs : List D} {kvs : List (Key × V)} {ks : List (List Nat)}, RepK K Z kvs ks vs → RepK K Z (kvs ++ [(.inr (toS k), v)]) (ks ++ [k]) (vs ++ [d])
  | [], _, _, h => by cases h; exact .cons hl ho rv .nil
  | _ :: _, _, _, h => by
    cases h with
    | cons a b c e => exact .cons a b c (RepK.append hl ho rv e)

def keyB : Bool → D → Option (List (List Nat))
  | false => keyF
  | true => keyN
def unB : Bool → List (List Nat) → D
  | false => unF
  | true => unN
abbrev okT (x : List Nat) : Prop := x.length < LIM ∧ okS x = true
/-- a tuple that has no dict of its own -/
abbrev TpZ (Z : Hp) (t : Addr) (xs : List V) : Prop := ∃ o, Z t = some (.frz o (.tup xs)) ∧ o.dict = none
theorem TpZ.inj {Z : Hp} {t : Addr} {xs ys : List V} (h : TpZ Z t xs) (h' : TpZ Z t ys) : xs = ys := by
  obtain ⟨o, a, _⟩ := h
  obtain ⟨o', b, _⟩ := h'
  rw [a] at b
  simp only [Option.some.injEq, HO.frz.injEq, HO.tup.injEq] at b
  exact b.2
/-- the row of texts at v -/
def PF (Z : Hp) (v : V) (k : List (List Nat)) : Bool → Prop
  | false => ∃ t a b, v = .ref t ∧ TpZ Z t [.str (toS a), .str (toS b)] ∧ k = [a, b] ∧ okT a ∧ okT b
  | true => ∃ t q a b c, v = .ref t ∧ TpZ Z t [.ref q, .str (toS c)] ∧ TpZ Z q [.str (toS a), .str (toS b)] ∧ k = [a, b, c] ∧ okT a ∧ okT b ∧ okT c
theorem PF.uniq {Z : Hp} {v : V} {k k' : List (List Nat)} {n : Bool} (h : PF Z v k n) (h' : PF Z v k' n) : k = k' := by
  cases n with
  | false =>
    obtain ⟨t, a, b, rfl, z, rfl, _⟩ := h
    obtain ⟨t', a', b', e, z', rfl, _⟩ := h'
    cases e
    have z' := z.inj z'
    simp only [List.cons.injEq, V.str.injEq, and_true] at z'
    rw [toS_inj z'.1, toS_inj z'.2]
  | true =>
    obtain ⟨t, q, a, b, c, rfl, z, y, rfl, _⟩ := h
    obtain ⟨t', q', a', b', c', e, z', y', rfl, _⟩ := h'
    cases e
    have z' := z.inj z'
    simp only [List.cons.injEq, V.str.injEq, V.ref.injEq, and_true] at z'
    obtain ⟨rfl, zc⟩ := z'
    have y' := y.inj y'
    simp only [List.cons.injEq, V.str.injEq, and_true] at y'
    rw [toS_inj y'.1, toS_inj y'.2, toS_inj zc]
theorem PF.rep {K : PySem.W.Frag} {Z : Hp} {v : V} {k : List (List Nat)} {n : Bool} (h : PF Z v k n) : Rep K Z v (unB n k) := by
  cases n with
  | false =>
    obtain ⟨t, a, b, rfl, ⟨_, z, zd⟩, rfl, ha, hb⟩ := h
    exact .tup z zd (show 2 ≤ LIM by decide) (.cons (.str ha.1 ha.2) (.cons (.str hb.1 hb.2) .nil))
  | true =>
    obtain ⟨t, q, a, b, c, rfl, ⟨_, z, zd⟩, ⟨_, y, yd⟩, rfl, ha, hb, hc⟩ := h
    exact .tup z zd (show 2 ≤ LIM by decide) (.cons (.tup y yd (show 2 ≤ LIM by decide) (.cons (.str ha.1 ha.2) (.cons (.str hb.1 hb.2) .nil))) (.cons (.str hc.1 hc.2) .nil))
theorem PF.kv {T : List (Addr × Str)} {K : PySem.W.Frag} {Z H : Hp} {v : V} {k : List (List Nat)} {n : Bool} (g : Good T Z H) (h : PF Z v k n) : Kv K H v k n := by
  cases n with
  | false =>
    obtain ⟨t, a, b, rfl, ⟨_, z, zd⟩, rfl, ha, hb⟩ := h
    exact ⟨t, toS a, toS b, rfl, .inl (.inr ⟨_, g.sub _ _ z⟩), by rw [toS_list, toS_list]⟩
  | true =>
    obtain ⟨t, q, a, b, c, rfl, ⟨_, z, zd⟩, ⟨_, y, yd⟩, rfl, ha, hb, hc⟩ := h
    exact ⟨t, q, toS a, toS b, toS c, rfl, .inl (.inr ⟨_, g.sub _ _ z⟩), .inl (.inr ⟨_, g.sub _ _ y⟩), by rw [toS_list, toS_list, toS_list]⟩
theorem keyF_some {d : D} {k : List (List Nat)} (h : keyF d = some k) : ∃ a b, d = .tup [.str a, .str b] ∧ k = [a, b] := by
  unfold keyF at h
  split at h
  · cases h; exact ⟨_, _, rfl, rfl⟩
  · cases h
theorem keyN_some {d : D} {k : List (List Nat)} (h : keyN d = some k) : ∃ a b c, d = .tup [.tup [.str a, .str b], .str c] ∧ k = [a, b, c] := by
  unfold keyN at h
  split at h
  · cases h; exact ⟨_, _, _, rfl, rfl⟩
  · cases h
theorem rep2 {K : PySem.W.Frag} {Z : Hp} {v : V} {a b : List Nat} (r : Rep K Z v (.tup [.str a, .str b])) : ∃ t, v = .ref t ∧ TpZ Z t [.str (toS a), .str (toS b)] ∧ okT a ∧ okT b := by
  cases r with
  | tup z zd _ l =>
    cases l with
    | cons r1 l =>
      cases l with
      | cons r2 l =>
        cases l
        cases r1 with
        | str a1 a2 => cases r2 with
          | str b1 b2 => exact ⟨_, rfl, ⟨_, z, zd⟩, ⟨a1, a2⟩, ⟨b1, b2⟩⟩
theorem pf_of {K : PySem.W.Frag} {Z : Hp} {v : V} {d : D} {k : List (List Nat)} {n : Bool} (r : Rep K Z v d) (h : keyB n d = some k) : PF Z v k n := by
  cases n with
  | false =>
    obtain ⟨a, b, rfl, rfl⟩ := keyF_some h
    obtain ⟨t, rfl, z, ha, hb⟩ := rep2 r
    exact ⟨t, a, b, rfl, z, rfl, ha, hb⟩
  | true =>
    obtain ⟨a, b, c, rfl, rfl⟩ := keyN_some h
    cases r with
    | tup z zd _ l =>
      cases l with
      | cons r1 l =>
        cases l with
        | cons r2 l =>
          cases l
          obtain ⟨q, rfl, y, ha, hb⟩ := rep2 r1
          cases r2 with
          | str c1 c2 => exact ⟨_, q, a, b, c, rfl, ⟨_, z, zd⟩, y, rfl, ha, hb, ⟨c1, c2⟩⟩
theorem pf_all {K : PySem.W.Frag} {Z : Hp} {n : Bool} : ∀ {ds : List D} {vs : List V} {ks : List (List (List Nat))}, RepL K Z vs ds → keysBy (keyB n) ds = some ks → Paired (fun v k => PF Z v k n) vs ks
  | [], _, _, h, e => by cases h; cases e; exact .nil
  | d :: ds, _, ks, h, e => by
    cases h with
    | cons a b =>
      rw [keysBy] at e
      split at e
      · rename_i k ks' h1 h2
        cases e
        exact .cons (pf_of a h1) (pf_all b h2)
      · cases e
open Classical in
noncomputable def kyOf (Z : Hp) (n : Bool) (v : V) : List (List Nat) := if e : ∃ k, PF Z v k n then e.choose else []
theorem kyOf_eq {Z : Hp} {n : Bool} {v : V} {k : List (List Nat)} (h : PF Z v k n) : kyOf Z n v = k := by
  unfold kyOf
  have e : ∃ k, PF Z v k n := ⟨k, h⟩
  rw [dif_pos e]
  exact PF.uniq e.choose_spec h
theorem kyOf_all {Z : Hp} {n : Bool} : ∀ {vs : List V} {ks : List (List (List Nat))}, Paired (fun v k => PF Z v k n) vs ks → vs.map (kyOf Z n) = ks ∧ ∀ v ∈ vs, PF Z v (kyOf Z n v) n
  | _, _, .nil => ⟨rfl, fun _ h => by cases h⟩
  | _, _, .cons (a := v) h t => by
    obtain ⟨e, q⟩ := kyOf_all t
    have e1 := kyOf_eq h
    refine ⟨by rw [List.map_cons, e1, e], fun u hu => ?_⟩
    rcases List.mem_cons.mp hu with z | hu
    · rw [z, e1]; exact h
    · exact q u hu
theorem repL_pf {K : PySem.W.Frag} {Z : Hp} {n : Bool} : ∀ {vs : List V}, (∀ v ∈ vs, PF Z v (kyOf Z n v) n) → RepL K Z vs ((vs.map (kyOf Z n)).map (unB n))
  | [], _ => .nil
  | v :: vs, h => .cons (h v List.mem_cons_self).rep (repL_pf fun u hu => h u (List.mem_cons_of_mem _ hu))
/-- sorted of a list of rows -/
theorem sort_rows {X : Cx} {L : Law} {pins : List (Addr × Obj)} {s : Shared} {σ : L2.St} {H Z : Hp} {a : Addr} {vs : List V} {us : List Value} {ds : List D} {ks : List (List (List Nat))} {n : Bool} {Q : VK} (hK : L.K = X.K) (hu : X.A.units + 65 < cLine)
    (I : Inv X pins σ H s) (r : Vals [V.ref a] us) (g : Good L.T Z H) (st : H a = some (.lst vs)) (len : vs.length ≤ LIM) (rl : RepL L.K Z vs ds) (e : keysBy (keyB n) ds = some ks) (q : Fin L Z H (.lst ((sortL ks).map (unB n))) Q) :
    wpAny (model X.prog X.w) X.A (call (.builtin "sorted") us) (EP X pins σ Q) X.xe s := by
  obtain ⟨e1, e2⟩ := kyOf_all (pf_all rl e)
  refine cr_sortK hu n pins s σ H _ us Q I r ⟨a, vs, kyOf Z n, rfl, .of st, fun x hx => (e2 x hx).kv g, fun ys p so pm np => ?_⟩
  have e3 : ys.map (kyOf Z n) = sortL ks := by
    refine ascL_unique ((pm.map _).trans ?_) (List.pairwise_map.mpr so) (sortL_asc ks)
    rw [e1]
    exact (sortL_perm ks).symm
  have r2 : RepL L.K Z ys ((sortL ks).map (unB n)) := by
    rw [← e3]
    exact repL_pf fun v hv => e2 v (pm.mem_iff.mp hv)
  exact q.lst g (by rw [pm.length_eq]; exact len) r2 p np

theorem dict_pairs {K : PySem.W.Frag} {T : List (Addr × Str)} {Z H : Hp} (g : Good T Z H) : ∀ {ds : List D} {vs : List V} {ks : List (List Nat)} {es : List D} {acc : List (Key × V)} {d : D}, RepL K Z vs ds → RepK K Z acc ks es → dictOf ks es ds = some d →
    ∃ (ps : List Addr) (kvs : List (Key × V)) (ks' : List (List Nat)) (es' : List D), vs = ps.map V.ref ∧ Paired (fun p kv => SqT K H p [kV kv.1, kv.2]) ps kvs ∧ d = .dct ks' es' ∧ RepK K Z (mergeK acc kvs) ks' es' ∧ (mergeK acc kvs).length ≤ acc.length + vs.length
  | [], _, ks, es, acc, d, h, ha, e => by
    cases h
    cases e
    exact ⟨[], [], ks, es, rfl, .nil, rfl, ha, Nat.le_refl _⟩
  | d0 :: ds, _, ks, es, acc, d, h, ha, e => by
    cases h with
    | cons a b =>
      unfold dictOf at e
      split at e
      · rename_i h0; cases h0
      · rename_i k x r h0
        cases h0
        cases a with
        | tup z zd _ l =>
          cases l with
          | cons r1 l =>
            cases l with
            | cons r2 l =>
              cases l
              cases r1 with
              | str k1 k2 =>
                rename_i t _ v2 _
                have sq : SqT K H t [kV (Sum.inr (toS k) : Key), v2] := .inl (.inr ⟨_, g.sub _ _ z⟩)
                by_cases hs : (look k ks es).isSome = true
                · rw [if_pos hs] at e
                  have hp : RepK K Z (putK acc (.inr (toS k)) v2) ks (putD k x ks es) := by
                    unfold putK
                    rw [if_pos (by rw [putK_look ha]; exact hs)]
                    exact putK_in r2 ha
                  obtain ⟨ps, kvs, ks', es', h1, h2, h3, h4, h5⟩ := dict_pairs g b hp e
                  refine ⟨t :: ps, (.inr (toS k), v2) :: kvs, ks', es', by rw [h1]; rfl, .cons sq h2, h3, h4, ?_⟩
                  have hl : (putK acc (.inr (toS k)) v2).length = acc.length := by
                    unfold putK
                    rw [if_pos (by rw [putK_look ha]; exact hs), List.length_map]
                  show (mergeK (putK acc (.inr (toS k)) v2) kvs).length ≤ _
                  simp only [List.length_cons]
                  omega
                · rw [if_neg hs] at e
                  have hn : ¬ (acc.any fun kv => decide (kv.1 = (.inr (toS k) : Key))) = true := by rw [putK_look ha]; exact hs
                  have hp : RepK K Z (putK acc (.inr (toS k)) v2) (ks ++ [k]) (es ++ [x]) := by
                    unfold putK
                    rw [if_neg hn]
                    exact RepK.append k1 k2 r2 ha
                  obtain ⟨ps, kvs, ks', es', h1, h2, h3, h4, h5⟩ := dict_pairs g b hp e
                  refine ⟨t :: ps, (.inr (toS k), v2) :: kvs, ks', es', by rw [h1]; rfl, .cons sq h2, h3, h4, ?_⟩
                  have hl : (putK acc (.inr (toS k)) v2).length = acc.length + 1 := by
                    unfold putK
                    rw [if_neg hn, List.length_append]
                    rfl
                  show (mergeK (putK acc (.inr (toS k)) v2) kvs).length ≤ _
                  simp only [List.length_cons]
                  omega
      · cases e
theorem keys_rep {K : PySem.W.Frag} {Z : Hp} : ∀ {ds : List D} {kvs : List (Key × V)} {ks : List (List Nat)}, RepK K Z kvs ks ds → kvs.map (·.1) = (ks.map toS).map Sum.inr ∧ ∀ x ∈ ks, okT x
  | [], _, _, h => by cases h; exact ⟨rfl, fun _ h => by cases h⟩
  | _ :: _, _, _, h => by
    cases h with
    | cons a b _ e =>
      obtain ⟨h1, h2⟩ := keys_rep e
      refine ⟨by rw [List.map_cons, h1]; rfl, fun x hx => ?_⟩
      rcases List.mem_cons.mp hx with z | hx
      · rw [z]; exact ⟨a, b⟩
      · exact h2 x hx
end Mk
end
section
set_option Elab.async false
set_option linter.all false
set_option maxRecDepth 100000
set_option maxHeartbeats 4000000
namespace Mk
open PySem PySem.Spec PyProof.Rows L2

theorem dedup_mem {α : Type} [DecidableEq α] : ∀ (l : List α) (x : α), x ∈ dedup l ↔ x ∈ l
  | [], x => by simp [dedup]
  | y :: r, x => by
    rw [dedup, List.mem_cons, List.mem_filter, dedup_mem r x, List.mem_cons]
    by_cases h : x = y <;> simp [h]
theorem dedup_snoc {α : Type} [DecidableEq α] : ∀ (l : List α) (z : α), dedup (l ++ [z]) = if z ∈ l then dedup l else dedup l ++ [z]
  | [], z => by simp [dedup]
  | y :: r, z => by
    rw [List.cons_append, dedup, dedup_snoc r z, dedup]
    by_cases h1 : z = y
    · subst h1
      simp only [List.mem_cons, true_or, if_true]
      by_cases h2 : z ∈ r
      · rw [if_pos h2]
      · rw [if_neg h2, List.filter_append]
        simp
    · by_cases h2 : z ∈ r
      · rw [if_pos h2, if_pos (List.mem_cons_of_mem _ h2)]
      · rw [if_neg h2, if_neg (by simp [h1, h2]), List.filter_append]
        simp [h1]
/-- how many differ -/
abbrev cntD {α : Type} [DecidableEq α] (l : List α) : Nat := (dedup l).length
theorem cntD_snoc {α : Type} [DecidableEq α] (l : List α) (z : α) : cntD (l ++ [z]) = if z ∈ l then cntD l else cntD l + 1 := by
  unfold cntD
  rw [dedup_snoc]
  split <;> simp
theorem cntD_le {α : Type} [DecidableEq α] : ∀ l : List α, cntD l ≤ l.length
  | [] => Nat.le_refl _
  | x :: r => by
    have h1 := cntD_le r
    have h2 := List.length_filter_le (fun y => decide (y ≠ x)) (dedup r)
    unfold cntD at *
    rw [dedup, List.length_cons, List.length_cons]
    omega

section
variable {P : Program} {w : World} {A : Around} {E : Value → Shared → Prop} {s : Shared}
theorem set_fill {I : Addr} {fp wr : List Addr} {n : Nat} {Pv : Nat → Value → Prop} {St : Nat → Heap → Prop} {R : Result → Shared → Prop} (W : Walks P w A.in1 I fp wr n Pv St) (S : Addr) (hSf : S ∉ fp) (J : Nat → Heap → Prop)
    (stay : ∀ i h h', J i h → (∀ b o, b ∉ wr → h.get? b = some o → h'.get? b = some o) → J i h')
    (put : ∀ (i : Nat) (v : Value) (s : Shared) (Q : Bool → Shared → Prop) (E : Value → Shared → Prop), i < n → Pv i v → J i s.heap → (∀ b h' tk, J (i + 1) h' → (∀ c o, c ≠ S → s.heap.get? c = some o → h'.get? c = some o) → Q b { s with heap := h', toks := tk }) →
      wpAny (model P w) A.in1 (setAdd S v) Q E s) :
    ∀ (k i : Nat) (s : Shared), n - i = k → i ≤ n → St i s.heap → J i s.heap →
      (∀ h' tk, J n h' → (∀ b o, b ≠ S → b ∉ wr → s.heap.get? b = some o → h'.get? b = some o) → R (.ok (.ret .none)) { s with heap := h', toks := tk }) →
      codeAny (model P w) A (.builtin "set.update.loop" ⟨[.ref S, .ref I], []⟩) R s := by
  intro k
  induction k with
  | zero =>
    intro i s hk hi hst hJ hR
    have hin : i = n := by omega
    subst hin
    refine codeAny_builtin F.entry_set_update_loop ?_
    rw [Around.under_plainId F.plain_set_update_loop _]
    show wpAny _ A.in1 (pyNext (.ref I) >>= _) _ _ s
    refine wpAny_bind (W.done s _ _ hst fun h' tk hm => ?_)
    exact wpAny_pure (hR h' tk (stay _ _ _ hJ hm) fun b o _ hb e => hm b o hb e)
  | succ k ih =>
    intro i s hk hi hst hJ hR
    have hlt : i < n := by omega
    refine codeAny_builtin F.entry_set_update_loop ?_
    rw [Around.under_plainId F.plain_set_update_loop _]
    show wpAny _ A.in1 (pyNext (.ref I) >>= _) _ _ s
    refine wpAny_bind (W.item i s _ _ hlt hst fun v h' tk hP hst' hm => ?_)
    show wpAny _ A.in1 (holding [v] (setAdd S v) >>= _) _ _ _
    refine wpAny_bind (wpAny_holding (put i v _ _ _ hlt hP (stay _ _ _ hJ hm) fun b h2 tk2 hJ2 hk2 => ?_))
    refine wpAny_pure ⟨plainId_quiet F.plain_set_update_loop _, ih (i + 1) _ (by omega) hlt (W.frame _ _ _ hst' fun b hb o e => hk2 b o (fun z => hSf (by rw [← z]; exact hb)) e) hJ2 fun h3 tk3 hJ3 hk3 => ?_⟩
    exact hR h3 tk3 hJ3 fun b o hb hw e => hk3 b o hb hw (hk2 b o hb (hm b o hw e))
/-- the object of a new set -/
abbrev set0 (w : World) : Obj := { cls := .type "set", dict := none, data := .set #[] 0 (.fresh 0 0 (!w.params.followText "set-order")) }
/-- set(xs) of a list -/
theorem set_of_list {l : Addr} {items : Array Value} {Q : Value → Shared → Prop} (hh : A.handled = none) (hl : s.heap.IsList l items) (J : Nat → Heap → Prop)
    (start : ∀ h', h'.get? s.heap.objs.size = some (set0 w) → (∀ b o, s.heap.get? b = some o → h'.get? b = some o) → J 0 h')
    (stay : ∀ i h h', J i h → (∀ b o, b ≠ s.heap.objs.size + 1 → h.get? b = some o → h'.get? b = some o) → J i h')
    (put : ∀ (i : Nat) (v : Value) (s' : Shared) (Q : Bool → Shared → Prop) (E : Value → Shared → Prop), items[i]? = some v → J i s'.heap → (∀ b h' tk, J (i + 1) h' → (∀ c o, c ≠ s.heap.objs.size → s'.heap.get? c = some o → h'.get? c = some o) → Q b { s' with heap := h', toks := tk }) →
      wpAny (model P w) A.in1.in1.in1 (setAdd s.heap.objs.size v) Q E s')
    (h : ∀ (h' : Heap) (tk : Nat), J items.size h' → (∀ b o, s.heap.get? b = some o → h'.get? b = some o) → Q (.ref s.heap.objs.size) { s with heap := h', toks := tk }) :
    wpAny (model P w) A (call (.type "set") [.ref l]) Q E s := by
  obtain ⟨c, tl, hmro⟩ := F.called_set.mro
  have hmade := F.called_set.made
  have hsub := F.called_set.sub
  refine wpAny_call (codeAny_of_tree ?_)
  show wpAny _ _ (callAny (.type "set") _) _ _ _
  refine wpAny_pure ⟨Code.quiet_builtin _ (by decide +kernel), codeAny_builtin F.entry_type_call ?_⟩
  rw [Around.under_plain (weight_type_call_type "set" [.ref l] []) rfl]
  have h1 := F.called_set.notType
  have h2 := F.called_set.canCreate
  have hct := F.typeCall_set_1 (.ref l)
  repeat (any_goals (first | assumption | wp_step))
  refine codeAny_mono (code_set_led1 (.ref l) (E := E) (Q₁ := fun obj s₁ => obj = .ref s.heap.objs.size ∧ s₁ = { s with heap := s.heap.push (set0 w) }) ⟨rfl, rfl⟩) fun r s₁ hr => ?_
  cases r with
  | error e => exact hr
  | ok fl =>
    cases fl with
    | ret obj =>
      obtain ⟨rfl, rfl⟩ := hr
      have hS : (s.heap.push (set0 w)).get? s.heap.objs.size = some (set0 w) := Heap.get?_push_size _ rfl
      have hT : Shared.TypeIs { s with heap := s.heap.push (set0 w) } (.ref s.heap.objs.size) "set" := ⟨_, hS, rfl⟩
      have hli := F.called_set.init.lookup
      have hbi := F.called_set.init.bind (.ref s.heap.objs.size)
      repeat (any_goals (first | assumption | wp_step))
      refine codeAny_mono (codeAny_call_builtin (R := wants (fun r s₂ => r = .none ∧ ∃ h' tk, s₂ = { s with heap := h', toks := tk } ∧ J items.size h' ∧ (∀ b o, s.heap.get? b = some o → h'.get? b = some o)) E) F.called_set.init.plain F.entry_set_init (check_set_init_1 hT ?_)) fun r₂ s₂ hr₂ => ?_
      · obtain ⟨ol, hol, hcl, nl, hdl⟩ := hl
        obtain ⟨ocls, odict, odata, oslots⟩ := ol
        simp only at hcl hdl
        subst hcl; subst hdl
        have hol' : (s.heap.push (set0 w)).get? l = some { cls := .type "list", dict := odict, data := .seq items nl, slots := oslots } := Heap.get?_push_of_some _ hol
        have hsls := F.sub_list_set
        have hslf := F.sub_list_frozenset
        have hne : (Value.type "list" == Value.type "dict") = false := by decide
        have hl1 : (s.heap.push (set0 w)).IsList l items := ⟨_, hol', rfl, nl, rfl⟩
        unfold Builtin.«set.__init__» noKeywords Builtin.Frozenset.updateFrom
        generalize hPI : pyIter = PI
        wp_walk
        subst hPI
        refine wpAny_pyIter_list hl1 ?_
        refine wpAny_bind (wpAny_runValue ?_)
        have hlS : l < s.heap.objs.size := Heap.lt_size hol
        have hh3 : A.in1.in1.in1.handled = none := by simp [hh]
        have hz1 : (s.heap.push (set0 w)).objs.size = s.heap.objs.size + 1 := Heap.size_push ..
        have hneI : l ≠ (s.heap.push (set0 w)).objs.size := by rw [hz1]; exact Nat.ne_of_lt (Nat.lt_succ_of_lt hlS)
        have hSf : s.heap.objs.size ∉ [(s.heap.push (set0 w)).objs.size, l] := by
          rw [hz1]
          simp only [List.mem_cons, List.not_mem_nil, or_false, not_or]
          exact ⟨Nat.ne_of_lt (Nat.lt_succ_self _), Nat.ne_of_gt hlS⟩
        have mw : ∀ b, b ∉ [(s.heap.push (set0 w)).objs.size] ↔ b ≠ s.heap.objs.size + 1 := fun b => by rw [hz1]; simp
        refine set_fill (Walks.list hh3 _ l hneI items) s.heap.objs.size hSf J (fun i h h' hJ hk => stay i h h' hJ fun b o hb e => hk b o ((mw b).mpr hb) e)
          (fun i v s' Q E _ hv hJ q => put i v s' Q E hv hJ q) (items.size - 0) 0 _ (by omega) (Nat.zero_le _)
          ⟨⟨_, Heap.get?_push_size _ rfl, rfl, rfl⟩, (hl1.push _)⟩ ?hS0 ?hR
        case hS0 => exact start _ (Heap.get?_push_of_some _ hS) fun b o e => Heap.get?_push_of_some _ (Heap.get?_push_of_some _ e)
        case hR =>
          intro h' tk' hJ' hk'
          show wpAny _ _ _ _ _ _
          refine wpAny_pure ?_
          show wpAny _ _ (ret Value.none) _ _ _
          refine wpAny_pure ⟨rfl, h', tk', rfl, hJ', fun b o e => ?_⟩
          have hb0 : b < s.heap.objs.size := Heap.lt_size e
          exact hk' b o (Nat.ne_of_lt hb0) ((mw b).mpr (Nat.ne_of_lt (Nat.lt_succ_of_lt hb0))) (Heap.get?_push_of_some _ (Heap.get?_push_of_some _ e))
      · cases r₂ with
        | error e => exact hr₂
        | ok fl₂ =>
          cases fl₂ with
          | ret r =>
            obtain ⟨rfl, h', tk, rfl, hJ', hk'⟩ := hr₂
            repeat (any_goals (first | assumption | wp_step))
            exact h _ _ hJ' hk'
          | _ => exact hr₂.elim
    | _ => exact hr.elim
end
end Mk
end
section
set_option Elab.async false
set_option linter.all false
set_option maxRecDepth 100000
set_option maxHeartbeats 4000000
namespace Mk
open PySem PySem.Spec PyProof.Rows L2

section
variable {P : Program} {w : World} {K : Type} [DecidableEq K] {knd : KeyKind P w K} {A : Around} {E : Value → Shared → Prop} {s : Shared}
/-- the items show nothing -/
structure Mute (knd : KeyKind P w K) : Prop where
  cls : ∀ k v n, knd.is k v = true → ofAClassStatement n v = pure false
  hsh : ∀ k v n, knd.is k v = true → ∃ r, hashByValue n v = pure r
theorem items_are_of {k : List K} {vs : List Value} (h : ItemsAre knd k vs) : ∀ v ∈ vs, ∃ z, knd.is z v = true := by
  induction h with
  | nil => intro v hv; cases hv
  | cons h1 _ ih =>
    intro v hv
    rcases List.mem_cons.mp hv with z | hv
    · rw [z]; exact ⟨_, h1⟩
    · exact ih v hv
theorem no_class (M : Mute knd) {k : List K} {b : Addr} {Q : Bool → Shared → Prop} (hk : IsTupleKey knd s.heap k b) (h : Q false s) : wpAny (model P w) A (ofAClassStatement 8 (.ref b)) Q E s := by
  have hT := hk.typeIs
  obtain ⟨o, its, n, ho, _, hd, hi⟩ := hk
  unfold ofAClassStatement
  refine wpAny_bind (wpAny_typeOf hT ?_)
  dsimp only
  have e : (("tuple" : String) == "tuple") = true := by decide
  simp only [e, if_true, Bool.not_true, Bool.false_eq_true, if_false]
  try refine wpAny_bind (wpAny_pure ?_)
  try simp only [Bool.not_true, Bool.false_eq_true, if_false]
  show wpAny _ _ (seqItems? (.ref b) >>= _) _ _ s
  refine wpAny_bind (wpAny_seqItems ho hd ?_)
  dsimp only
  refine wpAny_bind ?_
  show wpAny _ _ (forIn its _ _) _ _ s
  rw [← Array.forIn_toList]
  refine wpAny_forIn_list _ (fun rest r s' => r.1 = none ∧ s' = s ∧ ∀ v ∈ rest, ∃ z, knd.is z v = true) _ ?_ ?_ _ _ ⟨rfl, rfl, items_are_of hi⟩
  · rintro v rest r s' ⟨hr, rfl, hall⟩
    obtain ⟨z, hz⟩ := hall v List.mem_cons_self
    rw [M.cls z v _ hz]
    refine wpAny_bind (wpAny_pure ?_)
    simp only [Bool.false_eq_true, if_false]
    exact wpAny_pure ⟨rfl, rfl, fun u hu => hall u (List.mem_cons_of_mem _ hu)⟩
  · rintro ⟨r1, r2⟩ s' ⟨hr, rfl, _⟩
    simp only at hr
    subst hr
    exact wpAny_pure h
theorem by_value (M : Mute knd) {k : List K} {b : Addr} {Q : Bool → Shared → Prop} (hk : IsTupleKey knd s.heap k b) (h : ∀ r, Q r s) : wpAny (model P w) A (hashByValue 8 (.ref b)) Q E s := by
  have hT := hk.typeIs
  obtain ⟨o, its, n, ho, _, hd, hi⟩ := hk
  unfold hashByValue
  refine wpAny_bind (wpAny_specialOf hT F.slot_tuple_hash.lookup ?_)
  show wpAny _ _ (seqItems? (.ref b) >>= _) _ _ s
  refine wpAny_bind (wpAny_seqItems ho hd ?_)
  refine wpAny_bind ?_
  show wpAny _ _ (forIn its _ _) _ _ s
  rw [← Array.forIn_toList]
  refine wpAny_forIn_list _ (fun rest r s' => r.1 = none ∧ s' = s ∧ ∀ v ∈ rest, ∃ z, knd.is z v = true) _ ?_ ?_ _ _ ⟨rfl, rfl, items_are_of hi⟩
  · rintro v rest r s' ⟨hr, rfl, hall⟩
    obtain ⟨z, hz⟩ := hall v List.mem_cons_self
    obtain ⟨r0, hr0⟩ := M.hsh z v _ hz
    rw [hr0]
    refine wpAny_bind (wpAny_pure ?_)
    cases r0 with
    | true =>
      simp only [Bool.not_true, Bool.false_eq_true, if_false]
      exact wpAny_pure ⟨rfl, rfl, fun u hu => hall u (List.mem_cons_of_mem _ hu)⟩
    | false =>
      simp only [Bool.not_false, if_true]
      exact wpAny_pure (wpAny_pure (h false))
  · rintro ⟨r1, r2⟩ s' ⟨hr, rfl, _⟩
    simp only at hr
    subst hr
    exact wpAny_pure (h true)
theorem not_seen (M : Mute knd) {k : List K} {b : Addr} {Q : Bool → Shared → Prop} (hk : IsTupleKey knd s.heap k b) {ys : List Value} (hy : ∀ y ∈ ys, ∃ k' c, y = Value.ref c ∧ IsTupleKey knd s.heap k' c) (h : Q false s) :
    wpAny (model P w) A (searchCouldBeSeen (.ref b) ys) Q E s := by
  unfold searchCouldBeSeen
  refine wpAny_bind ?_
  refine wpAny_forIn_list _ (fun rest r s' => r.1 = none ∧ s' = s ∧ ∀ y ∈ rest, ∃ k' c, y = Value.ref c ∧ IsTupleKey knd s.heap k' c) _ ?_ ?_ _ _ ⟨rfl, rfl, hy⟩
  · rintro v rest r s' ⟨hr, rfl, hall⟩
    obtain ⟨k', c, rfl, hc⟩ := hall v List.mem_cons_self
    have more : ∀ y ∈ rest, ∃ k' c, y = Value.ref c ∧ IsTupleKey knd s'.heap k' c := fun u hu => hall u (List.mem_cons_of_mem _ hu)
    dsimp only
    by_cases hv : (b == c || (carriedByValue (.ref b) && carriedByValue (.ref c))) = true
    · exact wp_if_pos hv (wpAny_pure ⟨rfl, rfl, more⟩)
    · refine wp_if_neg hv (wpAny_bind (wpAny_eqIsQuiet_tuple hk ?_))
      simp only [Bool.not_true, Bool.false_eq_true, if_false]
      refine wpAny_bind (wpAny_eqIsQuiet_tuple hc ?_)
      simp only [Bool.not_true, Bool.false_eq_true, if_false]
      refine wpAny_bind (no_class M hk ?_)
      simp only [Bool.false_eq_true, if_false]
      refine wpAny_bind (no_class M hc ?_)
      simp only [Bool.false_eq_true, if_false]
      exact wpAny_pure ⟨rfl, rfl, more⟩
  · rintro ⟨r1, r2⟩ s' ⟨hr, rfl, _⟩
    simp only at hr
    subst hr
    exact wpAny_pure h
end

section
variable {P : Program} {w : World} {K : Type} [DecidableEq K] (knd : KeyKind P w K)
abbrev hsOf (L : List (Addr × List K)) : List Int := L.map fun p => tupleKeyHash knd p.2
/-- a set at a of the tuples L -/
structure TSet (h : Heap) (a : Addr) (L : List (Addr × List K)) (es : Array (Int × Value)) (ep : Nat) (t : SetTable) : Prop where
  ob : ∃ o, h.get? a = some o ∧ o.ExactSet ∧ o.data = .set es ep t
  rows : es.toList = L.map fun p => (tupleKeyHash knd p.2, Value.ref p.1)
  tab : TabOk t (hsOf knd L)
  nd : (L.map (·.2)).Nodup
  tup : ∀ p ∈ L, IsTupleKey knd h p.2 p.1
  m7 : t.mask = 7
  few : L.length ≤ 4
end
section
variable {P : Program} {w : World} {K : Type} [DecidableEq K] {knd : KeyKind P w K} {A : Around} {E : Value → Shared → Prop} {s : Shared} {a : Addr} {L : List (Addr × List K)} {es : Array (Int × Value)} {ep : Nat} {t : SetTable}
theorem TSet.size {h : Heap} (R : TSet knd h a L es ep t) : es.size = L.length := by
  have e := congrArg List.length R.rows
  simpa using e
theorem TSet.psz {h : Heap} (R : TSet knd h a L es ep t) : t.place.toList.length = L.length := by
  have e := R.tab.sz
  rw [List.length_map] at e
  rw [Array.length_toList, e]
theorem TSet.fits {h : Heap} (R : TSet knd h a L es ep t) : t.fits es.size = true := by
  have h1 := R.psz
  rw [Array.length_toList] at h1
  have h2 := R.size
  have h3 := R.few
  have h4 := R.m7
  unfold SetTable.fits SetTable.fill
  rw [R.tab.dm, Bool.and_eq_true, beq_iff_eq, decide_eq_true_eq]
  show t.place.size = es.size ∧ t.place.size + 0 ≤ t.mask
  omega
theorem TSet.ent {h : Heap} (R : TSet knd h a L es ep t) {i : Nat} {p : Addr × List K} (e : L[i]? = some p) : es[i]? = some (tupleKeyHash knd p.2, Value.ref p.1) := by
  rw [← Array.getElem?_toList, R.rows, List.getElem?_map, e] <;> rfl
theorem TSet.gw {h : Heap} (R : TSet knd h a L es ep t) : ¬ t.gaveWay = true := by
  unfold SetTable.gaveWay
  rw [R.m7]
  decide
theorem dummy_nth (m : Nat) : ∀ (n : Nat) (p : SetTable.Probe), p.dummy = none → (nth m p n).dummy = none
  | 0, p, h => h
  | n + 1, p, h => dummy_nth m n (adv m p) (by unfold adv; split <;> exact h)
/-- the search, from step c of its way on -/
theorem seek (M : Mute knd) (R : TSet knd s.heap a L es ep t) {x : Addr} {k : List K} (hx : IsTupleKey knd s.heap k x) (hu : A.units < cLine) {N : Nat} (hN : N < 10 * SetTable.turns t.mask)
    (hend : way t.mask (tupleKeyHash knd k) N ∉ t.place.toList) (hmid : ∀ c, c < N → way t.mask (tupleKeyHash knd k) c ∈ t.place.toList) {Q : SetFound → Shared → Prop}
    (yes : k ∈ L.map (·.2) → Q (.there none) s) (nay : k ∉ L.map (·.2) → Q (.free (way t.mask (tupleKeyHash knd k) N) false) s) :
    ∀ (f c : Nat) (at0 : Option SetTable.Probe), at0.getD (t.probeStart (tupleKeyHash knd k)) = nth t.mask (runAt t.mask (SetTable.bits (tupleKeyHash knd k) % (t.mask + 1)) (SetTable.bits (tupleKeyHash knd k))) c → c ≤ N → N - c < f →
      (∀ (i : Nat) p, L[i]? = some p → p.2 = k → ∃ c', c ≤ c' ∧ c' < N ∧ t.place.toList[i]? = some (way t.mask (tupleKeyHash knd k) c')) →
      wpAny (model P w) A (setSearchFrom a (.ref x) (tupleKeyHash knd k) true f at0) Q E s
  | 0, _, _, _, _, hf, _ => absurd hf (Nat.not_lt_zero _)
  | f + 1, c, at0, hst, hc, hf, hre => by
    obtain ⟨o, ho, hex, hd⟩ := R.ob
    rw [setSearchFrom_succ]
    refine wpAny_bind (wpAny_setState_of ho hd R.fits ?_)
    dsimp only
    refine wp_if_neg R.gw ?_
    try refine wpAny_bind (wpAny_pure ?_)
    generalize hH : tupleKeyHash knd k = hk at *
    generalize hp0 : runAt t.mask (SetTable.bits hk % (t.mask + 1)) (SetTable.bits hk) = p0 at *
    have d0 : (nth t.mask p0 c).dummy = none := dummy_nth _ _ _ (by rw [← hp0]; rfl)
    have wj : ∀ q, way t.mask hk q = (nth t.mask p0 q).j := fun q => by rw [← hp0]
    have sh : ∀ q, nth t.mask (nth t.mask p0 c) q = nth t.mask p0 (c + q) := fun q => (nth_add t.mask c _ q).symm
    have hAt : ∀ (i : Nat) p, L[i]? = some p → (fun i => (es[i]?.map (·.1)).getD 0) i = tupleKeyHash knd p.2 := fun i p e => by
      show (es[i]?.map (·.1)).getD 0 = _
      rw [R.ent e] <;> rfl
    have spec := go_spec t R.tab.ris R.tab.dm (fun i => (es[i]?.map (·.1)).getD 0) hk (10 * SetTable.turns t.mask) (N - c) (nth t.mask p0 c) d0 (by omega)
      (fun q hq => by rw [sh, ← wj]; exact hmid (c + q) (by omega)) (by rw [sh, ← wj, show c + (N - c) = N by omega]; exact hend)
    rcases spec with ⟨q, i, hq, hi, hh, hno, hpr⟩ | ⟨hno, hpr⟩
    · rw [sh] at hi hpr
      rw [sh] at hpr
      rw [← wj] at hi hpr
      have hpr' : t.probe (fun i => (es[i]?.map (·.1)).getD 0) hk (at0.getD (t.probeStart hk)) = some (.candidate (way t.mask hk (c + q)) i (nth t.mask p0 (c + (q + 1)))) := by
        rw [hst]
        exact hpr
      rw [hpr']
      dsimp only
      have hil : i < L.length := by rw [← R.psz]; exact (List.getElem?_eq_some_iff.mp hi).1
      obtain ⟨p, hp⟩ : ∃ p, L[i]? = some p := ⟨_, List.getElem?_eq_getElem hil⟩
      have hmem : p ∈ L := List.mem_of_getElem? hp
      have rest : wpAny (model P w) A (searchRest a (.ref x) hk true f es t (way t.mask hk (c + q)) i (nth t.mask p0 (c + (q + 1)))) Q E s := by
        unfold searchRest
        rw [R.ent hp]
        dsimp only
        refine wpAny_bind (wpAny_holding (wpAny_eqBool_tuple hu (R.tup p hmem) hx ?_))
        refine wpAny_bind (wpAny_setState_of ho hd R.fits ?_)
        dsimp only
        by_cases hkk : p.2 = k
        · exact wp_if_pos (by simp [hkk]) (wpAny_pure (yes (List.mem_map.mpr ⟨p, hmem, hkk⟩)))
        · refine wp_if_neg (by simp [hkk]) ?_
          try refine wpAny_bind (wpAny_pure ?_)
          rw [sameMem]
          dsimp only
          have hsl : t.slot (way t.mask hk (c + q)) = .live i := slot_live R.tab.ris hi
          simp only [if_true, hsl, R.ent hp]
          refine wpAny_bind (wpAny_isSame_ref_self (wpAny_bind (wpAny_pure ?_)))
          simp only [if_true]
          refine wp_if_neg (by simp [hkk]) ?_
          have ih := seek M R hx hu hN (by rw [hH]; exact hend) (by rw [hH]; exact hmid) yes (by rw [hH]; exact nay) f (c + (q + 1)) (some (nth t.mask p0 (c + (q + 1)))) (by rw [hH, hp0]; rfl) (by omega) (by omega) fun i0 p0' h0 hk0 => ?_
          · rw [hH] at ih
            exact ih
          · obtain ⟨c', a1, a2, a3⟩ := hre i0 p0' h0 hk0
            rw [hH]
            refine ⟨c', ?_, a2, a3⟩
            have h1 : ¬ c' < c + q := fun z => hno (c' - c) i0 (by omega) (by rw [sh, ← wj, show c + (c' - c) = c' by omega]; exact a3) ((hAt i0 p0' h0).trans (by rw [hk0, hH]))
            have h2 : c' ≠ c + q := fun z => by
              rw [z] at a3
              have s0 := slot_live R.tab.ris a3
              rw [hsl] at s0
              injection s0 with s0
              rw [← s0, hp] at h0
              exact hkk ((congrArg Prod.snd (Option.some.inj h0)).trans hk0)
            omega
      by_cases hl : t.led = true
      · refine wp_if_neg (by simp [hl]) ?_
        try refine wpAny_bind (wpAny_pure ?_)
        exact rest
      · refine wp_if_pos (by simp [hl]) (wpAny_bind (not_seen M hx (fun y hy => ?_) ?_))
        · obtain ⟨e, he, ee⟩ := List.mem_map.mp hy
          have he1 : e ∈ es ∧ e.1 = hk := by simpa using he
          have he2 : e ∈ es.toList := by simpa using he1.1
          rw [R.rows] at he2
          obtain ⟨p2, hp2, e2⟩ := List.mem_map.mp he2
          exact ⟨p2.2, p2.1, by rw [← ee, ← e2], R.tup p2 hp2⟩
        · refine wp_if_neg (by decide) ?_
          try refine wpAny_bind (wpAny_pure ?_)
          exact rest
    · rw [sh, show c + (N - c) = N by omega, ← wj] at hpr
      have hpr' : t.probe (fun i => (es[i]?.map (·.1)).getD 0) hk (at0.getD (t.probeStart hk)) = some (.empty (way t.mask hk N) none) := by
        rw [hst]
        exact hpr
      rw [hpr']
      dsimp only
      refine wpAny_pure (nay fun hm => ?_)
      obtain ⟨p1, h0, hk0⟩ := List.mem_map.mp hm
      obtain ⟨i0, h00⟩ := List.mem_iff_getElem?.mp h0
      obtain ⟨c', a1, a2, a3⟩ := hre i0 p1 h00 hk0
      exact hno (c' - c) i0 (by omega) (by rw [sh, ← wj, show c + (c' - c) = c' by omega]; exact a3) ((hAt i0 p1 h00).trans (by rw [hk0, hH]))
end
end Mk
end
section
set_option Elab.async false
set_option linter.all false
set_option maxRecDepth 100000
set_option maxHeartbeats 4000000
namespace Mk
open PySem PySem.Spec PyProof.Rows L2

section
variable {P : Program} {w : World} {K : Type} [DecidableEq K] {knd : KeyKind P w K} {A : Around} {E : Value → Shared → Prop} {s : Shared} {a : Addr} {L : List (Addr × List K)} {es : Array (Int × Value)} {ep : Nat} {t : SetTable}
theorem keeps_key {h h' : Heap} {k : List K} {b : Addr} (x : IsTupleKey knd h k b) (hk : ∀ o, h.get? b = some o → h'.get? b = some o) : IsTupleKey knd h' k b := by
  obtain ⟨o, its, n, ho, r⟩ := x
  exact ⟨o, its, n, hk o ho, r⟩
theorem not_the_set {h : Heap} {k : List K} {b : Addr} {o : Obj} (x : IsTupleKey knd h k b) (ho : h.get? a = some o) (hd : o.data = .set es ep t) : b ≠ a := by
  obtain ⟨o', its, n, ho', hc, hd', hi⟩ := x
  rintro rfl
  obtain rfl : o' = o := Option.some.inj (ho'.symm.trans ho)
  rw [hd] at hd'
  exact nomatch hd'
theorem seek0 (M : Mute knd) (R : TSet knd s.heap a L es ep t) {x : Addr} {k : List K} (hx : IsTupleKey knd s.heap k x) (hu : A.units < cLine) {Q : SetFound → Shared → Prop} (yes : k ∈ L.map (·.2) → Q (.there none) s)
    (nay : ∀ N, k ∉ L.map (·.2) → way t.mask (tupleKeyHash knd k) N ∉ t.place.toList → (∀ c, c < N → way t.mask (tupleKeyHash knd k) c ∈ t.place.toList) → Q (.free (way t.mask (tupleKeyHash knd k) N) false) s) :
    wpAny (model P w) A (setSearch a (.ref x) (tupleKeyHash knd k) true) Q E s := by
  have hf := R.few
  have hm := R.m7
  obtain ⟨N, h1, h2, h3⟩ := R.tab.first (by rw [List.length_map]; omega) (tupleKeyHash knd k)
  have hbig : N < 100000 := by
    have : 10 * SetTable.turns t.mask ≤ 1420 := by
      unfold SetTable.turns
      omega
    omega
  unfold setSearch
  refine seek M R hx hu h1 h2 h3 yes (fun hn => nay N hn h2 h3) 100000 0 none rfl (Nat.zero_le _) (by omega) fun i p hp hk => ?_
  have hi : (hsOf knd L)[i]? = some (tupleKeyHash knd k) := by rw [List.getElem?_map, hp, ← hk] <;> rfl
  have hil : i < t.place.toList.length := by rw [R.psz]; exact (List.getElem?_eq_some_iff.mp hp).1
  have hj := List.getElem?_eq_getElem hil
  obtain ⟨c, hc, e⟩ := R.tab.before h2 hi hj
  exact ⟨c, Nat.zero_le _, hc, by rw [hj, e]⟩
theorem put_tuple (M : Mute knd) (R : TSet knd s.heap a L es ep t) {x : Addr} {k : List K} (hx : IsTupleKey knd s.heap k x) (hu : A.units < cLine) (hfew : L.length < 4) {Q : Bool → Shared → Prop}
    (hQ : ∀ b h' L' es' ep' t', (∀ c o, c ≠ a → s.heap.get? c = some o → h'.get? c = some o) → TSet knd h' a L' es' ep' t' → L'.length = (if k ∈ L.map (·.2) then L.length else L.length + 1) → (∀ z, z ∈ L'.map (·.2) ↔ z = k ∨ z ∈ L.map (·.2)) → (∀ p ∈ L', p = (x, k) ∨ p ∈ L) → Q b { s with heap := h' }) :
    wpAny (model P w) A (setAddHashed a (.ref x) (tupleKeyHash knd k)) Q E s := by
  obtain ⟨o, ho, hex, hd⟩ := R.ob
  have hsl := R.size
  have hm7 := R.m7
  unfold setAddHashed
  refine wpAny_holding ?_
  rw [show (100000 : Nat) = 99999 + 1 from rfl, setAddHashedIn_succ]
  refine wpAny_bind (wpAny_setState_of ho hd R.fits ?_)
  dsimp only
  refine wp_if_neg (by simp [byScan, Value.scannable]) ?_
  try refine wpAny_bind (wpAny_pure ?_)
  refine wpAny_bind (seek0 M R hx hu (fun hm => ?_) fun N hm hN hb => ?_)
  · dsimp only
    refine wpAny_pure (hQ false s.heap L es ep t (fun _ _ _ e => e) R (by rw [if_pos hm]) (fun z => ⟨.inr, fun q => q.elim (fun e => by rw [e]; exact hm) id⟩) fun _ h => .inr h)
  · dsimp only
    refine wpAny_bind (wpAny_setState_of ho hd R.fits ?_)
    dsimp only
    obtain ⟨q1, q2, q3, q4, q5, q6, q7, q8, q9⟩ := R.tab.put hN hb
    generalize hpt : t.put (way t.mask (tupleKeyHash knd k) N) = pt at q1 q3 q4 q5 q6 q7 q8 q9 ⊢
    obtain ⟨t1, p⟩ := pt
    dsimp only at q1 q3 q4 q5 q6 q7 q8 q9 ⊢
    subst q1
    generalize hpp : SetTable.below t.place (way t.mask (tupleKeyHash knd k) N) = p at q2 q3 ⊢
    have hin : (SetTable.insertAt es p (tupleKeyHash knd k, Value.ref x)).toList = (L.take p ++ (x, k) :: L.drop p).map fun p => (tupleKeyHash knd p.2, Value.ref p.1) := by
      rw [SetTable.toList_insertAt, R.rows, List.map_append, List.map_cons, List.map_take, List.map_drop]
    have pm : (L.take p ++ (x, k) :: L.drop p).Perm ((x, k) :: L) := by
      have h : (L.take p ++ (x, k) :: L.drop p).Perm ((x, k) :: (L.take p ++ L.drop p)) := List.perm_middle
      rwa [List.take_append_drop] at h
    have hhs : hsOf knd (L.take p ++ (x, k) :: L.drop p) = (hsOf knd L).take p ++ tupleKeyHash knd k :: (hsOf knd L).drop p := by
      rw [hsOf, List.map_append, List.map_cons, List.map_take, List.map_drop]
    rw [← hhs] at q3
    generalize SetTable.insertAt es p (tupleKeyHash knd k, Value.ref x) = es1 at hin ⊢
    generalize L.take p ++ (x, k) :: L.drop p = L1 at pm q3 hin
    have hlen : L1.length = L.length + 1 := pm.length_eq
    have nd1 : (L1.map (·.2)).Nodup := by
      refine (pm.map (·.2)).nodup_iff.mpr ?_
      rw [List.map_cons]
      exact List.nodup_cons.mpr ⟨hm, R.nd⟩
    have hes : es1.size = L.length + 1 := by
      have h := congrArg List.length hin
      rw [Array.length_toList, List.length_map, hlen] at h
      exact h
    have fin : ∀ r : Bool, wpAny (model P w) A (do
        storeSet a es1 (if r = true then t1 else { t1 with plain := false })
        if (!false && (if r = true then t1 else { t1 with plain := false }).tooFull) = true then setRelay a (SetTable.grown (es.size + 1))
        return true) Q E s := fun r => by
      have u1 : TabOk (if r = true then t1 else { t1 with plain := false }) (hsOf knd L1) := by
        cases r with
        | true => exact q3
        | false => exact ⟨q3.ris, q3.dm, q3.sz, q3.mok, q3.bd, q3.reach⟩
      have u2 : (if r = true then t1 else { t1 with plain := false }).mask = 7 := by
        cases r with
        | true => exact q4.trans hm7
        | false => exact q4.trans hm7
      have u3 : ¬ (if r = true then t1 else { t1 with plain := false }).tooFull = true := by
        have e : t1.tooFull = false := by
          unfold SetTable.tooFull
          rw [decide_eq_false_iff_not, q9, List.length_map, q4, hm7]
          omega
        cases r with
        | true => rw [if_pos rfl, e]; decide
        | false => rw [if_neg (by decide)]; show ¬ t1.tooFull = true; rw [e]; decide
      generalize (if r = true then t1 else { t1 with plain := false }) = t2 at u1 u2 u3 ⊢
      refine wpAny_bind (wpAny_storeSet_of ho hd ?_ (by rw [hes, sizeLine_eq]; omega))
      have sb : Heap.SameBut a s.heap (s.heap.update a (Obj.putSet es1 t2)) := Heap.SameBut.update ..
      have ho1 := store_at (es' := es1) (t' := t2) ho hd
      generalize s.heap.update a (Obj.putSet es1 t2) = h1 at sb ho1 ⊢
      have keep : ∀ c o, c ≠ a → s.heap.get? c = some o → h1.get? c = some o := fun c o hc e => (sb.2 c hc).trans e
      have tup1 : ∀ p ∈ L1, IsTupleKey knd h1 p.2 p.1 := fun p hp => by
        rcases List.mem_cons.mp (pm.mem_iff.mp hp) with e | hp
        · rw [e]; exact keeps_key hx fun o e => keep _ o (not_the_set hx ho hd) e
        · exact keeps_key (R.tup p hp) fun o e => keep _ o (not_the_set (R.tup p hp) ho hd) e
      first
        | refine wp_if_neg (by simp [u3]) ?_
        | (refine wpAny_bind ?_; refine wp_if_neg (by simp [u3]) ?_; refine wpAny_pure ?_)
      refine wpAny_pure (hQ true h1 L1 es1 (ep + 1) t2 keep ⟨⟨_, ho1, ⟨hex.1, hex.2.1, hex.2.2⟩, rfl⟩, hin, u1, nd1, tup1, u2, by rw [hlen]; omega⟩ (by rw [if_neg hm]; exact hlen) (fun z => ?_) fun p hp => List.mem_cons.mp (pm.mem_iff.mp hp))
      rw [(pm.map (·.2)).mem_iff, List.map_cons, List.mem_cons]
    by_cases hp1 : t1.plain = true
    · first
        | (refine wpAny_bind ?_; refine wp_if_pos hp1 ?_; exact by_value M hx fin)
        | exact wp_if_pos hp1 (wpAny_bind (by_value M hx fin))
    · first
        | (refine wpAny_bind ?_; refine wp_if_neg hp1 ?_; exact wpAny_pure (fin true))
        | exact wp_if_neg hp1 (wpAny_bind (wpAny_pure (fin true)))
theorem TSet.new {h : Heap} (ho : h.get? a = some (set0 w)) : TSet knd h a [] #[] 0 (.fresh 0 0 (!w.params.followText "set-order")) where
  ob := ⟨_, ho, ⟨rfl, rfl, rfl⟩, rfl⟩
  rows := rfl
  tab := ⟨List.Pairwise.nil, rfl, rfl, .inl rfl, fun x hx => (by cases hx), fun i h j hi => (by simp at hi)⟩
  nd := List.nodup_nil
  tup := fun p hp => (by cases hp)
  m7 := rfl
  few := Nat.zero_le _
end
theorem mute_str (P : Program) (w : World) : Mute (PySem.strKind P w) where
  cls := fun k v n h => by
    obtain ⟨t, e⟩ := Value.isStrOf_shape (x := k) (v := v) h
    subst e
    cases n <;> rfl
  hsh := fun k v n h => by
    obtain ⟨t, e⟩ := Value.isStrOf_shape (x := k) (v := v) h
    subst e
    exact ⟨false, by cases n <;> rfl⟩
end Mk
end
section
set_option Elab.async false
set_option linter.all false
set_option maxRecDepth 100000
set_option maxHeartbeats 4000000
namespace Mk
open PySem PySem.Spec PyProof.Rows L2

theorem dedup_map {α β : Type} [DecidableEq α] [DecidableEq β] {f : α → β} (inj : ∀ x y, f x = f y → x = y) : ∀ l : List α, dedup (l.map f) = (dedup l).map f
  | [] => rfl
  | x :: r => by
    rw [List.map_cons, dedup, dedup, List.map_cons, dedup_map inj r, List.filter_map]
    congr 2
    refine List.filter_congr fun y _ => ?_
    by_cases h : y = x
    · subst h; simp
    · have : f y ≠ f x := fun e => h (inj _ _ e)
      simp [h, this]
theorem take_snoc {α : Type} {l : List α} {i : Nat} {x : α} (h : l[i]? = some x) : l.take (i + 1) = l.take i ++ [x] := by rw [List.take_add_one, h]; rfl

/-- what len(set(xs)) is asked for -/
theorem lens_texts {X : Cx} {pins : List (Addr × Obj)} {σ : L2.St} {H : Hp} {s : Shared} {a : Addr} {ts : List Str} {Q : VK} (hc : X.calm = true) (I : Inv X pins σ H s) (hs : SqL X.K H a (ts.map V.str)) (hl : ts.length ≤ 1000) (q : Q (.int (cntD ts : Nat)) H) :
    wpAny (model X.prog X.w) X.A (call (.type "set") [.ref a]) (fun v s' => wpAny (model X.prog X.w) X.A (call (.builtin "len") [v]) (EP X pins σ Q) X.xe s') X.xe s := by
  obtain ⟨its, rv, pl, hz⟩ := I.list hs
  have hn : its.length = ts.length := by rw [← rv.length, List.length_map]
  have hv : ∀ (i : Nat) (v : Value), its.toArray[i]? = some v → ∃ x t, ts[i]? = some x ∧ v = .str x t := fun i v e => by
    have e1 : its[i]? = some v := by simpa using e
    obtain ⟨y, h1, h2⟩ := DX.pget (F := fun x v => RelV x v) rv e1
    rw [List.getElem?_map] at h1
    cases e2 : ts[i]? with
    | none => rw [e2] at h1; cases h1
    | some x =>
      rw [e2] at h1
      cases h1
      obtain ⟨t, h2⟩ := h2
      exact ⟨x, t, rfl, h2⟩
  refine set_of_list (I.ok.hd hc) pl.isList (fun i h => h.SetOf (PySem.strKind X.prog X.w) s.heap.objs.size (fun k => decide (k ∈ ts.take i)) (cntD (ts.take i))) ?_ ?_ ?_ ?_
  · intro h' ho _
    exact ⟨_, #[], 0, _, ho, ⟨rfl, rfl, rfl⟩, rfl, fun e he => by simp at he, fun k => by simp, by unfold scanBound; decide, rfl, rfl⟩
  · intro i h h' ⟨o, es, ep, t, ho, r⟩ hk
    exact ⟨o, es, ep, t, hk _ _ (Nat.ne_of_lt (Nat.lt_succ_self _)) ho, r⟩
  · intro i v s' Q' E' e hJ k
    obtain ⟨x, t, h1, rfl⟩ := hv i v e
    have hi : i < ts.length := (List.getElem?_eq_some_iff.mp h1).1
    unfold setAdd
    refine wpAny_holding (wpAny_bind ((PySem.strKind X.prog X.w).pyHash (k := x) (strKind_is _ _ _ _) ?_))
    refine wpAny_setAddHashed_of (knd := PySem.strKind X.prog X.w) (s := { s' with toks := s'.toks + 1 }) (strKind_is _ _ _ _) rfl hJ ?_ fun h' hsb hS2 => ?_
    · have h2 := cntD_le (ts.take i)
      rw [List.length_take] at h2
      unfold scanBound
      omega
    · refine k _ h' _ ?_ fun c o hc e => (hsb.2 c hc).trans e
      rw [take_snoc h1, cntD_snoc]
      obtain ⟨o, es, ep, tb, ho, hx, hd, he, hm, hb, hf, hn⟩ := hS2
      refine ⟨o, es, ep, tb, ho, hx, hd, he, fun z => ?_, hb, hf, ?_⟩
      · rw [← hm z]
        simp [List.mem_append]
      · rw [hn]
        simp
  · intro h' tk hJ hk
    have e0 : its.toArray.size = ts.length := by rw [List.size_toArray, hn]
    rw [e0, List.take_length] at hJ
    obtain ⟨o, es, ep, tb, ho, hx, hd, he, hm, hb, hf, hn'⟩ := hJ
    have I2 : Inv X pins σ H { s with heap := h', toks := tk } := I.kept hk
    have h3 := cntD_le ts
    refine call_len_set ho hx hd hf (by rw [hn']; omega) ⟨.int (cntD ts : Nat), H, I2.tok _, ⟨_, by rw [hn']⟩, q⟩
theorem lens_pairs {X : Cx} {T : List (Addr × Str)} {pins : List (Addr × Obj)} {σ : L2.St} {Z H : Hp} {s : Shared} {a : Addr} {vs : List V} {ks : List (List (List Nat))} {Q : VK} (hc : X.calm = true) (hu : X.A.units + 65 < cLine) (I : Inv X pins σ H s) (g : Good T Z H)
    (hs : SqL X.K H a vs) (hp : Paired (fun v k => PF Z v k false) vs ks) (hl : ks.length ≤ 4) (q : Q (.int (cntD ks : Nat)) H) :
    wpAny (model X.prog X.w) X.A (call (.type "set") [.ref a]) (fun v s' => wpAny (model X.prog X.w) X.A (call (.builtin "len") [v]) (EP X pins σ Q) X.xe s') X.xe s := by
  obtain ⟨its, rv, pl, hz⟩ := I.list hs
  have hn : its.length = ks.length := by rw [← rv.length, Paired.length hp]
  let f : List (List Nat) → List Str := fun k => k.map toS
  have finj : ∀ x y, f x = f y → x = y := by
    intro x
    induction x with
    | nil => intro y h; cases y with
      | nil => rfl
      | cons _ _ => cases h
    | cons a r ih => intro y h; cases y with
      | nil => cases h
      | cons b t =>
        have h1 : toS a :: r.map toS = toS b :: t.map toS := h
        injection h1 with h1 h2
        rw [toS_inj h1, ih t h2]
  have hv : ∀ (i : Nat) (v : Value), its.toArray[i]? = some v → ∃ b k, ks[i]? = some k ∧ v = .ref b ∧ IsTupleKey (PySem.strKind X.prog X.w) s.heap (f k) b := fun i v e => by
    have e1 : its[i]? = some v := by simpa using e
    obtain ⟨y, h1, h2⟩ := DX.pget (F := fun x v => RelV x v) rv e1
    obtain ⟨k, h3, h4⟩ := paired_get hp h1
    obtain ⟨t, x, z, rfl, ⟨_, hZ, _⟩, rfl, _⟩ := h4
    obtain rfl : v = Value.ref t := h2
    obtain ⟨its2, rv2, ⟨o, ho, hcl, n, hd⟩, _⟩ := I.tuple (show SqT X.K H t _ from .inl (.inr ⟨_, g.sub _ _ hZ⟩))
    obtain ⟨u1, u2, rfl, ⟨t1, rfl⟩, ⟨t2, rfl⟩⟩ := vals2 rv2
    exact ⟨t, [x, z], h3, rfl, o, _, n, ho, hcl, hd, .cons (strKind_is _ _ _ _) (.cons (strKind_is _ _ _ _) .nil)⟩
  refine set_of_list (I.ok.hd hc) pl.isList (fun i h => (∀ b o, b < s.heap.objs.size → s.heap.get? b = some o → h.get? b = some o) ∧ ∃ L es ep t, TSet (PySem.strKind X.prog X.w) h s.heap.objs.size L es ep t ∧ L.length = cntD (ks.take i) ∧ (∀ z, z ∈ L.map (·.2) ↔ z ∈ (ks.take i).map f) ∧ ∀ p ∈ L, p.1 < s.heap.objs.size) ?_ ?_ ?_ ?_
  · intro h' ho hk
    exact ⟨fun b o _ e => hk b o e, [], _, _, _, TSet.new ho, rfl, fun z => by simp, fun _ h => by cases h⟩
  · intro i h h' ⟨hk0, L, es, ep, t, R, h1, h2, h3⟩ hk
    obtain ⟨o, ho, r⟩ := R.ob
    exact ⟨fun b o hb e => hk _ _ (Nat.ne_of_lt (Nat.lt_succ_of_lt hb)) (hk0 b o hb e), L, es, ep, t, ⟨⟨o, hk _ _ (Nat.ne_of_lt (Nat.lt_succ_self _)) ho, r⟩, R.rows, R.tab, R.nd, fun p hp => keeps_key (R.tup p hp) fun o e => hk _ o (Nat.ne_of_lt (Nat.lt_succ_of_lt (h3 p hp))) e, R.m7, R.few⟩, h1, h2, h3⟩
  · intro i v s' Q' E' e ⟨hk0, L, es, ep, t, R, h1, h2, h3⟩ k
    obtain ⟨b, z, e1, rfl, hx⟩ := hv i v e
    have hi : i < ks.length := (List.getElem?_eq_some_iff.mp e1).1
    have hb : b < s.heap.objs.size := by obtain ⟨o, _, _, ho, _⟩ := hx; exact Heap.lt_size ho
    have hx' : IsTupleKey (PySem.strKind X.prog X.w) s'.heap (f z) b := keeps_key hx fun o e => hk0 b o hb e
    have hu' : X.A.in1.in1.in1.units < cLine := by show X.A.units + 1 + 1 + 1 < cLine; omega
    have hf : L.length < 4 := by
      have h5 := cntD_le (ks.take i)
      rw [List.length_take] at h5
      omega
    have hmem : f z ∈ L.map (·.2) ↔ z ∈ ks.take i := by
      rw [h2]
      constructor
      · intro h
        obtain ⟨y, h6, h7⟩ := List.mem_map.mp h
        rw [← finj _ _ h7]
        exact h6
      · exact fun h => List.mem_map.mpr ⟨z, h, rfl⟩
    unfold setAdd
    refine wpAny_holding (wpAny_bind (wpAny_pyHash_tuple hu' hx' ?_))
    refine put_tuple (mute_str X.prog X.w) (s := { s' with toks := s'.toks + ((f z).length + 1) }) R hx' hu' hf fun r h' L' es' ep' t' keep R' l1 l2 l3 => ?_
    refine k r h' _ ⟨fun c o hc e => keep c o (Nat.ne_of_lt hc) (hk0 c o hc e), L', es', ep', t', R', ?_, fun y => ?_, fun p hp => ?_⟩ keep
    · rw [l1, take_snoc e1, cntD_snoc, h1]
      by_cases c : z ∈ ks.take i
      · rw [if_pos c, if_pos (hmem.mpr c)]
      · rw [if_neg c, if_neg (fun h => c (hmem.mp h))]
    · rw [l2, h2, take_snoc e1, List.map_append, List.mem_append]
      constructor
      · exact fun h => h.elim (fun h => .inr (by rw [h]; exact List.mem_singleton.mpr rfl)) .inl
      · exact fun h => h.elim .inr (fun h => .inl (List.mem_singleton.mp h))
    · rcases l3 p hp with e | h
      · rw [e]; exact hb
      · exact h3 p h
  · intro h' tk ⟨_, L, es, ep, t, R, h1, _, _⟩ hk
    have e0 : its.toArray.size = ks.length := by rw [List.size_toArray, hn]
    rw [e0, List.take_length] at h1
    obtain ⟨o, ho, hx, hd⟩ := R.ob
    have I2 : Inv X pins σ H { s with heap := h', toks := tk } := I.kept hk
    have h3 := R.few
    refine call_len_set ho hx hd R.fits (by rw [R.size]; omega) ⟨.int (cntD ks : Nat), H, I2.tok _, ⟨_, by rw [R.size, h1]⟩, q⟩
end Mk
end
section
set_option Elab.async false
set_option linter.all false
set_option maxRecDepth 100000
set_option maxHeartbeats 4000000
namespace Mk
open PySem PySem.Spec PyProof.Rows L2

theorem call_dictT {X : Cx} (hcalm : X.calm = true) : CallR X (.type "dict") (fun xs H Q => ∃ (a : Addr) (ob : Obj) (ps : List Addr) (kvs : List (Key × V)), xs = [.ref a] ∧ H a = some (.frz ob (.tup (ps.map V.ref))) ∧ ob.dict = none ∧ Paired (fun p kv => SqT X.K H p [kV kv.1, kv.2]) ps kvs ∧
    ∀ p, H p = none → Q (.ref p) (upd H p (.dK (mergeK [] kvs)))) := by
  intro pins s σ H xs us Q I r q
  obtain ⟨a, ob, ps, kvs, ex, hq, hdn, hp, q⟩ := q
  subst ex
  obtain rfl := Vals.ref1 r
  obtain ⟨hget, hz, its, rv, ⟨o', ho', hc', n', hd'⟩⟩ := I.hok a _ hq
  rw [hget] at ho'
  cases ho'
  have ei := refs_at rv
  subst ei
  rw [List.length_map] at hz
  obtain ⟨prs, rel, hl, hpr⟩ := pairs_of I hp
  let vps : List (Value × Value) := (List.range prs.length).map fun j => match ps[j]?, prs[j]? with
    | some b, some q => ((match s.heap.get? b with | some o => (match o.data with | .seq it _ => (it.getD 0 .none) | _ => .none) | none => .none), q.2)
    | _, _ => (.none, .none)
  have vlen : vps.length = prs.length := by simp [vps]
  have vat : ∀ (j : Nat) (k v : Value), vps[j]? = some (k, v) → ∃ (b : Addr) (q : Key × Value), ps[j]? = some b ∧ prs[j]? = some q ∧ v = q.2 ∧ IsTup s.heap b #[k, q.2] ∧ keyIs q.1 k = true := by
    intro j k v e
    have hj : j < prs.length := by
      have := (List.getElem?_eq_some_iff.mp e).1
      rw [vlen] at this; exact this
    obtain ⟨b, u, e1, ⟨o, g1, g2, n, g3⟩, e3⟩ := hpr j prs[j] (List.getElem?_eq_getElem hj)
    have : vps[j]? = some (u, prs[j].2) := by
      simp only [vps, List.getElem?_map, List.getElem?_range hj, Option.map_some, e1, List.getElem?_eq_getElem hj, g1, g3]
      rfl
    rw [this] at e
    cases e
    exact ⟨b, prs[j], e1, List.getElem?_eq_getElem hj, rfl, ⟨o, g1, g2, n, g3⟩, e3⟩
  have ok : PlainSeq "tuple" s.heap a (ps.map Value.ref).toArray ∧ PairItems s.heap (ps.map Value.ref).toArray (fun j => ps.getD j 0) vps := by
    refine ⟨⟨_, _, hget, hc', hdn, hd'⟩, by simp [vlen, hl], fun j k v e => ?_⟩
    obtain ⟨b, q, e1, e2, rfl, e4, _⟩ := vat j k v e
    refine ⟨by simp [e1], .inl ?_⟩
    have : ps.getD j 0 = b := by rw [List.getD_eq_getElem?_getD, e1]; rfl
    show s.heap.IsTuple (ps.getD j 0) _
    rw [this]
    exact e4
  refine PySem.call_dict_pairs (knd := mixKind X.prog X.w) (kvs := prs) (PairArg.tuple a (ps.map Value.ref).toArray (fun j => ps.getD j 0) vps) (I.ok.hd hcalm) ok ⟨vlen.symm, fun i key v e => ?_⟩ (by rw [vlen, hl]; exact hz) fun h' tk hd' k => ?_
  · obtain ⟨b, q, e1, e2, rfl, e4, e5⟩ := vat i key v e
    exact ⟨q.1, e2, e5⟩
  · have k' : ∀ b o, s.heap.get? b = some o → h'.get? b = some o := fun b o e => k b o (by simp) e
    have hm : (s.heap.objs.size == sysModules) = false := beq_eq_false_iff_ne.mpr (Nat.ne_of_gt I.big)
    have hlen : (mergeK [] kvs).length ≤ sizeLine := by
      refine Nat.le_trans (length_mergeK kvs []) ?_
      rw [List.length_nil, Nat.zero_add, rel.length, hl]
      exact hz
    exact ⟨.ref s.heap.objs.size, upd H s.heap.objs.size (.dK (mergeK [] kvs)), I.laid (t' := tk) k' (Nat.le_refl _) (show ObjOk X.prog X.w _ _ _ (.dK (mergeK [] kvs)) from ⟨hlen, hm, merged [] prs, KV.merge rel .nil, hd'⟩), rfl, q _ (I.hok.fresh (Nat.le_refl _))⟩
end Mk
end
section
set_option Elab.async false
set_option linter.all false
set_option maxRecDepth 100000
set_option maxHeartbeats 4000000
namespace Mk
open PySem PySem.Spec PyProof.Rows L2

theorem bools_rep {K : PySem.W.Frag} {Z : Hp} : ∀ {ds : List D} {vs : List V} {bs : List Bool}, RepL K Z vs ds → bools ds = some bs → vs = bs.map V.bl
  | [], _, _, h, e => by cases h; cases e; rfl
  | d :: ds, _, bs, h, e => by
    cases h with
    | cons a b =>
      cases d <;> try (simp [bools] at e; done)
      rename_i c
      cases a
      cases q : bools ds with
      | none => simp [bools, q] at e
      | some cs =>
        simp [bools, q] at e
        subst e
        rw [List.map_cons, bools_rep b q]
theorem strs_rep {K : PySem.W.Frag} {Z : Hp} : ∀ {ds : List D} {vs : List V} {xs : List (List Nat)}, RepL K Z vs ds → txts ds = some xs → vs = (xs.map toS).map V.str ∧ ∀ x ∈ xs, x.length < LIM ∧ okS x = true
  | [], _, _, h, e => by cases h; cases e; exact ⟨rfl, fun _ h => by cases h⟩
  | d :: ds, _, bs, h, e => by
    cases h with
    | cons a b =>
      cases d <;> try (simp [txts] at e; done)
      rename_i c
      cases a with
      | str a1 a2 =>
        cases q : txts ds with
        | none => simp [txts, q] at e
        | some cs =>
          simp [txts, q] at e
          subst e
          obtain ⟨h1, h2⟩ := strs_rep b q
          refine ⟨by rw [List.map_cons, List.map_cons, h1], fun x hx => ?_⟩
          rcases List.mem_cons.mp hx with rfl | hx
          · exact ⟨a1, a2⟩
          · exact h2 x hx
theorem repL_strs {K : PySem.W.Frag} {Z : Hp} : ∀ {xs : List (List Nat)}, (∀ x ∈ xs, x.length < LIM ∧ okS x = true) → RepL K Z ((xs.map toS).map V.str) (xs.map D.str)
  | [], _ => .nil
  | x :: xs, h => .cons (.str (h x List.mem_cons_self).1 (h x List.mem_cons_self).2) (repL_strs fun y hy => h y (List.mem_cons_of_mem _ hy))

theorem insS_perm (x : List Nat) : ∀ l, (insS x l).Perm (x :: l)
  | [] => .refl _
  | y :: r => by
    rw [insS]
    split
    · exact .refl _
    · exact (List.Perm.cons y (insS_perm x r)).trans (.swap x y r)
theorem sortS_perm : ∀ l, (sortS l).Perm l
  | [] => .refl _
  | x :: r => (insS_perm x (sortS r)).trans ((sortS_perm r).cons x)
abbrev Asc (l : List (List Nat)) : Prop := l.Pairwise fun a b => ltS b a = false
theorem insS_asc (x : List Nat) : ∀ {l}, Asc l → Asc (insS x l)
  | [], _ => .cons (fun _ h => by cases h) .nil
  | y :: r, h => by
    rw [insS]
    have h1 : ∀ b ∈ r, ltS b y = false := (List.pairwise_cons.mp h).1
    split
    · rename_i hx
      refine .cons (fun b hb => ?_) h
      rcases List.mem_cons.mp hb with rfl | hb
      · exact ltS_tot hx
      · exact ltS_trans (ltS_tot hx) (h1 b hb)
    · rename_i hx
      refine .cons (fun b hb => ?_) (insS_asc x (List.pairwise_cons.mp h).2)
      rcases List.mem_cons.mp ((insS_perm x r).mem_iff.mp hb) with rfl | hb
      · simpa using hx
      · exact h1 b hb
theorem sortS_asc : ∀ l, Asc (sortS l)
  | [] => .nil
  | x :: r => insS_asc x (sortS_asc r)
theorem asc_unique : ∀ {l m : List (List Nat)}, l.Perm m → Asc l → Asc m → l = m
  | [], m, p, _, _ => (List.Perm.nil_eq p)
  | x :: r, [], p, _, _ => absurd p.symm (by simp)
  | x :: r, y :: s, p, h1, h2 => by
    have e : x = y := by
      have hx : x ∈ y :: s := p.mem_iff.mp List.mem_cons_self
      have hy : y ∈ x :: r := p.mem_iff.mpr List.mem_cons_self
      rcases List.mem_cons.mp hx with e | hx
      · exact e
      · rcases List.mem_cons.mp hy with e | hy
        · exact e.symm
        · exact ltS_cmp x y ((List.pairwise_cons.mp h2).1 x hx) ((List.pairwise_cons.mp h1).1 y hy)
    subst e
    rw [asc_unique (List.Perm.cons_inv p) (List.pairwise_cons.mp h1).2 (List.pairwise_cons.mp h2).2]
theorem ltCps_eq : ∀ a b : List Nat, ltCps a b = ltS a b := by
  intro a b
  induction a generalizing b with
  | nil => cases b <;> rfl
  | cons x s ih =>
    cases b with
    | nil => rfl
    | cons y t =>
      rw [ltS]
      unfold ltCps
      by_cases h : x = y
      · subst h; simp [ih]
      · rw [if_neg h]
        first | (simp [h]; done) | (simp [h]; omega) | (by_cases h2 : x < y <;> simp [h, h2] <;> omega)
theorem rising_asc : ∀ (ys : List Str) (p : Str), risingS p ys = true → Asc ((p :: ys).map fun z => z.cps.toList)
  | [], p, _ => .cons (fun _ h => by cases h) .nil
  | x :: r, p, h => by
    rw [risingS, Bool.and_eq_true] at h
    have ih := rising_asc r x h.2
    have hx : ltS x.cps.toList p.cps.toList = false := by rw [← ltCps_eq]; simpa using h.1
    refine .cons (fun b hb => ?_) ih
    rcases List.mem_cons.mp hb with rfl | hb
    · exact hx
    · exact ltS_trans hx ((List.pairwise_cons.mp ih).1 b hb)
theorem sortedS_asc : ∀ {ys : List Str}, sortedS ys = true → Asc (ys.map fun z => z.cps.toList)
  | [], _ => .nil
  | p :: r, h => rising_asc r p h
theorem map_toS_inv (ys : List Str) : (ys.map fun z => z.cps.toList).map toS = ys := by
  rw [List.map_map]
  conv => rhs; rw [← List.map_id ys]
  exact List.map_congr_left fun z _ => toS_of z
theorem map_toS_list (xs : List (List Nat)) : ((xs.map toS).map fun z => z.cps.toList) = xs := by
  rw [List.map_map]
  conv => rhs; rw [← List.map_id xs]
  exact List.map_congr_left fun z _ => toS_list z

inductive BK where
  | fn (id : String)
  | ty (t : String)
def bltName : Blt → Str
  | .len => "len" | .all => "all" | .any => "any" | .lenset => "len" | .dict => "dict" | .tuple => "tuple" | .list => "list" | .sorted => "sorted" | .int => "int" | .min => "min" | .max => "max" | .ord => "ord" | .sitems => "sorted"
def bltVal : Blt → Value
  | .len => .builtin "len" | .all => .builtin "all" | .any => .builtin "any" | .lenset => .builtin "len" | .dict => .type "dict" | .tuple => .type "tuple" | .list => .type "list" | .sorted => .builtin "sorted"
  | .int => .type "int" | .min => .builtin "min" | .max => .builtin "max" | .ord => .builtin "ord" | .sitems => .builtin "sorted"
def rBlt (L : Law) (b : Blt) : List V → Hp → VK → Prop := fun xs H Q => ∃ Z dxs d, Good L.T Z H ∧ RelLM L.K Z H xs dxs ∧ bltD b dxs = .ok d ∧ Fin L Z H d Q
where RelLM (K : PySem.W.Frag) (Z H : Hp) : List V → List D → Prop
  | [], [] => True
  | v :: vs, d :: ds => RepM true K Z H v d ∧ RelLM K Z H vs ds
  | _, _ => False
abbrev RepLM := rBlt.RelLM
theorem lm1 {K : PySem.W.Frag} {Z H : Hp} {xs : List V} {d : D} (h : RepLM K Z H xs [d]) : ∃ x, xs = [x] ∧ RepM true K Z H x d := by
  cases xs with
  | nil => exact h.elim
  | cons x r => cases r with
    | nil => exact ⟨x, rfl, h.1⟩
    | cons y s => exact h.2.elim
theorem lm2 {K : PySem.W.Frag} {Z H : Hp} {xs : List V} {d e : D} (h : RepLM K Z H xs [d, e]) : ∃ x y, xs = [x, y] ∧ RepM true K Z H x d ∧ RepM true K Z H y e := by
  cases xs with
  | nil => exact h.elim
  | cons x r =>
    obtain ⟨y, rfl, h2⟩ := lm1 (xs := r) (d := e) h.2
    exact ⟨x, y, rfl, h.1, h2⟩
theorem call_blt {X : Cx} {L : Law} (hK : L.K = X.K) (hc : X.calm = true) (hu : X.A.units + 65 < cLine) (b : Blt) (hb : b ≠ .lenset) (hb2 : b ≠ .sitems) : CallR X (bltVal b) (rBlt L b) := by
  intro pins s σ H xs us Q I r ⟨Z, dxs, d, g, hx, e, q⟩
  unfold bltD at e
  split at e
  · cases e
    obtain ⟨x, rfl, kx⟩ := lm1 hx
    obtain ⟨a, xs, rfl, za, st, len, rl⟩ := rep_tup g kx
    rw [hK] at st
    exact call_len_seq pins s σ H _ us Q I r ⟨_, _, rfl, .inr st, by rw [rl.length]; exact q.int g⟩
  · cases e
    obtain ⟨x, rfl, kx⟩ := lm1 hx
    obtain ⟨a, xs, rfl, st, len, rl⟩ := rep_lst g kx
    exact call_len_seq pins s σ H _ us Q I r ⟨_, _, rfl, .inl (.of st), by rw [rl.length]; exact q.int g⟩
  · cases e
    obtain ⟨x, rfl, kx⟩ := lm1 hx
    obtain ⟨a, rfl, st, len⟩ := rep_scr g kx
    rw [hK] at st
    exact call_len_seq pins s σ H _ us Q I r ⟨_, _, rfl, .inl st, by rw [List.length_map]; exact q.int g⟩
  · cases e
    obtain ⟨x, rfl, kx⟩ := lm1 hx
    obtain ⟨rfl, l, o⟩ := rep_str kx
    exact call_len_str pins s σ H _ us Q I r ⟨_, rfl, by rw [toS_len]; exact lim_line (Nat.le_of_lt l), by rw [toS_len]; exact q.int g⟩
  · cases e
    obtain ⟨x, rfl, kx⟩ := lm1 hx
    obtain ⟨a, kvs, rfl, rd, len, rk⟩ := rep_dct g kx
    rw [Vals.ref1 r]
    refine d_len I rd fun t s' I' => ⟨.int kvs.length, H, I', ⟨t, rfl⟩, ?_⟩
    rw [rk.lengthK.1]; exact q.int g
  · obtain ⟨bs, e1, rfl⟩ := opt_some e
    obtain ⟨x, rfl, kx⟩ := lm1 hx
    obtain ⟨a, xs, rfl, st, len, rl⟩ := rep_lst g kx
    rw [bools_rep rl e1] at st
    exact cr_all hc pins s σ H _ us Q I r ⟨_, _, rfl, .of st, q.bl g⟩
  · obtain ⟨bs, e1, rfl⟩ := opt_some e
    obtain ⟨x, rfl, kx⟩ := lm1 hx
    obtain ⟨a, xs, rfl, st, len, rl⟩ := rep_lst g kx
    rw [bools_rep rl e1] at st
    exact cr_any hc pins s σ H _ us Q I r ⟨_, _, rfl, .of st, q.bl g⟩
  · exact absurd rfl hb
  · cases e
    obtain ⟨x, rfl, kx⟩ := lm1 hx
    obtain ⟨a, kvs, rfl, rd, len, rk⟩ := rep_dct g kx
    exact call_dictD pins s σ H _ us Q I r ⟨_, _, rfl, rd, q.dct g len rk⟩
  · obtain ⟨d', e1, rfl⟩ := opt_some e
    obtain ⟨x, rfl, kx⟩ := lm1 hx
    obtain ⟨a, xs, rfl, st, len, rl⟩ := rep_lst g kx
    obtain ⟨ps, kvs, ks', es', h1, h2, rfl, h4, h5⟩ := dict_pairs (H := H) g rl .nil e1
    rw [h1] at st
    rw [hK] at h2
    refine call_dictP hc pins s σ H _ us Q I r ⟨a, ps, kvs, rfl, .of st, h2, q.dct g ?_ h4⟩
    simp only [List.length_nil] at h5
    omega
  · obtain ⟨d', e1, rfl⟩ := opt_some e
    obtain ⟨x, rfl, kx⟩ := lm1 hx
    obtain ⟨a, xs, rfl, ⟨ob, z1, z2⟩, st, len, rl⟩ := rep_tup g kx
    obtain ⟨ps, kvs, ks', es', h1, h2, rfl, h4, h5⟩ := dict_pairs (H := H) g rl .nil e1
    have st2 := g.sub _ _ z1
    rw [h1] at st2
    rw [hK] at h2
    refine call_dictT hc pins s σ H _ us Q I r ⟨a, ob, ps, kvs, rfl, st2, z2, h2, q.dct g ?_ h4⟩
    simp only [List.length_nil] at h5
    omega
  · cases e
    obtain ⟨x, rfl, kx⟩ := lm1 hx
    obtain ⟨a, xs, rfl, st, len, rl⟩ := rep_lst g kx
    exact call_tupleP pins s σ H _ us Q I r ⟨_, _, rfl, .inl ⟨.of st, q.tup g len rl⟩⟩
  · cases e
    obtain ⟨x, rfl, kx⟩ := lm1 hx
    obtain ⟨a, xs, rfl, za, st, len, rl⟩ := rep_tup g kx
    rw [hK] at st
    obtain ⟨_, z1, z2⟩ := za
    exact call_tupleP pins s σ H _ us Q I r ⟨_, _, rfl, .inr ⟨st, q.val g (.tup z1 z2 len rl)⟩⟩
  · cases e
    obtain ⟨x, rfl, kx⟩ := lm1 hx
    obtain ⟨a, xs, rfl, st, len, rl⟩ := rep_lst g kx
    exact call_list_of pins s σ H _ us Q I r ⟨_, _, rfl, .inl (.of st), q.lst g len rl⟩
  · cases e
    obtain ⟨x, rfl, kx⟩ := lm1 hx
    obtain ⟨a, xs, rfl, za, st, len, rl⟩ := rep_tup g kx
    rw [hK] at st
    exact call_list_of pins s σ H _ us Q I r ⟨_, _, rfl, .inr st, q.lst g len rl⟩
  · split at e
    · rename_i ds xs e1
      split at e <;> cases e
      rename_i h64
      obtain ⟨x, rfl, kx⟩ := lm1 hx
      obtain ⟨a, vs, rfl, st, len, rl⟩ := rep_lst g kx
      obtain ⟨e2, ok⟩ := strs_rep rl e1
      rw [e2] at st
      refine cr_sortedS pins s σ H _ us Q I r ⟨_, _, rfl, .of st, by rw [List.length_map]; exact h64, fun ys p pm so np => ?_⟩
      have e3 : (ys.map fun z => z.cps.toList) = sortS xs := asc_unique (((pm.map _).trans (by rw [map_toS_list])).trans (sortS_perm xs).symm) (sortedS_asc so) (sortS_asc xs)
      have e4 : ys = (sortS xs).map toS := by rw [← e3, map_toS_inv]
      have ok' : ∀ x ∈ sortS xs, x.length < LIM ∧ okS x = true := fun x hx => ok x ((sortS_perm xs).mem_iff.mp hx)
      rw [e4]
      exact q.lst g (by rw [List.length_map, List.length_map, (sortS_perm xs).length_eq]; unfold LIM; omega) (repL_strs ok') p np
    · split at e
      · rename_i ks e1
        cases e
        obtain ⟨x, rfl, kx⟩ := lm1 hx
        obtain ⟨a, vs, rfl, st, len, rl⟩ := rep_lst g kx
        exact sort_rows (n := false) hK hu I r g st len rl e1 q
      · split at e
        · rename_i ks e1
          cases e
          obtain ⟨x, rfl, kx⟩ := lm1 hx
          obtain ⟨a, vs, rfl, st, len, rl⟩ := rep_lst g kx
          exact sort_rows (n := true) hK hu I r g st len rl e1 q
        · cases e
  · split at e <;> cases e
    rename_i ks _ h64
    obtain ⟨x, rfl, kx⟩ := lm1 hx
    obtain ⟨a, kvs, rfl, rd, len, rk⟩ := rep_dct g kx
    obtain ⟨h1, ok⟩ := keys_rep rk
    refine call_sortedD hc pins s σ H _ us Q I r ⟨_, _, _, rfl, rd, h1, by rw [List.length_map]; exact h64, fun ys p pm so np => ?_⟩
    have e3 : (ys.map fun z => z.cps.toList) = sortS ks := asc_unique (((pm.map _).trans (by rw [map_toS_list])).trans (sortS_perm ks).symm) (sortedS_asc so) (sortS_asc ks)
    have e4 : ys = (sortS ks).map toS := by rw [← e3, map_toS_inv]
    have ok' : ∀ x ∈ sortS ks, x.length < LIM ∧ okS x = true := fun x hx => ok x ((sortS_perm ks).mem_iff.mp hx)
    rw [e4]
    exact q.lst g (by rw [List.length_map, List.length_map, (sortS_perm ks).length_eq]; unfold LIM; omega) (repL_strs ok') p np
  · exact absurd rfl hb2
  · cases e
    obtain ⟨x, rfl, kx⟩ := lm1 hx
    cases rep_bl kx
    exact call_int1 pins s σ H _ us Q I r (.inr ⟨_, rfl, q.int g⟩)
  · cases e
    obtain ⟨x, rfl, kx⟩ := lm1 hx
    cases rep_int kx
    exact call_int1 pins s σ H _ us Q I r (.inl ⟨_, rfl, q.int g⟩)
  · cases e
    obtain ⟨x, y, rfl, kx, ky⟩ := lm2 hx
    cases rep_int kx; cases rep_int ky
    exact call_min2 hc pins s σ H _ us Q I r ⟨_, _, rfl, q.int g⟩
  · cases e
    obtain ⟨x, y, rfl, kx, ky⟩ := lm2 hx
    cases rep_int kx; cases rep_int ky
    exact call_max2 hc pins s σ H _ us Q I r ⟨_, _, rfl, q.int g⟩
  · cases e
    obtain ⟨x, rfl, kx⟩ := lm1 hx
    obtain ⟨rfl, l, o⟩ := rep_str kx
    exact call_ord pins s σ H _ us Q I r ⟨_, rfl, by rw [toS_len]; rfl, q.int g⟩
  · cases e

theorem spl_splitOn (c : Nat) : ∀ (l acc : List Nat), TL.spl [c] 0 acc l = splitOn c acc l
  | [], acc => by rw [TL.spl_nil, splitOn]
  | x :: r, acc => by
    rw [splitOn]
    by_cases h : x = c
    · subst h
      rw [TL.spl_hit (by simp [TL.pre]), if_pos rfl]
      show acc :: TL.spl [x] 0 [] r = _
      rw [spl_splitOn x r []]
    · rw [TL.spl_miss (by simp [TL.pre, h]), if_neg h, spl_splitOn c r]
theorem split_toS {x : List Nat} {c : Nat} (hc : c < 256) : Txt.split (toS x) (toS [c]) = (splitOn c [] x).map toS := by
  have h := TL.split_spl (toS x) (toS [c]) (by simp [TL.tl, toS]) (TL.kind_ok (by simp [toS, hc]))
  have e1 : TL.tl (toS [c]) = [c] := by simp [TL.tl, toS]
  have e2 : TL.tl (toS x) = x := by simp [TL.tl, toS]
  rw [e1, e2, spl_splitOn] at h
  rw [← h]
  exact (map_toS_inv _).symm
theorem splitOn_mem {c : Nat} : ∀ {l acc p : List Nat}, p ∈ splitOn c acc l → p.length ≤ acc.length + l.length ∧ ∀ z ∈ p, z ∈ acc ∨ z ∈ l
  | [], acc, p, h => by
    rw [splitOn] at h
    cases List.mem_singleton.mp h
    exact ⟨by simp, fun z hz => .inl hz⟩
  | x :: r, acc, p, h => by
    rw [splitOn] at h
    split at h
    · rcases List.mem_cons.mp h with rfl | h
      · exact ⟨by omega, fun z hz => .inl hz⟩
      · obtain ⟨h1, h2⟩ := splitOn_mem h
        refine ⟨by simp at h1 ⊢; omega, fun z hz => ?_⟩
        rcases h2 z hz with q | q
        · cases q
        · exact .inr (List.mem_cons_of_mem _ q)
    · obtain ⟨h1, h2⟩ := splitOn_mem h
      refine ⟨by simp at h1 ⊢; omega, fun z hz => ?_⟩
      rcases h2 z hz with q | q
      · rcases List.mem_append.mp q with q | q
        · exact .inl q
        · cases List.mem_singleton.mp q; exact .inr List.mem_cons_self
      · exact .inr (List.mem_cons_of_mem _ q)
theorem splitOn_len {c : Nat} : ∀ (l acc : List Nat), (splitOn c acc l).length ≤ l.length + 1
  | [], acc => by simp [splitOn]
  | x :: r, acc => by
    rw [splitOn]
    split
    · have := splitOn_len (c := c) r []; simp; omega
    · have := splitOn_len (c := c) r (acc ++ [x]); simp; omega
theorem join_toS (s : List Nat) : ∀ xs : List (List Nat), Txt.join (toS s) (xs.map toS) = toS (joinS s xs) := by
  intro xs
  rw [TL.join_eq]
  have h := TL.tl_join (toS s) (xs.map toS)
  have e : ∀ ys : List (List Nat), TL.joinL s ys = joinS s ys := by
    intro ys
    induction ys with
    | nil => rfl
    | cons y r ih => cases r with
      | nil => rfl
      | cons z t => simp only [TL.joinL, joinS, ih]
  have e1 : TL.tl (toS s) = s := by simp [TL.tl, toS]
  have e2 : (xs.map toS).map TL.tl = xs := map_toS_list xs
  rw [e1, e2, e] at h
  rw [← h]
  exact (toS_of _).symm
theorem joinS_len (s : List Nat) : ∀ xs : List (List Nat), (joinS s xs).length ≤ sumLen xs + s.length * xs.length
  | [] => by simp [joinS]
  | [x] => by simp [joinS, sumLen]
  | x :: y :: r => by
    have := joinS_len s (y :: r)
    simp only [joinS, sumLen, List.length_append, List.length_cons, Nat.mul_add, Nat.mul_one] at this ⊢
    omega
theorem joinS_ok {s : List Nat} (hs : okS s = true) : ∀ {xs : List (List Nat)}, (∀ x ∈ xs, okS x = true) → okS (joinS s xs) = true
  | [], _ => rfl
  | [x], h => h x List.mem_cons_self
  | x :: y :: r, h => by
    have := joinS_ok hs (xs := y :: r) fun z hz => h z (List.mem_cons_of_mem _ hz)
    simp only [joinS]
    exact okS_append (h x List.mem_cons_self) (okS_append hs this)
theorem sumLen_map (xs : List (List Nat)) : ((xs.map toS).map fun z => z.length).sum = sumLen xs := by
  induction xs with
  | nil => rfl
  | cons x r ih => simp only [List.map_cons, List.sum_cons, sumLen, ih, toS_len]
end Mk
end
section
set_option Elab.async false
set_option linter.all false
set_option maxRecDepth 100000
set_option maxHeartbeats 4000000
namespace Mk
open PySem PySem.Spec PyProof.Rows L2

/-- values side by side -/
def RelL (pk : Bool) (K : PySem.W.Frag) (Z H : Hp) : List V → List D → Prop
  | [], [] => True
  | v :: vs, d :: ds => RepM pk K Z H v d ∧ RelL pk K Z H vs ds
  | _, _ => False
theorem RelL.ext {pk : Bool} {K : PySem.W.Frag} {Z H Z' H' : Hp} (x : Ext Z H Z' H') : ∀ {vs : List V} {ds : List D}, RelL pk K Z H vs ds → RelL pk K Z' H' vs ds
  | [], [], _ => trivial
  | _ :: _, _ :: _, h => ⟨h.1.ext x, RelL.ext x h.2⟩
  | [], _ :: _, h => h.elim
  | _ :: _, [], h => h.elim
theorem RelL.val {K : PySem.W.Frag} {Z H : Hp} : ∀ {vs : List V} {ds : List D}, RelL false K Z H vs ds → RepL K Z vs ds
  | [], [], _ => .nil
  | _ :: _, _ :: _, h => .cons h.1.val (RelL.val h.2)
  | [], _ :: _, h => h.elim
  | _ :: _, [], h => h.elim
theorem RelL.lm {K : PySem.W.Frag} {Z H : Hp} : ∀ {vs : List V} {ds : List D}, RelL true K Z H vs ds → RepLM K Z H vs ds
  | [], [], _ => trivial
  | _ :: _, _ :: _, h => ⟨h.1, RelL.lm h.2⟩
  | [], _ :: _, h => h.elim
  | _ :: _, [], h => h.elim
theorem RelL.one {pk : Bool} {K : PySem.W.Frag} {Z H : Hp} {vs : List V} {d : D} (h : RelL pk K Z H vs [d]) : ∃ v, vs = [v] ∧ RepM pk K Z H v d := by
  cases vs with
  | nil => exact h.elim
  | cons v r => cases r with
    | nil => exact ⟨v, rfl, h.1⟩
    | cons _ _ => exact h.2.elim
theorem RelL.two {pk : Bool} {K : PySem.W.Frag} {Z H : Hp} {vs : List V} {d e : D} (h : RelL pk K Z H vs [d, e]) : ∃ v u, vs = [v, u] ∧ RepM pk K Z H v d ∧ RepM pk K Z H u e := by
  cases vs with
  | nil => exact h.elim
  | cons v r =>
    obtain ⟨u, rfl, h2⟩ := RelL.one h.2
    exact ⟨v, u, rfl, h.1, h2⟩
theorem RelL.len {pk : Bool} {K : PySem.W.Frag} {Z H : Hp} : ∀ {vs : List V} {ds : List D}, RelL pk K Z H vs ds → vs.length = ds.length
  | [], [], _ => rfl
  | _ :: _, _ :: _, h => by simp [RelL.len h.2]
  | [], _ :: _, h => h.elim
  | _ :: _, [], h => h.elim
def relA (pk : Bool) (K : PySem.W.Frag) : Hp → Hp → Hp → List V → List D → Prop := fun _ Z H vs ds => RelL pk K Z H vs ds
def relB : Hp → Hp → Hp → Bool → Bool → Prop := fun _ _ _ a b => a = b
theorem grows_a (pk : Bool) (K : PySem.W.Frag) : Grows (relA pk K) := fun _ _ _ _ _ _ _ h => h
theorem grows_b : Grows relB := fun _ _ _ _ _ _ _ h => h
def tA (L : Law) (W : XK) (pk : Bool) (m : List Slot → R (List D)) : TA := fun σ H Q => ∃ Z r, Good L.T Z H ∧ EnvW L.K Z H σ r ∧ Got L W Z H (m r) (relA pk L.K) Q
def tT (L : Law) (W : XK) (m : List Slot → R Bool) : TT := fun σ H Q => ∃ Z r, Good L.T Z H ∧ EnvW L.K Z H σ r ∧ Got L W Z H (m r) relB Q
theorem PA.mono {X : Cx} {e : List Expr} {t u : TA} (h : PA X e t) (q : ∀ σ H Q, u σ H Q → t σ H Q) : PA X e u := ⟨fun pos pins s σ H Q I hw => h.run pos pins s σ H Q I (q σ H Q hw)⟩

section
variable {L : Law} {W : XK} {Z H : Hp} {α γ : Type} {rel : Hp → Hp → Hp → γ → α → Prop} {Q : γ → Hp → Prop}
/-- an evaluation that refuses nothing -/
theorem Got.of {x : R α} (h : Got L W Z H x rel Q) (n : ∀ e, x ≠ .ex e) : ∃ d, x = .ok d ∧ ∀ v H' Z', Good L.T Z' H' → Ext Z H Z' H' → rel H Z' H' v d → Q v H' := by
  cases x with
  | ok d => exact ⟨d, rfl, h⟩
  | ex e => exact absurd rfl (n e)
  | no => exact h.elim
theorem Got.now {d : α} {v : γ} (h : Got L W Z H (.ok d) rel Q) (g : Good L.T Z H) (r : rel H Z H v d) : Q v H := h v H Z g (Ext.refl Z H) r
end
theorem opt_ex {α β : Type} (f : α → β) (o : Option α) (e : Ex) : opt f o ≠ .ex e := by cases o <;> simp [opt]
theorem binD_ex (op : Bop) (a b : D) (e : Ex) : binD op a b ≠ .ex e := by intro h; unfold binD at h; repeat' (first | (split at h) | (exact opt_ex _ _ _ h) | cases h)
theorem cmpD_ex (op : Cop) (a b : D) (e : Ex) : cmpD op a b ≠ .ex e := by intro h; unfold cmpD at h; repeat' (first | (split at h) | (exact opt_ex _ _ _ h) | cases h)
theorem idxD_ex (a b : D) (e : Ex) : idxD a b ≠ .ex e := by unfold idxD; split <;> first | exact opt_ex _ _ _ | simp
theorem slcD_ex (a : D) (l h : Option Int) (e : Ex) : slcD a l h ≠ .ex e := by unfold slcD; split <;> simp
theorem bltD_ex (b : Blt) (a : List D) (e : Ex) : bltD b a ≠ .ex e := by intro h; unfold bltD at h; repeat' (first | (split at h) | (exact opt_ex _ _ _ h) | cases h)
theorem mthD_ex (b : Mth) (o : D) (a : List D) (e : Ex) : mthD b o a ≠ .ex e := by intro h; unfold mthD at h; repeat' (first | (split at h) | (exact opt_ex _ _ _ h) | cases h)
theorem truth_ex (a : D) (e : Ex) : truth a ≠ .ex e := by unfold truth; split <;> simp
theorem part1_ex (a : List D) (e : Ex) : part1 a ≠ .ex e := by unfold part1; split <;> simp
theorem srcD_ex (k : Sk) (a : List D) (e : Ex) : srcD k a ≠ .ex e := by intro h; unfold srcD at h; repeat' (first | (split at h) | (exact opt_ex _ _ _ h) | cases h)

section
variable {L : Law} {W : XK} {X : Cx} {pos : Pos}

theorem d_var {i : Nat} {x : Str} (pk : Bool) (hN : X.N[i]? = some x) (hv : Vis X.env.scope x) (hd : (x == ("__debug__" : Str)) = false) (hcd : (x == ("__classdict__" : Str)) = false)
    {m : List Slot → R D} (hm : ∀ r, m r = match r[i]? with | some (.val d) => .ok d | some (.own d) => if pk then .ok d else .no | _ => .no) : PE X (.Name x pos) (tE L W pk m) := by
  refine PE.mono (pe_var hN hv hd hcd) fun σ H Q ⟨Z, r, g, e, q⟩ => ?_
  have k := e.2 i
  rw [hm] at q
  split at q
  · rename_i d h
    rw [h] at k
    obtain ⟨v, h1, h2⟩ := k
    exact ⟨v, h1, q.now g (.inl h2)⟩
  · rename_i d h
    rw [h] at k
    obtain ⟨p, h1, h2, h3⟩ := k
    cases pk with
    | true => exact ⟨_, h1, q.now g (.inr ⟨rfl, p, rfl, h2, h3⟩)⟩
    | false => exact q.elim
  · exact q.elim
/-- a written constant, or one of the module -/
theorem d_kst {e : Expr} {d : D} {v : V} (pk : Bool) (h : PE X e (tC v)) (r : ∀ Z, Rep L.K Z v d) {m : List Slot → R D} (hm : ∀ r, m r = .ok d) : PE X e (tE L W pk m) := by
  refine PE.mono h fun σ H Q ⟨Z, r', g, e, q⟩ => ?_
  rw [hm] at q
  exact q.now g (.inl (r Z))
theorem d_nil {pk : Bool} {m : List Slot → R (List D)} (hm : ∀ r, m r = .ok []) : PA X [] (tA L W pk m) := by
  refine PA.mono pa_nil fun σ H Q ⟨Z, r', g, e, q⟩ => ?_
  rw [hm] at q
  exact q.now g trivial
theorem d_cons {e : Expr} {es : List Expr} {pk : Bool} {m : List Slot → R D} {ms : List Slot → R (List D)} (h1 : PE X e (tE L W pk m)) (h2 : PA X es (tA L W pk ms))
    (hs : starEach (e :: es) X.env = (false, eval e X.env) :: starEach es X.env) : PA X (e :: es) (tA L W pk fun r => do let d ← m r; let ds ← ms r; .ok (d :: ds)) := by
  refine PA.mono (pa_cons h1 h2 hs) fun σ H Q ⟨Z, r, g, e, q⟩ => ⟨Z, r, g, e, (q.bind (rel := relV pk L.K) (grows_a _ _)).mono fun v H1 ⟨Z1, d, _, g1, x1, rv, q1⟩ => ?_⟩
  refine ⟨Z1, r, g1, e.ext x1, (q1.bind (rel := relA pk L.K) (grows_a _ _)).mono fun vs H2 ⟨Z2, ds, _, g2, x2, rs, q2⟩ => ?_⟩
  exact q2.now g2 ⟨rv.ext x2, rs⟩
theorem d_tup {es : List Expr} {k : Nat} {ms : List Slot → R (List D)} (h : PA X es (tA L W false ms)) (hl : ∀ r ds, ms r = .ok ds → ds.length ≤ LIM) : PE X (.Tuple es k pos) (tF L W fun r => do let ds ← ms r; .ok (.tup ds)) := by
  refine PE.mono (pe_tupP h) fun σ H Q ⟨Z, r, g, e, q⟩ => ⟨Z, r, g, e, (q.bind (rel := relA false L.K) (grows_f _)).mono fun vs H1 ⟨Z1, ds, e1, g1, x1, rv, q1⟩ => ?_⟩
  have l := hl r ds e1
  have l2 := rv.len
  exact ⟨lim_line (by omega), Fin.tup (L := L) q1 g1 (by omega) rv.val⟩
theorem d_lst {es : List Expr} {ms : List Slot → R (List D)} (h : PA X es (tA L W false ms)) (hl : ∀ r ds, ms r = .ok ds → ds.length ≤ LIM) : PE X (.List es pos) (tF L W fun r => do let ds ← ms r; .ok (.lst ds)) := by
  refine PE.mono (pe_lst h) fun σ H Q ⟨Z, r, g, e, q⟩ => ⟨Z, r, g, e, (q.bind (rel := relA false L.K) (grows_f _)).mono fun vs H1 ⟨Z1, ds, e1, g1, x1, rv, q1⟩ => ?_⟩
  have l := hl r ds e1
  have l2 := rv.len
  exact ⟨lim_line (by omega), Fin.lst (L := L) q1 g1 (by omega) rv.val⟩
theorem d_dnew {m : List Slot → R D} (hm : ∀ r, m r = .ok (.dct [] [])) : PE X (.Dict [] [] pos) (tF L W m) := by
  refine PE.mono pe_dnewK fun σ H Q ⟨Z, r, g, e, q⟩ => ?_
  rw [hm] at q
  exact Fin.dct (L := L) q g (Nat.zero_le _) .nil

variable {a b c : Expr} {ma mb mc : List Slot → R D}
theorem d_bin (hK : L.K = X.K) (op : Bop) (ha : PE X a (tE L W true ma)) (hb : PE X b (tE L W true mb)) : PE X (.BinOp a (bopPy op) b pos) (tF L W fun r => do let x ← ma r; let y ← mb r; binD op x y) := by
  refine PE.mono (pe_op (opr_bin hK op) ha hb) fun σ H Q ⟨Z, r, g, e, q⟩ => ⟨Z, r, g, e, (q.bind (rel := relV true L.K) (grows_f _)).mono fun x H1 ⟨Z1, dx, _, g1, x1, rx, q1⟩ => ?_⟩
  refine ⟨Z1, r, g1, e.ext x1, (q1.bind (rel := relV true L.K) (grows_f _)).mono fun y H2 ⟨Z2, dy, _, g2, x2, ry, q2⟩ => ?_⟩
  obtain ⟨d, e2, q2⟩ := q2.of (binD_ex _ _ _)
  exact ⟨Z2, dx, dy, d, g2, rx.ext x2, ry, e2, q2⟩
theorem d_neg (ha : PE X a (tE L W false ma)) : PE X (.UnaryOp .USub a pos) (tF L W fun r => do match ← ma r with | .int i => .ok (.int (-i)) | _ => .no) := by
  refine PE.mono (pe_un un_neg ha) fun σ H Q ⟨Z, r, g, e, q⟩ => ⟨Z, r, g, e, (q.bind (rel := relV false L.K) (grows_f _)).mono fun x H1 ⟨Z1, dx, _, g1, x1, rx, q1⟩ => ?_⟩
  cases dx <;> try exact q1.elim
  exact ⟨_, rep_int rx, Fin.int (L := L) q1 g1⟩
/-- the comparison's own step, by values -/
theorem fin_bool {op : Cop} {dx dy d : D} (h : cmpD op dx dy = .ok d) : ∃ k, d = .bl k := by
  unfold cmpD at h
  repeat' split at h
  all_goals (first | (cases h; exact ⟨_, rfl⟩) | cases h)
theorem d_cmp (hK : L.K = X.K) (hu : X.A.units + 65 < cLine) (op : Cop) (ha : PE X a (tE L W true ma)) (hb : PE X b (tE L W true mb)) (hm : behindInMarks (copPy op) b = false) :
    PE X (.Compare a [copPy op] [b] pos) (tF L W fun r => do let x ← ma r; let y ← mb r; cmpD op x y) := by
  refine PE.mono (pe_cmpR (opr_cmp hK hu op) ha hb hm) fun σ H Q ⟨Z, r, g, e, q⟩ => ⟨Z, r, g, e, (q.bind (rel := relV true L.K) (grows_f _)).mono fun x H1 ⟨Z1, dx, _, g1, x1, rx, q1⟩ => ?_⟩
  refine ⟨Z1, r, g1, e.ext x1, (q1.bind (rel := relV true L.K) (grows_f _)).mono fun y H2 ⟨Z2, dy, _, g2, x2, ry, q2⟩ => ?_⟩
  obtain ⟨d, e2, q2⟩ := q2.of (cmpD_ex _ _ _)
  exact ⟨Z2, dx, dy, d, g2, rx.ext x2, ry, e2, q2⟩
theorem d_cmpT (hK : L.K = X.K) (hu : X.A.units + 65 < cLine) (op : Cop) (ha : PE X a (tE L W true ma)) (hb : PE X b (tE L W true mb)) (hm : behindInMarks (copPy op) b = false) :
    PT X (.Compare a [copPy op] [b] pos) (tT L W fun r => do let x ← ma r; let y ← mb r; let z ← cmpD op x y; truth z) := by
  refine PT.mono (pt_cmpR (opr_cmp hK hu op) ha hb hm) fun σ H Q ⟨Z, r, g, e, q⟩ => ⟨Z, r, g, e, (q.bind (rel := relV true L.K) grows_b).mono fun x H1 ⟨Z1, dx, _, g1, x1, rx, q1⟩ => ?_⟩
  refine ⟨Z1, r, g1, e.ext x1, (q1.bind (rel := relV true L.K) grows_b).mono fun y H2 ⟨Z2, dy, _, g2, x2, ry, q2⟩ => ?_⟩
  obtain ⟨d, e2, _⟩ := (q2.bind (rel := relF L.K) grows_b).of (cmpD_ex _ _ _)
  rw [e2] at q2
  obtain ⟨k, rfl⟩ := fin_bool e2
  refine ⟨Z2, dx, dy, _, g2, rx.ext x2, ry, e2, fun v H' Z' g' x' md => ?_⟩
  have hv : v = .bl k := rep_bl (pk := false) (H := H') (.inl (by unfold Made at md; rw [if_neg (by simp [isMut])] at md; exact md))
  exact ⟨k, hv, q2 k H' Z' g' x' rfl⟩
theorem d_chain (hK : L.K = X.K) (hu : X.A.units + 65 < cLine) (op op' : Cop) (ha : PE X a (tE L W true ma)) (hb : PE X b (tE L W true mb)) (hc : PE X c (tE L W true mc)) {e : Expr}
    (rule : PE X e (tChain (rCmp L op) (rCmp L op') (tE L W true ma) (tE L W true mb) (tE L W true mc))) :
    PE X e (tF L W fun r => do let x ← ma r; let y ← mb r; let z ← cmpD op x y; match ← truth z with | true => do { let w ← mc r; cmpD op' y w } | false => .ok (.bl false)) := by
  refine PE.mono rule fun σ H Q ⟨Z, r, g, e, q⟩ => ⟨Z, r, g, e, (q.bind (rel := relV true L.K) (grows_f _)).mono fun x H1 ⟨Z1, dx, _, g1, x1, rx, q1⟩ => ?_⟩
  refine ⟨Z1, r, g1, e.ext x1, (q1.bind (rel := relV true L.K) (grows_f _)).mono fun y H2 ⟨Z2, dy, _, g2, x2, ry, q2⟩ => ?_⟩
  obtain ⟨d, e2, _⟩ := (q2.bind (rel := relF L.K) (grows_f _)).of (cmpD_ex _ _ _)
  rw [e2] at q2
  obtain ⟨k, rfl⟩ := fin_bool e2
  refine ⟨Z2, dx, dy, _, g2, rx.ext x2, ry, e2, fun v H3 Z3 g3 x3 md => ?_⟩
  have hv : v = .bl k := rep_bl (pk := false) (H := H3) (.inl (by unfold Made at md; rw [if_neg (by simp [isMut])] at md; exact md))
  refine ⟨k, hv, ?_⟩
  cases k with
  | true =>
    rw [if_pos rfl]
    have q3 : Got L W Z3 H3 (mc r >>= fun w => cmpD op' dy w) (relF L.K) Q := Got.weak (grows_f _) q2 x3
    refine ⟨Z3, r, g3, ((e.ext x1).ext x2).ext x3, (q3.bind (rel := relV true L.K) (grows_f _)).mono fun w H4 ⟨Z4, dw, _, g4, x4, rw', q4⟩ => ?_⟩
    obtain ⟨d, e4, q4⟩ := q4.of (cmpD_ex _ _ _)
    exact ⟨Z4, dy, dw, d, g4, (ry.ext x3).ext x4, rw', e4, q4⟩
  | false =>
    rw [if_neg (by decide)]
    exact Fin.bl (L := L) (Got.weak (x := R.ok (D.bl false)) (grows_f _) q2 x3) g3
theorem truth_bl {d : D} {b : Bool} (h : truth d = .ok b) : d = .bl b := by
  unfold truth at h
  split at h <;> cases h; rfl
theorem d_and {rest : List Expr} (ha : PE X a (tE L W false ma)) (hb : PE X (.BoolOp .And (b :: rest) pos) (tE L W false mb)) :
    PE X (.BoolOp .And (a :: b :: rest) pos) (tE L W false fun r => do match ← truth (← ma r) with | true => mb r | false => .ok (.bl false)) := by
  refine PE.mono (pe_and ha hb) fun σ H Q ⟨Z, r, g, e, q⟩ => ⟨Z, r, g, e, (q.bind (rel := relV false L.K) (grows_v _ _)).mono fun x H1 ⟨Z1, dx, _, g1, x1, rx, q1⟩ => ?_⟩
  obtain ⟨k, e1, _⟩ := (q1.bind (rel := relB) (grows_v _ _)).of (truth_ex _)
  rw [e1] at q1
  cases truth_bl e1
  refine ⟨k, rep_bl rx, ?_⟩
  cases k with
  | true => rw [if_pos rfl]; exact ⟨Z1, r, g1, e.ext x1, q1⟩
  | false => rw [if_neg (by decide)]; exact q1.now g1 (.inl (.bl false))
theorem d_or {rest : List Expr} (ha : PE X a (tE L W false ma)) (hb : PE X (.BoolOp .Or (b :: rest) pos) (tE L W false mb)) :
    PE X (.BoolOp .Or (a :: b :: rest) pos) (tE L W false fun r => do match ← truth (← ma r) with | true => .ok (.bl true) | false => mb r) := by
  refine PE.mono (pe_or ha hb) fun σ H Q ⟨Z, r, g, e, q⟩ => ⟨Z, r, g, e, (q.bind (rel := relV false L.K) (grows_v _ _)).mono fun x H1 ⟨Z1, dx, _, g1, x1, rx, q1⟩ => ?_⟩
  obtain ⟨k, e1, _⟩ := (q1.bind (rel := relB) (grows_v _ _)).of (truth_ex _)
  rw [e1] at q1
  cases truth_bl e1
  refine ⟨k, rep_bl rx, ?_⟩
  cases k with
  | true => rw [if_pos rfl]; exact q1.now g1 (.inl (.bl true))
  | false => rw [if_neg (by decide)]; exact ⟨Z1, r, g1, e.ext x1, q1⟩
theorem d_not (ha : PE X a (tE L W false ma)) : PE X (.UnaryOp .Not a pos) (tE L W false fun r => do let x ← truth (← ma r); .ok (.bl (!x))) := by
  refine PE.mono (pe_not ha) fun σ H Q ⟨Z, r, g, e, q⟩ => ⟨Z, r, g, e, (q.bind (rel := relV false L.K) (grows_v _ _)).mono fun x H1 ⟨Z1, dx, _, g1, x1, rx, q1⟩ => ?_⟩
  obtain ⟨k, e1, _⟩ := (q1.bind (rel := relB) (grows_v _ _)).of (truth_ex _)
  rw [e1] at q1
  cases truth_bl e1
  exact ⟨k, rep_bl rx, q1.now g1 (.inl (.bl _))⟩
theorem d_idx (hK : L.K = X.K) (hu : X.A.units + 65 < cLine) (ha : PE X a (tE L W true ma)) (hb : PE X b (tE L W false mb)) (hs : PlainIx b) (pk : Bool) :
    PE X (.Subscript a b pos) (tE L W pk fun r => do let x ← ma r; let y ← mb r; idxD x y) := by
  refine PE.mono (pe_ix (ix_idx hK hu) ha hb hs) fun σ H Q ⟨Z, r, g, e, q⟩ => ⟨Z, r, g, e, (q.bind (rel := relV true L.K) (grows_v _ _)).mono fun x H1 ⟨Z1, dx, _, g1, x1, rx, q1⟩ => ?_⟩
  refine ⟨Z1, r, g1, e.ext x1, (q1.bind (rel := relV false L.K) (grows_v _ _)).mono fun y H2 ⟨Z2, dy, _, g2, x2, ry, q2⟩ => ?_⟩
  obtain ⟨d, e2, q2⟩ := q2.of (idxD_ex _ _)
  exact ⟨Z2, dx, dy, d, g2, rx.ext x2, ry, e2, fun v hv => q2 v H2 Z2 g2 (Ext.refl _ _) (.inl hv)⟩
end
end Mk
end
section
set_option Elab.async false
set_option linter.all false
set_option maxRecDepth 100000
set_option maxHeartbeats 4000000
namespace Mk
open PySem PySem.Spec PyProof.Rows L2

def relO : Hp → Hp → Hp → Option Int → Option Int → Prop := fun _ _ _ a b => a = b
theorem grows_o : Grows relO := fun _ _ _ _ _ _ _ h => h
def tO (L : Law) (W : XK) (m : List Slot → R (Option Int)) : TO := fun σ H Q => ∃ Z r, Good L.T Z H ∧ EnvW L.K Z H σ r ∧ Got L W Z H (m r) relO Q
theorem PO.mono {X : Cx} {e : Option Expr} {t u : TO} (h : PO X e t) (q : ∀ σ H Q, u σ H Q → t σ H Q) : PO X e u := ⟨fun pins s σ H Q I hw => h.run pins s σ H Q I (q σ H Q hw)⟩
/-- a def by an evaluation -/
def spOf (L : Law) (np : Nat) (f : List D → R D) : Sp := fun vs H Q E => vs.length = np ∧ ∃ Z ds, Good L.T Z H ∧ RepL L.K Z vs ds ∧ Got L E Z H (f ds) (relV false L.K) Q
/-- how the heap may turn while a thing is walked: told once for all, or not at all -/
def Gr : Bool → Hp → Hp → Hp → Hp → Prop
  | true, Z, H, Z', H' => Ext Z H Z' H'
  | false, Z, _, Z', _ => Le Z Z'
theorem Gr.le {pk : Bool} {Z H Z' H' : Hp} (x : Gr pk Z H Z' H') : Le Z Z' := by cases pk with | true => exact Ext.le x | false => exact x
/-- what a for walks: its items -/
def Src (pk : Bool) (L : Law) (J : It) (Z H : Hp) (items : List D) : Prop := ∃ G Y, Walk J items.length G Y ∧ (∀ Z' H', Good L.T Z' H' → Gr pk Z H Z' H' → G H') ∧
  ∀ i x H1 H2 Z1, i < items.length → Good L.T Z1 H1 → Gr pk Z H Z1 H1 → Y i H1 x H2 → ∃ Z2 d, items[i]? = some d ∧ Good L.T Z2 H2 ∧ Ext Z1 H1 Z2 H2 ∧ Rep L.K Z2 x d
def relI (pk : Bool) (L : Law) : Hp → Hp → Hp → It → List D → Prop := fun _ Z H J items => Src pk L J Z H items ∧ items.length ≤ LIM
theorem grows_i (pk : Bool) (L : Law) : Grows (relI pk L) := fun _ _ _ _ _ _ _ h => h
def tI (pk : Bool) (L : Law) (W : XK) (m : List Slot → R (List D)) : TI := fun σ H Q => ∃ Z r, Good L.T Z H ∧ EnvW L.K Z H σ r ∧ Got L W Z H (m r) (relI pk L) Q
theorem PI.mono {X : Cx} {tg e : Expr} {t u : TI} (h : PI X tg e t) (q : ∀ σ H Q, u σ H Q → t σ H Q) : PI X tg e u := ⟨fun pins s σ H Q I hw => h.run pins s σ H Q I (q σ H Q hw)⟩
theorem PI.or {X : Cx} {tg e : Expr} {t u : TI} (h : PI X tg e t) (h' : PI X tg e u) : PI X tg e (fun σ H Q => t σ H Q ∨ u σ H Q) :=
  ⟨fun pins s σ H Q I hw => hw.elim (h.run pins s σ H Q I) (h'.run pins s σ H Q I)⟩

section
variable {L : Law} {W : XK} {X : Cx} {pos : Pos} {a b c : Expr} {ma mb mc : List Slot → R D}
theorem d_po0 {m : List Slot → R (Option Int)} (hm : ∀ r, m r = .ok none) : PO X none (tO L W m) := by
  refine PO.mono po_none fun σ H Q ⟨Z, r, g, e, q⟩ => ?_
  rw [hm] at q
  exact q.now g rfl
theorem d_po1 (ha : PE X a (tE L W false ma)) {m : List Slot → R (Option Int)} (hm : ∀ r, m r = do { let d ← ma r; part1 [d] }) : PO X (some a) (tO L W m) := by
  refine PO.mono (po_some ha) fun σ H Q ⟨Z, r, g, e, q⟩ => ⟨Z, r, g, e, ?_⟩
  rw [hm] at q
  refine (q.bind (rel := relV false L.K) grows_o).mono fun x H1 ⟨Z1, dx, _, g1, x1, rx, q1⟩ => ?_
  cases dx <;> try exact q1.elim
  exact ⟨_, rep_int rx, q1.now g1 rfl⟩
theorem d_slc {lo hi : Option Expr} {p2 : Pos} {ml mh : List Slot → R (Option Int)} (hK : L.K = X.K) (ha : PE X a (tE L W true ma)) (hl : PO X lo (tO L W ml)) (hh : PO X hi (tO L W mh)) :
    PE X (.Subscript a (.Slice lo hi none p2) pos) (tF L W fun r => do let x ← ma r; let l ← ml r; let h ← mh r; slcD x l h) := by
  refine PE.mono (pe_slice (sl_slc hK) ha hl hh) fun σ H Q ⟨Z, r, g, e, q⟩ => ⟨Z, r, g, e, (q.bind (rel := relV true L.K) (grows_f _)).mono fun x H1 ⟨Z1, dx, _, g1, x1, rx, q1⟩ => ?_⟩
  refine ⟨Z1, r, g1, e.ext x1, (q1.bind (rel := relO) (grows_f _)).mono fun l H2 ⟨Z2, dl, _, g2, x2, rl, q2⟩ => ?_⟩
  refine ⟨Z2, r, g2, (e.ext x1).ext x2, (q2.bind (rel := relO) (grows_f _)).mono fun h H3 ⟨Z3, dh, _, g3, x3, rh, q3⟩ => ?_⟩
  obtain ⟨d, e3, q4⟩ := q3.of (slcD_ex _ _ _)
  cases rl; cases rh
  exact ⟨Z3, dx, d, g3, (rx.ext x2).ext x3, e3, q4⟩
/-- isinstance(a, T) -/
theorem d_isa {x y : Str} {p p2 : Pos} (hK : L.K = X.K) (t : Ty) (ha : PE X a (tE L W true ma)) (hs : starEach [a, .Name y p2] X.env = (false, eval a X.env) :: starEach [.Name y p2] X.env) (ex : x = "isinstance") (ey : y = Str.ofString (tyPy t)) (hg : Gl X x) (hm : X.mg x = none) (hgy : Gl X y) (hmy : X.mg y = none) (pk : Bool) :
    PE X (.Call (.Name x p) [a, .Name y p2] [] pos) (tE L W pk fun r => do match ← ma r with | .scr _ => .no | .dct _ _ => .no | .tpl _ => .no | z => .ok (.bl (isaD t z))) := by
  subst ex
  have hy : PE X (.Name y p2) (tC (.ty (tyPy t))) := by
    subst ey
    cases t
    · exact pe_bltn (u := .type "str") hgy hmy (by decide +kernel) rfl (by decide) (by decide)
    · exact pe_bltn (u := .type "tuple") hgy hmy (by decide +kernel) rfl (by decide) (by decide)
    · exact pe_bltn (u := .type "bool") hgy hmy (by decide +kernel) rfl (by decide) (by decide)
    · exact pe_bltn (u := .type "int") hgy hmy (by decide +kernel) rfl (by decide) (by decide)
    · exact pe_bltn (u := .type "list") hgy hmy (by decide +kernel) rfl (by decide) (by decide)
  refine PE.mono (pe_callB (call_isa hK t) hg hm PyProof.Rows.boot_isinstance (pa_cons ha (pa_cons hy pa_nil rfl) hs) (by decide) (by decide) hs rfl) fun σ H Q ⟨Z, r, g, e, q⟩ => ⟨Z, r, g, e, (q.bind (rel := relV true L.K) (grows_v _ _)).mono fun x H1 ⟨Z1, dx, _, g1, x1, rx, q1⟩ => ?_⟩
  refine ⟨Z1, dx, x, g1, rfl, rx, ?_, ?_⟩
  · cases dx <;> first | exact trivial | exact q1.elim
  · cases dx <;> first | exact q1.elim | exact q1.now g1 (.inl (.bl _))
/-- f(..), f a def of the text -/
theorem d_call {x : Str} {p : Pos} {e : Expr} {es : List Expr} {ms : List Slot → R (List D)} {n np : Nat} {f : Addr} {fd : FuncData} {ps : List Str} {fv : List D → R D} (Fk : FnOk X.prog X.w X.K X.mg X.base (L2.CX X.prog X.w) n f fd ps (spOf L np fv)) (hr : Room n X.A) (hg : Gl X x) (hm : X.mg x = some (.ref f))
    (hk : PySem.W.keepIn X.K (.ref f) = true) (hb : Binds X.K fd ps []) (tk : Takes X fun c d _ H => W c d H) (ha : PA X (e :: es) (tA L W false ms)) (hnp : ∀ ds, ds.length ≠ np → fv ds = .no) (hdb : (x == ("__debug__" : Str)) = false)
    (he : starEach (e :: es) X.env = (false, eval e X.env) :: starEach es X.env) (hpl : (backTo pos (starEach es X.env)).any (·.1) = false) (pk : Bool) :
    PE X (.Call (.Name x p) (e :: es) [] pos) (tE L W pk fun r => do let ds ← ms r; fv ds) := by
  refine PE.mono (pe_call (E := W) Fk hr hg hm hk hb .nil (passes_call tk fun _ _ _ _ h => h) ha hdb he hpl) fun σ H Q ⟨Z, r, g, e, q⟩ => ⟨Z, r, g, e, (q.bind (rel := relA false L.K) (grows_v pk L.K)).mono fun vs H1 ⟨Z1, ds, _, g1, x1, rs, q1⟩ => ?_⟩
  rw [List.append_nil]
  refine ⟨?_, Z1, ds, g1, rs.val, ?_⟩
  · rw [rs.len]
    refine Classical.byContradiction fun h => ?_
    rw [hnp ds h] at q1
    exact q1.elim
  · revert q1
    cases fv ds with
    | ok d => exact fun q1 v H' Z' g' x' rv => q1 v H' Z' g' x' (.inl rv.val)
    | ex e => exact fun q1 => q1
    | no => exact fun q1 => q1
theorem d_call0 {x : Str} {p : Pos} {n np : Nat} {f : Addr} {fd : FuncData} {ps : List Str} {fv : List D → R D} (Fk : FnOk X.prog X.w X.K X.mg X.base (L2.CX X.prog X.w) n f fd ps (spOf L np fv)) (hr : Room n X.A) (hg : Gl X x) (hm : X.mg x = some (.ref f))
    (hk : PySem.W.keepIn X.K (.ref f) = true) (hb : Binds X.K fd ps []) (tk : Takes X fun c d _ H => W c d H) (hnp : ∀ ds, ds.length ≠ np → fv ds = .no) (hdb : (x == ("__debug__" : Str)) = false) {m : List Slot → R D} (hm2 : ∀ r, m r = fv []) (pk : Bool) :
    PE X (.Call (.Name x p) [] [] pos) (tE L W pk m) := by
  refine PE.mono (pe_call0 (E := W) Fk hr hg hm hk hb .nil (passes_call tk fun _ _ _ _ h => h) hdb) fun σ H Q ⟨Z, r, g, e, q⟩ => ?_
  rw [hm2] at q
  refine ⟨?_, Z, [], g, .nil, ?_⟩
  · refine Classical.byContradiction fun h => ?_
    rw [hnp [] h] at q
    exact q.elim
  · revert q
    cases fv [] with
    | ok d => exact fun q1 v H' Z' g' x' rv => q1 v H' Z' g' x' (.inl rv.val)
    | ex e => exact fun q1 => q1
    | no => exact fun q1 => q1
/-- a built-in function -/
theorem d_blt {x : Str} {p : Pos} {e : Expr} {es : List Expr} {ms : List Slot → R (List D)} (hK : L.K = X.K) (hc : X.calm = true) (hu : X.A.units + 65 < cLine) (bl : Blt) (hbl : bl ≠ .lenset) (hbl2 : bl ≠ .sitems) (ex : x = bltName bl) (hg : Gl X x) (hm : X.mg x = none) (ha : PA X (e :: es) (tA L W true ms))
    (he : starEach (e :: es) X.env = (false, eval e X.env) :: starEach es X.env) (hpl : (backTo pos (starEach es X.env)).any (·.1) = false) :
    PE X (.Call (.Name x p) (e :: es) [] pos) (tF L W fun r => do let ds ← ms r; bltD bl ds) := by
  have fin : ∀ σ H Q, tF L W (fun r => do let ds ← ms r; bltD bl ds) σ H Q → tCB (rBlt L bl) (tA L W true ms) σ H Q := fun σ H Q ⟨Z, r, g, e, q⟩ => ⟨Z, r, g, e, (q.bind (rel := relA true L.K) (grows_f _)).mono fun vs H1 ⟨Z1, ds, _, g1, x1, rs, q1⟩ => by
    obtain ⟨d, e1, q1⟩ := q1.of (bltD_ex _ _)
    exact ⟨Z1, ds, d, g1, rs.lm, e1, q1⟩⟩
  have rule := call_blt hK hc hu bl hbl hbl2
  subst ex
  cases bl
  · exact PE.mono (pe_callB rule hg hm (by decide +kernel) ha (by decide) (by decide) he hpl) fin
  · exact PE.mono (pe_callB rule hg hm (by decide +kernel) ha (by decide) (by decide) he hpl) fin
  · exact PE.mono (pe_callB rule hg hm (by decide +kernel) ha (by decide) (by decide) he hpl) fin
  · exact absurd rfl hbl
  · exact PE.mono (pe_callTy rule hg hm (by decide +kernel) ha (by decide) (by decide) he hpl) fin
  · exact PE.mono (pe_callTy rule hg hm (by decide +kernel) ha (by decide) (by decide) he hpl) fin
  · exact PE.mono (pe_callTy rule hg hm (by decide +kernel) ha (by decide) (by decide) he hpl) fin
  · exact PE.mono (pe_callB rule hg hm (by decide +kernel) ha (by decide) (by decide) he hpl) fin
  · exact PE.mono (pe_callTy rule hg hm (by decide +kernel) ha (by decide) (by decide) he hpl) fin
  · exact PE.mono (pe_callB rule hg hm (by decide +kernel) ha (by decide) (by decide) he hpl) fin
  · exact PE.mono (pe_callB rule hg hm (by decide +kernel) ha (by decide) (by decide) he hpl) fin
  · exact PE.mono (pe_callB rule hg hm (by decide +kernel) ha (by decide) (by decide) he hpl) fin
  · exact absurd rfl hbl2
/-- what follows a receiver of the right kind -/
theorem mth_ok {Z H : Hp} {m : Mth} {dx : D} {y : R D} {rl : Hp → Hp → Hp → V → D → Prop} {Q : VK} (q : Got L W Z H (if mthOk m dx = true then y else .no) rl Q) : mthOk m dx = true ∧ Got L W Z H y rl Q := by
  by_cases h : mthOk m dx = true
  · rw [if_pos h] at q; exact ⟨h, q⟩
  · rw [if_neg h] at q; exact q.elim
theorem mthOk_split {d : D} (h : mthOk .split d = true) : ∃ z, d = .str z := by cases d <;> first | exact ⟨_, rfl⟩ | simp [mthOk] at h
theorem mthOk_join {d : D} (h : mthOk .join d = true) : ∃ z, d = .str z := by cases d <;> first | exact ⟨_, rfl⟩ | simp [mthOk] at h
theorem mthOk_get {d : D} (h : mthOk .get d = true) : ∃ ks vs, d = .dct ks vs := by cases d <;> first | exact ⟨_, _, rfl⟩ | simp [mthOk] at h
theorem mthD_split {z : List Nat} {ds : List D} {d : D} (h : mthD .split (.str z) ds = .ok d) : ∃ c, ds = [.str [c]] ∧ d = .lst ((splitOn c [] z).map .str) := by
  cases ds with
  | nil => cases h
  | cons d1 r =>
    cases r with
    | cons _ _ => revert h; cases d1 <;> simp [mthD]
    | nil =>
      cases d1 <;> try (cases h; done)
      rename_i y
      cases y with
      | nil => cases h
      | cons c t => cases t with
        | nil => cases h; exact ⟨c, rfl, rfl⟩
        | cons _ _ => cases h
theorem mthD_join {z : List Nat} {ds : List D} {d : D} (h : mthD .join (.str z) ds = .ok d) : ∃ es xs, ds = [.lst es] ∧ txts es = some xs ∧ sumLen xs + z.length * xs.length < LIM ∧ d = .str (joinS z xs) := by
  cases ds with
  | nil => cases h
  | cons d1 r =>
    cases r with
    | cons _ _ => cases d1 <;> cases h
    | nil =>
      cases d1 <;> try (cases h; done)
      rename_i es
      have h : (match txts es with | some xs => if sumLen xs + z.length * xs.length < LIM then R.ok (D.str (joinS z xs)) else .no | none => .no) = .ok d := h
      split at h
      · rename_i xs e
        split at h <;> cases h
        rename_i hl
        exact ⟨es, xs, rfl, e, hl, rfl⟩
      · cases h
theorem mthD_get {ks : List (List Nat)} {vs ds : List D} {d : D} (h : mthD .get (.dct ks vs) ds = .ok d) : ∃ k x, ds = [.str k, x] ∧ d = (look k ks vs).getD x := by
  cases ds with
  | nil => cases h
  | cons d1 r =>
    cases r with
    | nil => cases d1 <;> cases h
    | cons d2 r =>
      cases r with
      | cons _ _ => cases d1 <;> cases h
      | nil =>
        cases d1 <;> try (cases h; done)
        cases h
        exact ⟨_, _, rfl, rfl⟩
theorem d_split {e : Expr} {apos : Pos} {ms : List Slot → R (List D)} (ha : PE X a (tE L W true ma)) (he : PA X [e] (tA L W false ms)) (hbase : attributeBase a "split" X.env (eval a X.env) = eval a X.env)
    (hline : (apos.endLine == pos.line) = true) (hs : starEach [e] X.env = [(false, eval e X.env)]) (h256 : ∀ r ds, ms r = .ok ds → ∀ c, ds = [.str [c]] → c < 256) :
    PE X (.Call (.Attribute a "split" apos) [e] [] pos) (tF L W fun r => do let x ← ma r; if mthOk .split x = true then (do let ds ← ms r; mthD .split x ds) else .no) := by
  refine PE.mono (pe_bm PySem.F.plainAttrs_str PySem.F.slot_str_split PySem.F.type_str_split mt_split ha he hbase (by rw [hs]; rfl) hline (by rw [hs]; rfl) rfl) fun σ H Q ⟨Z, r, g, e, q⟩ =>
    ⟨Z, r, g, e, (q.bind (rel := relV true L.K) (grows_f _)).mono fun x H1 ⟨Z1, dx, _, g1, x1, rx, q1⟩ => ?_⟩
  obtain ⟨hok, q1⟩ := mth_ok q1
  obtain ⟨z, rfl⟩ := mthOk_split hok
  obtain ⟨rfl, l, o⟩ := rep_str rx
  refine ⟨rfl, Z1, r, g1, e.ext x1, (q1.bind (rel := relA false L.K) (grows_f _)).mono fun vs H2 ⟨Z2, ds, e2, g2, x2, rs, q2⟩ => ?_⟩
  obtain ⟨d, e3, q3⟩ := q2.of (mthD_ex _ _ _)
  obtain ⟨c, rfl, rfl⟩ := mthD_split e3
  obtain ⟨v, rfl, rv⟩ := rs.one
  obtain ⟨rfl, lc, oc⟩ := rep_str rv
  have hc := h256 r _ e2 c rfl
  have okp : ∀ p ∈ splitOn c [] z, p.length < LIM ∧ okS p = true := fun p hp => by
    obtain ⟨h1, h2⟩ := splitOn_mem hp
    refine ⟨by simp at h1; omega, ?_⟩
    unfold okS at o ⊢
    rw [List.all_eq_true] at *
    intro y hy
    rcases h2 y hy with k | k
    · cases k
    · exact o y k
  have hlen := splitOn_len (c := c) z []
  refine ⟨_, _, rfl, rfl, by simp [toS, Str.length], by rw [toS_len, sizeLine_eq]; unfold LIM at l; omega, fun p np => ?_⟩
  rw [split_toS hc]
  exact Fin.lst (L := L) q3 g2 (by rw [List.length_map, List.length_map]; omega) (repL_strs okp) p np
theorem d_join {e : Expr} {apos : Pos} {ms : List Slot → R (List D)} (ha : PE X a (tE L W true ma)) (he : PA X [e] (tA L W false ms)) (hbase : attributeBase a "join" X.env (eval a X.env) = eval a X.env)
    (hline : (apos.endLine == pos.line) = true) (hs : starEach [e] X.env = [(false, eval e X.env)]) :
    PE X (.Call (.Attribute a "join" apos) [e] [] pos) (tF L W fun r => do let x ← ma r; if mthOk .join x = true then (do let ds ← ms r; mthD .join x ds) else .no) := by
  refine PE.mono (pe_bm PySem.F.plainAttrs_str PySem.F.slot_str_join PySem.F.type_str_join mt_join ha he hbase (by rw [hs]; rfl) hline (by rw [hs]; rfl) rfl) fun σ H Q ⟨Z, r, g, e, q⟩ =>
    ⟨Z, r, g, e, (q.bind (rel := relV true L.K) (grows_f _)).mono fun x H1 ⟨Z1, dx, _, g1, x1, rx, q1⟩ => ?_⟩
  obtain ⟨hok, q1⟩ := mth_ok q1
  obtain ⟨z, rfl⟩ := mthOk_join hok
  obtain ⟨rfl, l, o⟩ := rep_str rx
  refine ⟨rfl, Z1, r, g1, e.ext x1, (q1.bind (rel := relA false L.K) (grows_f _)).mono fun vs H2 ⟨Z2, ds, e2, g2, x2, rs, q2⟩ => ?_⟩
  obtain ⟨d, e3, q3⟩ := q2.of (mthD_ex _ _ _)
  obtain ⟨es, xs, rfl, et, hl, rfl⟩ := mthD_join e3
  obtain ⟨v, rfl, rv⟩ := rs.one
  obtain ⟨p, vs, rfl, st, len, rl⟩ := rep_lst g2 rv
  obtain ⟨ev, okx⟩ := strs_rep rl et
  rw [ev] at st
  have hz : ((xs.map toS).map fun y => y.length).sum + (xs.map toS).length * (toS z).length ≤ 16777216 := by
    rw [sumLen_map, List.length_map, toS_len, Nat.mul_comm]
    unfold LIM at hl; omega
  refine ⟨_, _, _, rfl, rfl, .inl (.of st), hz, ?_⟩
  rw [join_toS]
  exact Fin.str (L := L) q3 g2 (Nat.lt_of_le_of_lt (joinS_len z xs) hl) (joinS_ok o fun x hx => (okx x hx).2)
theorem d_get {e f : Expr} {apos : Pos} {me mf : List Slot → R D} (hu : X.A.units + 65 < cLine) (ha : PE X a (tE L W true ma)) (he : PE X e (tE L W false me)) (hf : PE X f (tE L W false mf)) (hM : M2 X a "get" apos e f pos) (pk : Bool) :
    PE X (.Call (.Attribute a "get" apos) [e, f] [] pos) (tE L W pk fun r => do let x ← ma r; if mthOk .get x = true then (do let ds ← (do { let d1 ← me r; let ds ← (do { let d2 ← mf r; let ds ← (R.ok [] : R (List D)); R.ok (d2 :: ds) }); R.ok (d1 :: ds) }); mthD .get x ds) else .no) := by
  refine PE.mono (pe_dget2 (by omega) ha he hf hM) fun σ H Q ⟨Z, r, g, e, q⟩ =>
    ⟨Z, r, g, e, (q.bind (rel := relV true L.K) (grows_v _ _)).mono fun x H1 ⟨Z1, dx, _, g1, x1, rx, q1⟩ => ?_⟩
  obtain ⟨hok, q1⟩ := mth_ok q1
  obtain ⟨ks, vs, rfl⟩ := mthOk_get hok
  obtain ⟨p, kvs, rfl, rd, len, rk⟩ := rep_dct g1 rx
  refine ⟨p, rfl, .inl ⟨_, rd⟩, Z1, r, g1, e.ext x1, ?_⟩
  have q2 : Got L W Z1 H1 (me r >>= fun d1 => (mf r >>= fun d2 => mthD .get (.dct ks vs) [d1, d2])) (relV pk L.K) Q := by
    revert q1
    cases me r with
    | ok d1 => cases mf r with
      | ok d2 => exact fun h => h
      | ex e => exact fun h => h
      | no => exact fun h => h
    | ex e => exact fun h => h
    | no => exact fun h => h
  refine (q2.bind (rel := relV false L.K) (grows_v _ _)).mono fun y H2 ⟨Z2, d1, _, g2, x2, ry, q3⟩ => ?_
  refine ⟨Z2, r, g2, (e.ext x1).ext x2, (q3.bind (rel := relV false L.K) (grows_v _ _)).mono fun w H3 ⟨Z3, d2, _, g3, x3, rw', q4⟩ => ?_⟩
  obtain ⟨d, e4, q5⟩ := q4.of (mthD_ex _ _ _)
  obtain ⟨k, x, hh, rfl⟩ := mthD_get e4
  cases hh
  obtain ⟨rfl, lk, ok⟩ := rep_str ry
  obtain ⟨p', kvs', hp, rd', len', rk'⟩ := rep_dct g3 ((rx.ext x2).ext x3)
  cases hp
  refine ⟨_, dget_of (T := L.T) (K := L.K) (Z := Z3) rd', ?_⟩
  refine q5 _ H3 Z3 g3 (Ext.refl _ _) (.inl ?_)
  cases hl : look k ks vs with
  | none => rw [look_none rk' hl]; exact rw'.val
  | some d => obtain ⟨v, h1, h2⟩ := look_some rk' hl; rw [h1]; exact h2

theorem d_val (ha : PE X a (tE L W false ma)) (hw : ∀ whole, isTrue a X.env whole = (do let v ← whole; standAt a.pos; holding [v] (truthy v))) : PT X a (tT L W fun r => do let d ← ma r; truth d) := by
  refine PT.mono (pt_val ha hw) fun σ H Q ⟨Z, r, g, e, q⟩ => ⟨Z, r, g, e, (q.bind (rel := relV false L.K) grows_b).mono fun x H1 ⟨Z1, dx, _, g1, x1, rx, q1⟩ => ?_⟩
  obtain ⟨k, e1, q2⟩ := q1.of (truth_ex _)
  cases truth_bl e1
  exact ⟨k, rep_bl rx, q2 k H1 Z1 g1 (Ext.refl _ _) rfl⟩
theorem d_notT {m : List Slot → R Bool} (ha : PT X a (tT L W m)) : PT X (.UnaryOp .Not a pos) (tT L W fun r => do let x ← m r; .ok (!x)) := by
  refine PT.mono (pt_not ha) fun σ H Q ⟨Z, r, g, e, q⟩ => ⟨Z, r, g, e, (q.bind (rel := relB) grows_b).mono fun x H1 ⟨Z1, dx, _, g1, x1, rx, q1⟩ => ?_⟩
  cases rx
  exact q1.now g1 rfl
theorem pw_of {op : BoolOp} {vs : List Expr} {t : TT} (h : PT X (.BoolOp op vs pos) t) : PW X (.BoolOp op vs pos) t := ⟨fun _ pins s σ H Q I hw => h.run pins s σ H Q I hw⟩
theorem d_andT {rest : List Expr} {m m' : List Slot → R Bool} (ha : PT X a (tT L W m)) (hb : PT X (.BoolOp .And (b :: rest) pos) (tT L W m')) :
    PT X (.BoolOp .And (a :: b :: rest) pos) (tT L W fun r => do match ← m r with | true => m' r | false => .ok false) := by
  refine PT.mono (pw_and ha (pw_of hb)).pt fun σ H Q ⟨Z, r, g, e, q⟩ => ⟨Z, r, g, e, (q.bind (rel := relB) grows_b).mono fun x H1 ⟨Z1, dx, _, g1, x1, rx, q1⟩ => ?_⟩
  cases rx
  cases x with
  | true => rw [if_pos rfl]; exact ⟨Z1, r, g1, e.ext x1, q1⟩
  | false => rw [if_neg (by decide)]; exact q1.now g1 rfl
theorem d_orT {rest : List Expr} {m m' : List Slot → R Bool} (ha : PT X a (tT L W m)) (hb : PT X (.BoolOp .Or (b :: rest) pos) (tT L W m')) :
    PT X (.BoolOp .Or (a :: b :: rest) pos) (tT L W fun r => do match ← m r with | true => .ok true | false => m' r) := by
  refine PT.mono (pw_or ha (pw_of hb)).pt fun σ H Q ⟨Z, r, g, e, q⟩ => ⟨Z, r, g, e, (q.bind (rel := relB) grows_b).mono fun x H1 ⟨Z1, dx, _, g1, x1, rx, q1⟩ => ?_⟩
  cases rx
  cases x with
  | true => rw [if_pos rfl]; exact q1.now g1 rfl
  | false => rw [if_neg (by decide)]; exact ⟨Z1, r, g1, e.ext x1, q1⟩
end
end Mk
end
section
set_option Elab.async false
set_option linter.all false
set_option maxRecDepth 100000
set_option maxHeartbeats 4000000
namespace Mk
open PySem PySem.Spec PyProof.Rows L2

theorem lenset_of {d d' : D} (h : bltD .lenset [d] = .ok d') : ∃ ds, d = .lst ds ∧ ((∃ xs, txts ds = some xs ∧ xs.length ≤ 1000 ∧ d' = .int (dedup xs).length) ∨ ∃ ks, keysBy keyF ds = some ks ∧ ks.length ≤ 4 ∧ d' = .int (dedup ks).length) := by
  cases d <;> try (cases h; done)
  rename_i ds
  refine ⟨ds, rfl, ?_⟩
  have h : (match txts ds with
    | some xs => if xs.length ≤ 1000 then R.ok (D.int (dedup xs).length) else .no
    | none => match keysBy keyF ds with
      | some ks => if ks.length ≤ 4 then .ok (.int (dedup ks).length) else .no
      | none => .no) = .ok d' := h
  split at h
  · rename_i xs e
    split at h
    · rename_i hl; cases h; exact .inl ⟨xs, e, hl, rfl⟩
    · cases h
  · split at h
    · rename_i ks e
      split at h
      · rename_i hl; cases h; exact .inr ⟨ks, e, hl, rfl⟩
      · cases h
    · cases h
section
variable {L : Law} {W : XK} {X : Cx} {pos : Pos} {e : Expr} {me : List Slot → R D}
theorem d_lenset {p p2 q : Pos} (hK : L.K = X.K) (hc : X.calm = true) (hu : X.A.units + 65 < cLine) (hg : Gl X "len") (hm : X.mg "len" = none) (hg2 : Gl X "set") (hm2 : X.mg "set" = none) (ha : PE X e (tE L W true me))
    (na : starEach [e] X.env = (false, eval e X.env) :: starEach [] X.env) : PE X (.Call (.Name "len" p) [.Call (.Name "set" p2) [e] [] q] [] pos) (tF L W fun r => do let d ← me r; bltD .lenset [d]) := by
  refine ⟨fun pins s σ H Q I ⟨Z, r, g, en, gq⟩ => ?_⟩
  refine Call_ (ld_blt I hg hm PySem.boot_len ?_)
  refine PyProof.Rows.callWith_builtin1 (PyProof.Rows.args_cons ?_ rfl) rfl rfl
  refine Call_ (ld_blt I hg2 hm2 PyProof.Rows.boot_set ?_)
  refine PyProof.Rows.callWith_type1 (PyProof.Rows.args_cons (thn (ha.run pins s σ H _ I ⟨Z, r, g, en, (gq.bind (rel := relV true L.K) (grows_f _))⟩) fun v s1 ⟨x, H1, I1, r1, Z1, d, _, g1, x1, rv, q1⟩ => PyProof.Rows.args_nil ?_) na) na rfl
  obtain ⟨d', e1, q2⟩ := q1.of (bltD_ex _ _)
  obtain ⟨ds, rfl, h⟩ := lenset_of e1
  obtain ⟨a, vs, rfl, st, len, rl⟩ := rep_lst g1 rv
  cases r1
  rcases h with ⟨xs, e2, hl, rfl⟩ | ⟨ks, e2, hl, rfl⟩
  · obtain ⟨e3, _⟩ := strs_rep rl e2
    rw [e3] at st
    have ec : cntD (xs.map toS) = (dedup xs).length := by rw [cntD, dedup_map (fun _ _ => toS_inj), List.length_map]
    refine wpAny_mono (lens_texts hc I1 (.of st) (by rw [List.length_map]; exact hl) (by rw [ec]; exact Fin.int (L := L) q2 g1)) (fun v s' h => PyProof.Rows.args_nil h) fun _ _ h => h
  · exact wpAny_mono (lens_pairs hc hu I1 g1 (.of st) (pf_all (n := false) rl e2) hl (Fin.int (L := L) q2 g1)) (fun v s' h => PyProof.Rows.args_nil h) fun _ _ h => h
end
end Mk
end
section
set_option Elab.async false
set_option linter.all false
set_option maxRecDepth 100000
set_option maxHeartbeats 4000000
namespace Mk
open PySem PySem.Spec PyProof.Rows L2

theorem sitems_of {d d' : D} (h : bltD .sitems [d] = .ok d') : ∃ ks vs rs, d = .dct ks vs ∧ rowsD ks vs = some rs ∧ d' = .lst ((sortL rs).map unF) := by
  cases d <;> try (cases h; done)
  rename_i ks vs
  have h : (match rowsD ks vs with
    | some rs => R.ok (D.lst ((sortL rs).map unF))
    | none => .no) = .ok d' := h
  split at h
  · rename_i rs e
    cases h
    exact ⟨ks, vs, rs, rfl, e, rfl⟩
  · cases h
theorem toS_inv (z : Str) : toS z.cps.toList = z := by
  have := map_toS_inv [z]
  simpa using this
/-- the rows of a dict of texts -/
theorem rows_of {K : PySem.W.Frag} {Z : Hp} : ∀ {ds : List D} {ks : List (List Nat)} {kvs : List (Key × V)} {rs : List (List (List Nat))}, RepK K Z kvs ks ds → rowsD ks ds = some rs → ∃ rows : List (Str × Str), kvs = rows.map rowK ∧ rows.map rowT = rs ∧ ∀ r ∈ rows, okT r.1.cps.toList ∧ okT r.2.cps.toList
  | [], _, _, rs, h, e => by
    cases h
    cases e
    exact ⟨[], rfl, rfl, fun _ h => by cases h⟩
  | d :: ds, _, _, rs, h, e => by
    cases h with
    | @cons k v vs ks _ _ a b c h =>
      cases c with
      | str c1 c2 =>
        rename_i x
        rw [rowsD] at e
        cases hr : rowsD ks ds with
        | none => rw [hr] at e; cases e
        | some rs' =>
          rw [hr] at e
          cases e
          obtain ⟨rows, h1, h2, h3⟩ := rows_of h hr
          refine ⟨(toS k, toS x) :: rows, by rw [h1]; rfl, ?_, fun r hm => ?_⟩
          · rw [List.map_cons, h2]
            show ([(toS k).cps.toList, (toS x).cps.toList] :: rs') = _
            rw [toS_list, toS_list]
          · rcases List.mem_cons.mp hm with z | hm
            · rw [z]; simp only [toS_list]; exact ⟨⟨a, b⟩, ⟨c1, c2⟩⟩
            · exact h3 r hm
      | _ => cases e
section
variable {L : Law} {W : XK} {X : Cx} {pos : Pos} {e : Expr} {me : List Slot → R D}
theorem d_sitems {p ap q : Pos} (hK : L.K = X.K) (hc : X.calm = true) (hu : X.A.units + 65 < cLine) (hg : Gl X "sorted") (hm : X.mg "sorted" = none) (ha : PE X e (tE L W true me))
    (hbase : attributeBase e "items" X.env (eval e X.env) = eval e X.env) (hline : (ap.endLine == q.line) = true) : PE X (.Call (.Name "sorted" p) [.Call (.Attribute e "items" ap) [] [] q] [] pos) (tF L W fun r => do let d ← me r; bltD .sitems [d]) := by
  refine ⟨fun pins s σ H Q I ⟨Z, r, g, en, gq⟩ => ?_⟩
  refine Call_ (ld_blt I hg hm PyProof.Rows.boot_sorted ?_)
  refine PyProof.Rows.callWith_builtin1 (PyProof.Rows.args_cons ?_ rfl) rfl rfl
  refine wpAny_Call_method0_late hbase hline (thn (ha.run pins s σ H _ I ⟨Z, r, g, en, (gq.bind (rel := relV true L.K) (grows_f _))⟩) fun v s1 ⟨x, H1, I1, r1, Z1, d, _, g1, x1, rv, q1⟩ => ?_)
  obtain ⟨d', e1, q2⟩ := q1.of (bltD_ex _ _)
  obtain ⟨ks, vs, rs, rfl, e2, rfl⟩ := sitems_of e1
  obtain ⟨a, kvs, rfl, rd, len, rk⟩ := rep_dct g1 rv
  obtain ⟨rows, rfl, e3, e4⟩ := rows_of rk e2
  cases r1
  obtain ⟨hz, hsys, vs', rel, o, es, ep, ho, hx, hdat, _, hpr, hnd⟩ := dk_rd I1.hok rd
  have raw : DT.Raw s1.heap a es ep := ⟨o, ho, hx, hdat⟩
  refine ⟨"dict", "dict.items", PySem.F.plainAttrs_dict, PySem.F.slot_dict_items, PySem.F.type_dict_items, raw.typeIs, fun b hb => ?_, Calls.callWith_builtin rfl (PySem.evalArgs_none ?_)⟩
  · cases hb
    exact ⟨o, ho, hx.2.1⟩
  refine DT.callItems (es := es) (ep := ep) hsys raw ?_
  refine PyProof.Rows.args_nil ?_
  have I2 : Inv X pins σ H1 { s1 with heap := s1.heap.push { cls := .type "dict_items", data := .fields #[.ref a] } } := I1.kept (t' := s1.toks) fun b u e => Heap.get?_push_of_some _ e
  refine sort_items hc hu I2 ⟨_, Heap.get?_push_size _ rfl, rfl, rfl⟩ rd fun H' l ps up nl np pm asc hl hp => ?_
  -- the tuples are told
  let Z2 : Hp := fun b => if b ∈ ps.map (·.1) then H' b else Z1 b
  have z2in : ∀ z ∈ ps, Z2 z.1 = H' z.1 := fun z hz' => if_pos (List.mem_map.mpr ⟨z, hz', rfl⟩)
  have z2out : ∀ b, b ∉ ps.map (·.1) → Z2 b = Z1 b := fun b hb => if_neg hb
  have fresh2 : ∀ b o, H1 b = some o → b ∉ ps.map (·.1) := fun b o e hm => by
    obtain ⟨z, hz', rfl⟩ := List.mem_map.mp hm
    rw [(np z hz').1] at e; cases e
  have lout : l ∉ ps.map (·.1) := fun hm => by
    obtain ⟨z, hz', e⟩ := List.mem_map.mp hm
    exact (np z hz').2 e
  have le2 : Le Z1 Z2 := Le.of fun b o e => by rw [z2out b (fresh2 b o (g1.sub _ _ e))]; exact e
  have good : Good L.T Z2 H' := by
    refine ⟨fun b o e => ?_, g1.tabs.ext up, fun b q e => ?_⟩
    · by_cases hm : b ∈ ps.map (·.1)
      · rw [show Z2 b = H' b from if_pos hm] at e; exact e
      · rw [z2out b hm] at e; exact up _ _ (g1.sub _ _ e)
    · by_cases hm : b ∈ ps.map (·.1)
      · obtain ⟨z, hz', rfl⟩ := List.mem_map.mp hm
        obtain ⟨ob, h1, _⟩ := hp z hz'
        rw [z2in z hz', h1] at e; cases e
      · rw [z2out b hm] at e; exact g1.ntb _ _ e
  have ext : Ext Z1 H1 Z2 H' := ⟨le2, fun b o e _ => up b o e, fun b o e _ => z2out b (fresh2 b o e)⟩
  have es2 : ps.map (fun z => rowT z.2) = sortL rs := ascL_unique (pm.trans (by rw [e3]; exact (sortL_perm rs).symm)) asc (sortL_asc rs)
  have ok2 : ∀ z ∈ ps, okT z.2.1.cps.toList ∧ okT z.2.2.cps.toList := fun z hz' => by
    have hm : rowT z.2 ∈ rows.map rowT := pm.mem_iff.mp (List.mem_map.mpr ⟨z, hz', rfl⟩)
    obtain ⟨r, hr, er⟩ := List.mem_map.mp hm
    have er : [r.1.cps.toList, r.2.cps.toList] = [z.2.1.cps.toList, z.2.2.cps.toList] := er
    simp only [List.cons.injEq, and_true] at er
    have := e4 r hr
    rw [er.1, er.2] at this
    exact this
  have repl : ∀ qs : List (Addr × Str × Str), (∀ z ∈ qs, z ∈ ps) → RepL L.K Z2 (qs.map fun z => V.ref z.1) ((qs.map fun z => rowT z.2).map unF) := by
    intro qs
    induction qs with
    | nil => exact fun _ => .nil
    | cons z qs ih =>
      intro hq
      have hz' := hq z List.mem_cons_self
      obtain ⟨ob, h1, h2⟩ := hp z hz'
      obtain ⟨o1, o2⟩ := ok2 z hz'
      refine .cons ?_ (ih fun y hy => hq y (List.mem_cons_of_mem _ hy))
      show Rep L.K Z2 (.ref z.1) (.tup [.str z.2.1.cps.toList, .str z.2.2.cps.toList])
      refine .tup ((z2in z hz').trans h1) h2 (show 2 ≤ LIM by decide) (.cons ?_ (.cons ?_ .nil))
      · have := Rep.str (K := L.K) (Z := Z2) o1.1 o1.2
        rwa [toS_inv] at this
      · have := Rep.str (K := L.K) (Z := Z2) o2.1 o2.2
        rwa [toS_inv] at this
  have hz1 : Z1 l = none := by
    cases h : Z1 l with
    | none => rfl
    | some o => rw [g1.sub _ _ h] at nl; cases nl
  refine q2 (.ref l) H' Z2 good ext ?_
  unfold relF Made
  rw [if_pos (show isMut (D.lst ((sortL rs).map unF)) = true from rfl)]
  refine ⟨l, rfl, .of nl, (z2out l lout).trans hz1, .lst hl ?_ ?_⟩
  · have e5 := pm.length_eq
    rw [List.length_map, List.length_map] at e5
    rw [List.length_map] at len ⊢
    omega
  · have := repl ps fun _ h => h
    rw [es2] at this
    exact this
end
end Mk
end
section
set_option Elab.async false
set_option linter.all false
set_option maxRecDepth 100000
set_option maxHeartbeats 4000000
namespace Mk
open PySem PySem.Spec PyProof.Rows L2

theorem adjust_rev (n : Nat) : Builtin.Slice.sliceAdjust none none (-1) (n : Int) = ((n : Int) - 1, -1) := by
  unfold Builtin.Slice.sliceAdjust
  simp
theorem places_rev (n : Nat) : Builtin.Slice.slicePlaces ((n : Int) - 1) (-1) (-1) = n := by
  unfold Builtin.Slice.slicePlaces
  rw [if_neg (by omega)]
  by_cases h : (n : Int) - 1 > -1
  · rw [if_pos h]
    simp
  · rw [if_neg h]
    omega
theorem pick_rev (xs : Array Value) : ((List.range xs.size).filterMap fun (k : Nat) => xs[((xs.size : Int) - 1 + (k : Int) * (-1)).toNat]?).toArray = xs.toList.reverse.toArray := by
  congr 1
  have key : ∀ n, n ≤ xs.size → ((List.range n).filterMap fun (k : Nat) => xs[((xs.size : Int) - 1 + (k : Int) * (-1)).toNat]?) = xs.toList.reverse.take n := by
    intro n
    induction n with
    | zero => intro _; rfl
    | succ n ih =>
      intro h
      have h2 : ((xs.size : Int) - 1 + (n : Int) * (-1)).toNat = xs.size - 1 - n := by omega
      have h3 : xs.size - 1 - n < xs.size := by omega
      have h4 : xs.toList.reverse[n]? = some xs[xs.size - 1 - n] := by
        rw [List.getElem?_reverse (by rw [Array.length_toList]; omega), Array.length_toList, Array.getElem?_toList, Array.getElem?_eq_getElem h3]
      rw [List.range_succ, List.filterMap_append, ih (by omega), List.take_add_one, h4]
      have h5 : List.filterMap (fun (k : Nat) => xs[((xs.size : Int) - 1 + (k : Int) * (-1)).toNat]?) [n] = [xs[xs.size - 1 - n]] := by
        rw [List.filterMap_cons, h2, Array.getElem?_eq_getElem h3]
        rfl
      rw [h5]
      rfl
  rw [key xs.size (Nat.le_refl _)]
  exact List.take_of_length_le (by rw [List.length_reverse, Array.length_toList]; exact Nat.le_refl _)
section
variable {prog : Program} {w : World} {A : Around} {E : Value → Shared → Prop} {s : Shared}
theorem part_of {v : Value} {o : Option Int} {Q : Option Int → Shared → Prop} (p : IsPart v o) (h : Q o s) : wpAny (model prog w) A (Builtin.Slice.slicePartIndex v) Q E s := HT.slicePart_ p h
theorem applied_rev {sl : Addr} {vl vu vs : Value} {n : Nat} {Q : Int × Int × Nat → Shared → Prop} (hs : s.heap.IsSliceOf sl vl vu vs) (pl : IsPart vl none) (pu : IsPart vu none) (ps : IsPart vs (some (-1)))
    (h : Q ((n : Int) - 1, -1, n) s) : wpAny (model prog w) A (Builtin.Slice.sliceApplied (.ref sl) (pure (n : Int))) Q E s := by
  obtain ⟨os, hos, hcs, hds⟩ := id hs
  unfold Builtin.Slice.sliceApplied Builtin.Slice.sliceFields
  refine wpAny_bind (wpAny_bind (wpAny_field hos hds (x := vl) rfl (wpAny_bind (wpAny_field hos hds (x := vu) rfl (wpAny_bind (wpAny_field hos hds (x := vs) rfl (wpAny_pure ?_)))))))
  refine wpAny_bind (part_of ps ?_)
  show wpAny _ _ (if ((-1 : Int) == 0) = true then _ else _) _ _ s
  rw [if_neg (by decide)]
  refine wpAny_bind (part_of pl (wpAny_bind (part_of pu (wpAny_bind (wpAny_pure ?_)))))
  show wpAny _ _ (match Builtin.Slice.sliceAdjust none none (-1) (n : Int) with | (lo, hi) => pure (lo, (-1 : Int), Builtin.Slice.slicePlaces lo hi (-1))) _ _ s
  rw [adjust_rev]
  show wpAny _ _ (pure ((n : Int) - 1, (-1 : Int), Builtin.Slice.slicePlaces ((n : Int) - 1) (-1) (-1))) _ _ s
  rw [places_rev]
  exact wpAny_pure h
theorem item_rev {t sl : Addr} {items : Array Value} {vl vu vs : Value} {Q : Value → Shared → Prop} (ht : IsTup s.heap t items) (hs : s.heap.IsSliceOf sl vl vu vs) (pl : IsPart vl none) (pu : IsPart vu none) (ps : IsPart vs (some (-1)))
    (h : Q (.ref s.heap.objs.size) { s with heap := s.heap.push { cls := .type "tuple", data := .seq items.toList.reverse.toArray } }) (hsz : items.size ≤ sizeLine) : wpAny (model prog w) A (getItem (.ref t) (.ref sl)) Q E s := by
  have hok : sizeOk (.seq items.toList.reverse.toArray) := by
    show items.toList.reverse.toArray.size ≤ sizeLine
    rw [List.size_toArray, List.length_reverse, Array.length_toList]
    exact hsz
  obtain ⟨os, hos, hcs, hds⟩ := id hs
  have hTs : s.TypeIs (.ref sl) "slice" := ⟨os, hos, hcs⟩
  unfold getItem
  try with_reducible refine wpAny_holding ?_
  first | refine wpAny_bind (wpAny_pure ?_) | skip
  refine wpAny_bind (wpAny_sequenceKey ht.typeIs (by decide) ?_)
  refine wpAny_bind (wpAny_callSpecial?_slot (name := Str.ofString "__getitem__") ht.typeIs PyProof.Rows.slot_tuple_getitem
    (wpAny_call_entry PyProof.Rows.slot_tuple_getitem ht.typeIs entry_tuple_getitem ?_ (args_tuple_getitem _ _)))
  show wpAny _ _ (Builtin.Tuple.tupleItemsOf (.ref t) >>= _) _ _ s
  refine wpAny_bind (tupleItemsOf_ ht ?_)
  refine wpAny_bind (wpAny_typeOf hTs ?_)
  rw [if_pos (by decide)]
  refine wpAny_bind (applied_rev (n := items.size) hs pl pu ps ?_)
  have hno : ¬ ((((items.size : Int) - 1) == 0 && (-1 : Int) == 1 && items.size == items.size) = true) := by simp
  show wpAny _ _ (if (((items.size : Int) - 1) == 0 && (-1 : Int) == 1 && items.size == items.size) = true then _ else _) _ _ s
  rw [if_neg hno, pick_rev]
  first
    | exact wpAny_bind (m := Builtin.Tuple.tupleExact _) (wpAny_newObj_type (wpAny_pure ⟨_, rfl, wpAny_pure h⟩) hok)
    | exact wpAny_bind (m := Builtin.Tuple.tupleExact _) (wpAny_newObj_type (wpAny_bind (wpAny_pure (wpAny_pure ⟨_, rfl, wpAny_pure h⟩))) hok)
    | exact wpAny_bind (wpAny_bind (m := Builtin.Tuple.tupleExact _) (wpAny_newObj_type (wpAny_pure (wpAny_pure ⟨_, rfl, wpAny_pure h⟩)) hok))
    | exact wpAny_bind (wpAny_bind (m := Builtin.Tuple.tupleExact _) (wpAny_newObj_type (wpAny_pure ⟨_, rfl, wpAny_pure h⟩) hok))
end
section
variable {L : Law} {W : XK} {X : Cx} {pos : Pos} {e : Expr} {me : List Slot → R D}
theorem d_rev {k : Nat} {p1 p2 p3 : Pos} (hK : L.K = X.K) (ha : PE X e (tE L W true me)) : PE X (.Subscript e (.Slice none none (some (.UnaryOp .USub (.Constant (.int 1) k p1) p2)) p3) pos) (tF L W fun r => do
    match ← me r with
    | .tup ds => .ok (.tup ds.reverse)
    | _ => .no) := by
  refine ⟨fun pins s σ H Q I ⟨Z, r, g, en, gq⟩ => ?_⟩
  refine Subscript_ (thn (ha.run pins s σ H _ I ⟨Z, r, g, en, (gq.bind (rel := relV true L.K) (grows_f _))⟩) fun v s1 ⟨x, H1, I1, r1, Z1, d, hme, g1, x1, rv, q1⟩ => ?_)
  clear hme
  cases d <;> try (exact q1.elim)
  rename_i ds
  obtain ⟨a, xs, rfl, za, hx, len, rl⟩ := rep_tup g1 rv
  cases r1
  have hst : PO X (some (.UnaryOp .USub (.Constant (.int 1) k p1) p2)) (tPart (tUn (rU fun i => .int (-i)) (tC (.int 1)))) := po_some (pe_un un_neg pe_int)
  refine wpAny_Slice (thn (po_none.run pins s1 σ H1 (fun o H2 => o = none ∧ H2 = H1) I1 ⟨rfl, rfl⟩) fun vl s2 ⟨l, H2, I2, pl, el, e2⟩ => ?_)
  subst el e2
  refine thn (po_none.run pins s2 σ H2 (fun o H3 => o = none ∧ H3 = H2) I2 ⟨rfl, rfl⟩) fun vu s3 ⟨u, H3, I3, pu, eu, e3⟩ => ?_
  subst eu e3
  refine thn (hst.run pins s3 σ H3 (fun o H4 => o = some (-1) ∧ H4 = H3) I3 ⟨1, rfl, -1, rfl, rfl, rfl⟩) fun vs s4 ⟨o, H4, I4, ps, eo, e4⟩ => ?_
  subst eo e4
  have I5 : Inv X pins σ H4 { s4 with heap := s4.heap.push { cls := .type "slice", data := .fields #[vl, vu, vs] } } := I4.kept (t' := s4.toks) fun b ob z => Heap.get?_push_of_some _ z
  rw [hK] at hx
  obtain ⟨its, rr, ht, hz⟩ := I5.tuple hx
  have hlen := rr.length
  show wpAny (model X.prog X.w) X.A (subscriptTail e (.Slice none none (some (.UnaryOp .USub (.Constant (.int 1) k p1) p2)) p3) (.ref a) (.ref s4.heap.objs.size)) (EP X pins σ Q) X.xe { s4 with heap := s4.heap.push { cls := .type "slice", data := .fields #[vl, vu, vs] } }
  refine tail_any (ops := [.ref a, .ref s4.heap.objs.size]) ht.typeIs (PyProof.Rows.slot_tuple_getitem.lookup) ?_ (by with_unfolding_all rfl)
  refine item_rev ht (Heap.IsSliceOf.new _ vl vu vs) pl pu ps ?_ (by rw [List.size_toArray]; omega)
  have q2 : Fin L Z1 H4 (.tup ds.reverse) Q := q1
  exact NewT.ep (q2.tup g1 (by rw [List.length_reverse]; exact len) rl.reverse) I5 (by rw [List.length_reverse]; exact hz) rr.reverse
end
end Mk
end
section
set_option Elab.async false
set_option linter.all false
set_option maxRecDepth 100000
set_option maxHeartbeats 4000000
namespace Mk
open PySem PySem.Spec PyProof.Rows L2 RZ

section
variable {pk : Bool} {L : Law} {W : XK} {X : Cx} {pos : Pos} {a b c : Expr} {ma mb mc : List Slot → R D} {tg : Expr}
/-- a list that is walked -/
theorem rep_walkL {Z H : Hp} {v : V} {ds : List D} (g : Good L.T Z H) (h : RepM pk L.K Z H v (.lst ds)) : ∃ p xs, v = .ref p ∧ SqL L.K H p xs ∧ xs.length ≤ LIM ∧ RepL L.K Z xs ds ∧ ∀ Z' H', Good L.T Z' H' → Gr pk Z H Z' H' → SqL L.K H' p xs := by
  rcases h with h | ⟨rfl, p, rfl, _, w⟩
  · cases h with
    | lst a b c => exact ⟨_, _, rfl, .of (g.sub _ _ a), b, c, fun Z' H' g' x => .of (g'.sub _ _ (x.le.lst _ _ a))⟩
  · cases w with
    | lst a b c => exact ⟨_, _, rfl, .of a, b, c, fun Z' H' g' x => .of (Ext.keep x _ _ a (fun _ h => nomatch h))⟩
theorem rep_walkT {Z H : Hp} {v : V} {ds : List D} (g : Good L.T Z H) (h : RepM pk L.K Z H v (.tup ds)) : ∃ p xs, v = .ref p ∧ SqT L.K H p xs ∧ xs.length ≤ LIM ∧ RepL L.K Z xs ds ∧ ∀ Z' H', Good L.T Z' H' → Gr pk Z H Z' H' → SqT L.K H' p xs := by
  obtain ⟨a, xs, rfl, z, st, len, rl⟩ := rep_tup g h
  obtain ⟨o, z1, z2⟩ := z
  exact ⟨a, xs, rfl, st, len, rl, fun Z' H' g' x => .inl (.inr ⟨_, g'.sub _ _ (x.le.frt _ _ _ z1)⟩)⟩
theorem src_lst {Z H : Hp} {p : Addr} {xs : List V} {ds : List D} (st : ∀ Z' H', Good L.T Z' H' → Gr pk Z H Z' H' → SqL L.K H' p xs) (rl : RepL L.K Z xs ds) : Src pk L (Itl L.K p) Z H ds := by
  refine ⟨_, _, by rw [← rl.length]; exact walk_list (K := L.K) (a := p) (xs := xs), st, fun i x H1 H2 Z1 hi g1 x1 y => ?_⟩
  obtain ⟨rfl, hx⟩ := y
  obtain ⟨d, h1, h2⟩ := rl.getV hx
  exact ⟨Z1, d, h1, g1, Ext.refl _ _, h2.mono x1.le⟩
theorem src_tup {Z H : Hp} {p : Addr} {xs : List V} {ds : List D} (st : ∀ Z' H', Good L.T Z' H' → Gr pk Z H Z' H' → SqT L.K H' p xs) (rl : RepL L.K Z xs ds) : Src pk L (Itt L.K p) Z H ds := by
  refine ⟨_, _, by rw [← rl.length]; exact walk_tup (K := L.K) (a := p) (xs := xs), st, fun i x H1 H2 Z1 hi g1 x1 y => ?_⟩
  obtain ⟨rfl, hx⟩ := y
  obtain ⟨d, h1, h2⟩ := rl.getV hx
  exact ⟨Z1, d, h1, g1, Ext.refl _ _, h2.mono x1.le⟩
theorem src_str {Z H : Hp} {z : List Nat} (o : okS z = true) : Src pk L (Its (toS z)) Z H (z.map fun c => D.str [c]) := by
  refine ⟨fun _ => True, _, by rw [List.length_map, show z.length = (toS z).cps.size by simp [toS]]; exact walk_str, fun _ _ _ _ => trivial, fun i x H1 H2 Z1 hi g1 x1 y => ?_⟩
  obtain ⟨rfl, c, hc, rfl⟩ := y
  have hz : z[i]? = some c := by simpa [toS] using hc
  refine ⟨Z1, .str [c], by rw [List.getElem?_map, hz]; rfl, g1, Ext.refl _ _, .str (x := [c]) (show 1 < LIM by decide) ?_⟩
  unfold okS at o ⊢
  rw [List.all_eq_true] at o
  simpa using o c (List.mem_of_getElem? hz)
theorem rangeD_len : ∀ (n : Nat) (lo : Int), (rangeD lo n).length = n
  | 0, _ => rfl
  | n + 1, lo => by simp [rangeD, rangeD_len n]
theorem rangeD_get : ∀ (n : Nat) (lo : Int) (i : Nat), i < n → (rangeD lo n)[i]? = some (.int (lo + i))
  | 0, _, _, h => absurd h (Nat.not_lt_zero _)
  | n + 1, lo, 0, _ => by simp [rangeD]
  | n + 1, lo, i + 1, h => by
    rw [rangeD, List.getElem?_cons_succ, rangeD_get n (lo + 1) i (by omega)]
    congr 2; omega
theorem src_range {Z H : Hp} {lo : Int} {n : Nat} : Src pk L (Itr lo n) Z H (rangeD lo n) := by
  refine ⟨fun _ => True, _, by rw [rangeD_len]; exact walk_range, fun _ _ _ _ => trivial, fun i x H1 H2 Z1 hi g1 x1 y => ?_⟩
  obtain ⟨rfl, rfl⟩ := y
  rw [rangeD_len] at hi
  exact ⟨Z1, _, rangeD_get n lo i hi, g1, Ext.refl _ _, .int _⟩
theorem zipD_len : ∀ xs ys : List D, (zipD xs ys).length = min xs.length ys.length
  | [], _ => by simp [zipD]
  | _ :: _, [] => by simp [zipD]
  | x :: xs, y :: ys => by simp [zipD, zipD_len xs ys]
theorem zipD_get : ∀ (xs ys : List D) (i : Nat) (x y : D), xs[i]? = some x → ys[i]? = some y → (zipD xs ys)[i]? = some (.tpl [x, y])
  | [], _, _, _, _, h, _ => by simp at h
  | _ :: _, [], _, _, _, _, h => by simp at h
  | x :: xs, y :: ys, 0, _, _, h, h' => by simp at h h'; subst h h'; rfl
  | x :: xs, y :: ys, i + 1, _, _, h, h' => by
    rw [zipD, List.getElem?_cons_succ]
    exact zipD_get xs ys i _ _ (by simpa using h) (by simpa using h')
theorem walk_zipT {K : PySem.W.Frag} {p p2 : Addr} {xs ys : List V} {n : Nat} (hn : n = min xs.length ys.length) : Walk (ItzT K p p2) n (fun H => SqT K H p xs ∧ SqT K H p2 ys) (YPair (fun i => xs[i]?) (fun i => ys[i]?)) := by
  subst hn
  constructor
  · intro i _ hi q
    have h1 : i < xs.length := by omega
    have h2 : i < ys.length := by omega
    exact ⟨xs, ys, xs[i], ys[i], q.1, q.2, by simp [h1], by simp [h2]⟩
  · exact fun _ q => ⟨xs, ys, q.1, q.2, by omega⟩
  · intro i H v H' _ q y
    obtain ⟨T, x, z, h1, h2, h3, h4, h5⟩ := y
    exact ⟨T, x, z, h1, h2, h3, h4 xs q.1, h5 ys q.2⟩
theorem src_pair {Z : Hp} {xs ys : List V} {ds es : List D} {i : Nat} {x : V} {H1 H2 Z1 : Hp} (rl : RepL L.K Z xs ds) (rl2 : RepL L.K Z ys es) (g1 : Good L.T Z1 H1) (le : Le Z Z1) (y : YPair (fun i => xs[i]?) (fun i => ys[i]?) i H1 x H2) :
    ∃ Z2 d, (zipD ds es)[i]? = some d ∧ Good L.T Z2 H2 ∧ Ext Z1 H1 Z2 H2 ∧ Rep L.K Z2 x d := by
  obtain ⟨T, u, w, rfl, hT, rfl, h4, h5⟩ := y
  obtain ⟨d, h6, h7⟩ := rl.getV h4
  obtain ⟨d', h8, h9⟩ := rl2.getV h5
  have x2 : Ext Z1 H1 (upd Z1 T (.tup [u, w])) (upd H1 T (.tup [u, w])) := Ext.put g1 hT
  exact ⟨_, _, zipD_get ds es i d d' h6 h8, g1.put hT (fun _ h => nomatch h), x2, .tpl upd_same (show 2 ≤ LIM by decide) (.cons ((h7.mono le).mono x2.le) (.cons ((h9.mono le).mono x2.le) .nil))⟩
theorem d_it (hK : L.K = X.K) (ha : PE X a (tE L W pk ma)) : PI X tg a (tI pk L W fun r => do let d ← ma r; srcD .it [d]) := by
  refine PI.mono (PI.or (pi_list ha) (PI.or (pi_tup ha) (pi_str ha))) fun σ H Q ⟨Z, r, g, e, q⟩ => ?_
  replace q : Got L W Z H (ma r >>= fun d => srcD .it [d]) (relI pk L) Q := q
  cases h : ma r with
  | ex x => exact .inl ⟨Z, r, g, e, by rw [h] at q ⊢; exact q⟩
  | no => rw [h] at q; exact q.elim
  | ok d =>
    have k := q.bind (rel := relV pk L.K) (grows_i pk L)
    cases d <;> try (rw [h] at q; exact q.elim)
    · refine .inr (.inr ⟨Z, r, g, e, k.mono fun x H1 ⟨Z1, dx, e1, g1, x1, rx, q1⟩ => ?_⟩)
      rw [h] at e1; cases e1
      obtain ⟨rfl, l, o⟩ := rep_str rx
      exact ⟨_, rfl, q1.now g1 ⟨src_str o, by simp only [id, List.length_map]; exact Nat.le_of_lt l⟩⟩
    · refine .inr (.inl ⟨Z, r, g, e, k.mono fun x H1 ⟨Z1, dx, e1, g1, x1, rx, q1⟩ => ?_⟩)
      rw [h] at e1; cases e1
      obtain ⟨p, xs, rfl, st, len, rl, sw⟩ := rep_walkT g1 rx
      rw [← hK]
      exact ⟨p, rfl, ⟨_, st⟩, q1.now g1 ⟨src_tup sw rl, by have h := rl.length; simp only [id]; omega⟩⟩
    · refine .inl ⟨Z, r, g, e, k.mono fun x H1 ⟨Z1, dx, e1, g1, x1, rx, q1⟩ => ?_⟩
      rw [h] at e1; cases e1
      obtain ⟨p, xs, rfl, st, len, rl, sw⟩ := rep_walkL g1 rx
      rw [← hK]
      exact ⟨p, rfl, ⟨_, st⟩, q1.now g1 ⟨src_lst sw rl, by have h := rl.length; simp only [id]; omega⟩⟩
theorem d_range1 {p : Pos} {ms : List Slot → R (List D)} (hg : Gl X "range") (hm : X.mg "range" = none) (ha : PA X [a] (tA L W pk ms)) (hs : starEach [a] X.env = [(false, eval a X.env)]) :
    PI X tg (.Call (.Name "range" p) [a] [] pos) (tI pk L W fun r => do let ds ← ms r; match ds with | [d] => srcD .range [d] | _ => .no) := by
  refine PI.mono (pi_range1 hg hm ha hs) fun σ H Q ⟨Z, r, g, e, q⟩ => ⟨Z, r, g, e, (q.bind (rel := relA pk L.K) (grows_i pk L)).mono fun vs H1 ⟨Z1, ds, _, g1, x1, rs, q1⟩ => ?_⟩
  match ds, rs, q1 with
  | [], _, q1 => exact q1.elim
  | _ :: _ :: _, _, q1 => exact q1.elim
  | [d], rs, q1 =>
    obtain ⟨v, rfl, rv⟩ := rs.one
    cases d with
    | int n =>
      have q2 : Got L W Z1 H1 (if -(LIM : Int) ≤ n ∧ n ≤ (LIM : Int) then .ok (rangeD 0 n.toNat) else .no) (relI pk L) Q := q1
      split at q2
      · rename_i h
        cases rep_int rv
        refine ⟨n, rfl, ?_, ?_, q2.now g1 ⟨src_range, ?_⟩⟩
        · have := h.1; unfold LIM at this; omega
        · have := h.2; unfold LIM at this; omega
        · rw [rangeD_len]; have := h.2; omega
      · exact q2.elim
    | _ => exact q1.elim
theorem d_range2 {p : Pos} {ms : List Slot → R (List D)} (hg : Gl X "range") (hm : X.mg "range" = none) (ha : PA X [a, b] (tA L W pk ms)) (hs : starEach [a, b] X.env = [(false, eval a X.env), (false, eval b X.env)]) (hs2 : starEach [b] X.env = [(false, eval b X.env)]) :
    PI X tg (.Call (.Name "range" p) [a, b] [] pos) (tI pk L W fun r => do let ds ← ms r; match ds with | [d, d'] => srcD .range [d, d'] | _ => .no) := by
  refine PI.mono (pi_range2 hg hm ha hs hs2) fun σ H Q ⟨Z, r, g, e, q⟩ => ⟨Z, r, g, e, (q.bind (rel := relA pk L.K) (grows_i pk L)).mono fun vs H1 ⟨Z1, ds, _, g1, x1, rs, q1⟩ => ?_⟩
  match ds, rs, q1 with
  | [], _, q1 => exact q1.elim
  | [_], _, q1 => exact q1.elim
  | _ :: _ :: _ :: _, _, q1 => exact q1.elim
  | [d, d'], rs, q1 =>
    obtain ⟨v, u, rfl, rv, ru⟩ := rs.two
    cases d with
    | int i =>
      cases d' with
      | int j =>
        have q2 : Got L W Z1 H1 (if -(LIM : Int) ≤ i ∧ i ≤ (LIM : Int) ∧ -(LIM : Int) ≤ j ∧ j ≤ (LIM : Int) ∧ j - i ≤ (LIM : Int) then .ok (rangeD i (j - i).toNat) else .no) (relI pk L) Q := q1
        split at q2
        · rename_i h
          cases rep_int rv; cases rep_int ru
          obtain ⟨h1, h2, h3, h4, h5⟩ := h
          refine ⟨i, j, rfl, ?_, q2.now g1 ⟨src_range, ?_⟩⟩
          · unfold LIM at *; omega
          · rw [rangeD_len]; omega
        · exact q2.elim
      | _ => exact q1.elim
    | _ => exact q1.elim
theorem d_zip {p tpos : Pos} {elts : List Expr} {kk : Nat} {ms : List Slot → R (List D)} (hK : L.K = X.K) (hg : Gl X "zip") (hm : X.mg "zip" = none) (ha : PA X [a, b] (tA L W pk ms)) (hs : starEach [a, b] X.env = (false, eval a X.env) :: starEach [b] X.env)
    (hpl : (backTo pos (starEach [b] X.env)).any (·.1) = false) :
    PI X (.Tuple elts kk tpos) (.Call (.Name "zip" p) [a, b] [] pos) (tI pk L W fun r => do let ds ← ms r; match ds with | [d, d'] => srcD .zip [d, d'] | _ => .no) := by
  refine PI.mono (pi_zipA hg hm ha hs hpl) fun σ H Q ⟨Z, r, g, e, q⟩ => ⟨Z, r, g, e, (q.bind (rel := relA pk L.K) (grows_i pk L)).mono fun vs H1 ⟨Z1, ds, _, g1, x1, rs, q1⟩ => ?_⟩
  match ds, rs, q1 with
  | [], _, q1 => exact q1.elim
  | [_], _, q1 => exact q1.elim
  | _ :: _ :: _ :: _, _, q1 => exact q1.elim
  | [d, d'], rs, q1 =>
    obtain ⟨v, u, rfl, rv, ru⟩ := rs.two
    cases d with
    | lst xs =>
      cases d' with
      | lst ys =>
        obtain ⟨p1, us, rfl, st, len, rl, sw⟩ := rep_walkL g1 rv
        obtain ⟨p2, ws, rfl, st2, len2, rl2, sw2⟩ := rep_walkL g1 ru
        have l1 := rl.length
        have l2 := rl2.length
        rw [← hK]
        refine ⟨p1, p2, us, ws, rfl, .inl ⟨st, st2, q1.now g1 ⟨⟨_, _, walk_zip (xs := us) (ys := ws) (by rw [zipD_len, l1, l2]), fun Z' H' g' x => ⟨sw Z' H' g' x, sw2 Z' H' g' x⟩, fun i x H1 H2 Z1 hi g1 x1 y => src_pair rl rl2 g1 x1.le y⟩, ?_⟩⟩⟩
        rw [zipD_len]; omega
      | _ => exact q1.elim
    | tup xs =>
      cases d' with
      | tup ys =>
        obtain ⟨p1, us, rfl, st, len, rl, sw⟩ := rep_walkT g1 rv
        obtain ⟨p2, ws, rfl, st2, len2, rl2, sw2⟩ := rep_walkT g1 ru
        have l1 := rl.length
        have l2 := rl2.length
        rw [← hK]
        refine ⟨p1, p2, us, ws, rfl, .inr ⟨st, st2, q1.now g1 ⟨⟨_, _, walk_zipT (xs := us) (ys := ws) (by rw [zipD_len, l1, l2]), fun Z' H' g' x => ⟨sw Z' H' g' x, sw2 Z' H' g' x⟩, fun i x H1 H2 Z1 hi g1 x1 y => src_pair rl rl2 g1 x1.le y⟩, ?_⟩⟩⟩
        rw [zipD_len]; omega
      | _ => exact q1.elim
    | _ => exact q1.elim
end

def gNames : List Nat → TGs
  | [] => gNil
  | i :: is => gCons (gName i) (gNames is)
def gT (K : PySem.W.Frag) : Tg → TG
  | .nm i => gName i
  | .tp is => gTup K is.length (gNames is)
/-- the slots but for some -/
def EnvO (vs : List Nat) (K : PySem.W.Frag) (Z H : Hp) (σ : L2.St) (r : List Slot) : Prop :=
  σ.length = r.length ∧ ∀ i : Nat, i ∉ vs → match r[i]? with
    | some (.val d) => ∃ v, σ[i]? = some (some v) ∧ Rep K Z v d
    | some (.own d) => ∃ p, σ[i]? = some (some (.ref p)) ∧ Z p = none ∧ Own K Z H p d
    | _ => True
theorem EnvW.out {vs : List Nat} {K : PySem.W.Frag} {Z H : Hp} {σ : L2.St} {r : List Slot} (e : EnvW K Z H σ r) : EnvO vs K Z H σ r := ⟨e.1, fun i _ => e.2 i⟩
theorem EnvO.all {K : PySem.W.Frag} {Z H : Hp} {σ : L2.St} {r : List Slot} (e : EnvO [] K Z H σ r) : EnvW K Z H σ r := ⟨e.1, fun i => e.2 i (by simp)⟩
theorem EnvO.set {i : Nat} {vs : List Nat} {K : PySem.W.Frag} {Z H : Hp} {σ : L2.St} {r : List Slot} {v : V} {d : D} (e : EnvO (i :: vs) K Z H σ r) (rp : Rep K Z v d) (hi : i < r.length) : EnvO vs K Z H (σ.set i (some v)) (r.set i (.val d)) := by
  refine ⟨by simp [e.1], fun j hj => ?_⟩
  by_cases h : i = j
  · subst h
    rw [List.getElem?_set_self hi]
    exact ⟨v, List.getElem?_set_self (by rw [e.1]; exact hi), rp⟩
  · rw [List.getElem?_set_ne h]
    have k := e.2 j (by simp only [List.mem_cons, not_or]; exact ⟨fun z => h z.symm, hj⟩)
    split at k
    · obtain ⟨u, h1, h2⟩ := k; exact ⟨u, by rw [List.getElem?_set_ne h]; exact h1, h2⟩
    · obtain ⟨u, h1, h2⟩ := k; exact ⟨u, by rw [List.getElem?_set_ne h]; exact h1, h2⟩
    · trivial
theorem wipe_set (x : Option V) (i : Nat) : ∀ (vs : List Nat) (σ : L2.St), wipe (σ.set i x) vs = if i ∈ vs then wipe σ vs else (wipe σ vs).set i x
  | [], σ => by simp [wipe]
  | v :: vs, σ => by
    rw [wipe, wipe, wipe_set x i vs σ]
    by_cases h : i ∈ vs
    · rw [if_pos h, if_pos (List.mem_cons_of_mem _ h)]
    · rw [if_neg h]
      by_cases hv : i = v
      · subst hv
        rw [if_pos List.mem_cons_self, List.set_set]
      · rw [if_neg (by simp only [List.mem_cons, not_or]; exact ⟨hv, h⟩), List.set_comm _ _ hv]
theorem names_ok {K : PySem.W.Frag} {Z H : Hp} {ws : List Nat} {Q : L2.St → Hp → Prop} : ∀ {is : List Nat} {ds : List D} {vs : List V} {σ : L2.St} {r r' : List Slot}, (∀ i ∈ is, i ∈ ws) → setAll is ds r = some r' → EnvO is K Z H σ r → RepL K Z vs ds →
    (∀ σ', EnvW K Z H σ' r' → wipe σ' ws = wipe σ ws → Q σ' H) → gNames is vs σ H Q
  | [], [], _, σ, r, r', _, e, en, rl, q => by
    cases rl; cases e
    exact ⟨rfl, q σ en.all rfl⟩
  | [], _ :: _, _, _, _, _, _, e, _, _, _ => by cases e
  | _ :: _, [], _, _, _, _, _, e, _, _, _ => by cases e
  | i :: is, d :: ds, _, σ, r, r', hs, e, en, rl, q => by
    cases rl with
    | cons a b =>
      rw [setAll] at e
      split at e
      · rename_i hi
        refine ⟨_, _, rfl, names_ok (fun j hj => hs j (List.mem_cons_of_mem _ hj)) e (en.set a hi) b fun σ' en' w => q σ' en' ?_⟩
        rw [w, wipe_set, if_pos (hs i List.mem_cons_self)]
      · cases e
theorem tg_ok {T : List (Addr × Str)} {K : PySem.W.Frag} {Z H : Hp} {Q : L2.St → Hp → Prop} {tg : Tg} {d : D} {v : V} {σ : L2.St} {r r' : List Slot} (g : Good T Z H) (e : asg tg d r = .ok r') (en : EnvO tg.slots K Z H σ r) (rp : Rep K Z v d)
    (q : ∀ σ', EnvW K Z H σ' r' → wipe σ' tg.slots = wipe σ tg.slots → Q σ' H) : gT K tg v σ H Q := by
  cases tg with
  | nm i =>
    have e : (if i < r.length then R.ok (r.set i (.val d)) else .no) = .ok r' := e
    split at e <;> cases e
    rename_i hi
    refine q _ (en.set rp hi).all ?_
    rw [wipe_set, if_pos (by simp [Tg.slots])]
  | tp is =>
    cases d with
    | tup ds =>
      obtain ⟨z, e1, rfl⟩ := opt_some (show opt id (setAll is ds r) = .ok r' from e)
      cases rp with
      | tup za _ len rl =>
        have hl : ∀ {is : List Nat} {ds : List D} {r z : List Slot}, setAll is ds r = some z → is.length = ds.length := by
          intro is
          induction is with
          | nil => intro ds r z h; cases ds with
            | nil => rfl
            | cons _ _ => cases h
          | cons i is ih => intro ds r z h; cases ds with
            | nil => cases h
            | cons d ds =>
              rw [setAll] at h
              split at h
              · simp [ih h]
              · cases h
        exact ⟨_, _, rfl, (show SqT K H _ _ from .inl (.inr ⟨_, g.sub _ _ za⟩)), by rw [rl.length, hl e1], names_ok (fun i hi => hi) e1 en rl q⟩
    | tpl ds =>
      obtain ⟨z, e1, rfl⟩ := opt_some (show opt id (setAll is ds r) = .ok r' from e)
      cases rp with
      | tpl za len rl =>
        have hl : ∀ {is : List Nat} {ds : List D} {r z : List Slot}, setAll is ds r = some z → is.length = ds.length := by
          intro is
          induction is with
          | nil => intro ds r z h; cases ds with
            | nil => rfl
            | cons _ _ => cases h
          | cons i is ih => intro ds r z h; cases ds with
            | nil => cases h
            | cons d ds =>
              rw [setAll] at h
              split at h
              · simp [ih h]
              · cases h
        exact ⟨_, _, rfl, SqT.of (g.sub _ _ za), by rw [rl.length, hl e1], names_ok (fun i hi => hi) e1 en rl q⟩
    | _ => cases e

abbrev E0 : XK := fun _ _ _ => False
theorem lcL_ex (f : D → R (Option D)) : ∀ (l : List D) (e : Ex), lcL f l ≠ .ex e
  | [], _, h => by cases h
  | x :: r, e, h => by
    rw [lcL] at h
    cases q : f x with
    | ok y =>
      rw [q] at h
      simp only [R.still, R.ok_bind] at h
      cases q2 : lcL f r with
      | ok ys => rw [q2] at h; simp only [R.ok_bind] at h; cases y <;> cases h
      | ex e2 => exact lcL_ex f r e2 q2
      | no => rw [q2] at h; cases h
    | ex e2 => rw [q] at h; cases h
    | no => rw [q] at h; cases h
theorem lcL_cons {f : D → R (Option D)} {x : D} {r ys : List D} (h : lcL f (x :: r) = .ok ys) : ∃ y zs, f x = .ok y ∧ lcL f r = .ok zs ∧ ys = (match y with | some z => z :: zs | none => zs) := by
  rw [lcL] at h
  cases q : f x with
  | ok y =>
    rw [q] at h
    simp only [R.still, R.ok_bind] at h
    cases q2 : lcL f r with
    | ok zs =>
      rw [q2] at h; simp only [R.ok_bind] at h
      refine ⟨y, zs, rfl, rfl, ?_⟩
      cases y <;> (cases h; rfl)
    | ex e2 => rw [q2] at h; cases h
    | no => rw [q2] at h; cases h
  | ex e2 => rw [q] at h; cases h
  | no => rw [q] at h; cases h
theorem PTs.mono {X : Cx} {e : List Expr} {t u : TT} (h : PTs X e t) (q : ∀ σ H Q, u σ H Q → t σ H Q) : PTs X e u := ⟨fun pins s σ H Q I hw => h.run pins s σ H Q I (q σ H Q hw)⟩
section
variable {L : Law} {W : XK} {X : Cx} {pos : Pos}
def lcF (tg : Tg) (mc : List Slot → R Bool) (me : List Slot → R D) (r : List Slot) : D → R (Option D) := fun x => do
  let r' ← asg tg x r
  match ← mc r' with
  | true => do { let y ← me r'; .ok (some y) }
  | false => .ok none
theorem lcF_some {tg : Tg} {mc : List Slot → R Bool} {me : List Slot → R D} {r : List Slot} {x : D} {y : Option D} (h : lcF tg mc me r x = .ok y) : ∃ r' b, asg tg x r = .ok r' ∧ mc r' = .ok b ∧ (b = true → ∃ z, me r' = .ok z ∧ y = some z) ∧ (b = false → y = none) := by
  unfold lcF at h
  cases q : asg tg x r with
  | ok r' =>
    rw [q] at h; simp only [R.ok_bind] at h
    cases q2 : mc r' with
    | ok b =>
      rw [q2] at h; simp only [R.ok_bind] at h
      refine ⟨r', b, rfl, q2, fun hb => ?_, fun hb => ?_⟩
      · subst hb
        cases q3 : me r' with
        | ok z => rw [q3] at h; cases h; exact ⟨z, rfl, rfl⟩
        | ex e => rw [q3] at h; cases h
        | no => rw [q3] at h; cases h
      · subst hb; cases h; rfl
    | ex e => rw [q2] at h; cases h
    | no => rw [q2] at h; cases h
  | ex e => rw [q] at h; cases h
  | no => rw [q] at h; cases h
/-- the reading of a comprehension over the items of J, from the state in which J stands -/
theorem lc_walk {tg : Tg} {mc : List Slot → R Bool} {me : List Slot → R D} {vs : List Nat} {σ : L2.St} {r : List Slot} {Z1 H1 : Hp} {J : It} {items ys : List D} {Dd : Addr} {Q : VK}
    (hv : vs = tg.slots) (g1 : Good L.T Z1 H1) (en : EnvW L.K Z1 H1 σ r) (sr : Src true L J Z1 H1 items) (lim : items.length ≤ LIM) (hys : lcL (lcF tg mc me r) items = .ok ys) (nD : H1 Dd = none)
    (q : ∀ v H' Z', Good L.T Z' H' → Ext Z1 H1 Z' H' → Made L.K H1 Z' H' v (.lst ys) → Q v H') :
    ∃ Wv : Nat → Nat → Hp → Prop, (∃ m, Wv 0 m (upd H1 Dd (.lst []))) ∧ ∀ i m H, Wv i m H →
      (J.stop i H ∧ Q (.ref Dd) H) ∨ (J.go i H ∧ ∃ Nx : Hp → Prop, (∀ H', Nx H' → ∃ m', m' < m ∧ Wv (i + 1) m' H') ∧ ∀ x H', J.yld i H x H' → gT L.K tg x (wipe σ vs) H' fun σ2 H2 => wipe σ2 vs = wipe σ vs ∧ tT L E0 mc σ2 H2 fun b H3 =>
        if b = true then tE L E0 false me σ2 H3 fun y H4 => ∃ acc, H4 Dd = some (.lst acc) ∧ acc.length < sizeLine ∧ Nx (upd H4 Dd (.lst (acc ++ [y]))) else Nx H3) := by
  obtain ⟨G, Y, wk, hG, hY⟩ := sr
  refine lc_it wk (fun i H => ∃ Z acc accD rest, Good L.T Z H ∧ Ext Z1 H1 Z H ∧ H Dd = some (.lst acc) ∧ Z Dd = none ∧ RepL L.K Z acc accD ∧ acc.length ≤ i ∧ lcL (lcF tg mc me r) (items.drop i) = .ok rest ∧ ys = accD ++ rest) ?_ ?_ ?_ ?_
  · exact ⟨Z1, [], [], ys, g1.lay nD, Ext.lay nD, upd_same, g1.none nD, .nil, Nat.le_refl _, by simpa using hys, rfl⟩
  · exact fun i H _ ⟨Z, _, _, _, g, x, _⟩ => hG Z H g x
  · intro i x H H' hi ⟨Z, acc, accD, rest, g, ex, hD, zD, rl, la, hr, hy⟩ yy
    obtain ⟨Z2, d, hd, g2, x2, rp⟩ := hY i x H H' Z hi g ex yy
    have hdr : items.drop i = d :: items.drop (i + 1) := by
      obtain ⟨h1, h2⟩ := List.getElem?_eq_some_iff.mp hd
      rw [← h2]; exact List.drop_eq_getElem_cons h1
    rw [hdr] at hr
    obtain ⟨yo, zs, hf, hz, hrest⟩ := lcL_cons hr
    obtain ⟨r', b, ha, hb, ht, hff⟩ := lcF_some hf
    have e2 : EnvW L.K Z2 H' σ r := (en.ext ex).ext x2
    have eo : EnvO tg.slots L.K Z2 H' (wipe σ vs) r := by
      refine ⟨by rw [wipe_length]; exact e2.1, fun j hj => ?_⟩
      have k := e2.2 j
      have w : (wipe σ vs)[j]? = σ[j]? := wipe_out (by rw [hv]; exact hj)
      rw [w]; exact k
    refine tg_ok g2 ha eo rp fun σ2 en2 hw => ⟨?_, Z2, r', g2, en2, ?_⟩
    · rw [← hv] at hw
      rw [hw]
      have idem : ∀ (ws : List Nat) (σ : L2.St), (∀ w ∈ ws, w ∈ vs) → wipe (wipe σ ws) vs = wipe σ vs := by
        intro ws
        induction ws with
        | nil => intro σ _; rfl
        | cons w ws ih =>
          intro σ h
          rw [wipe, wipe_set, if_pos (h w List.mem_cons_self)]
          exact ih σ fun z hz => h z (List.mem_cons_of_mem _ hz)
      exact idem vs σ fun _ h => h
    · rw [hb]
      intro b' H3 Z3 g3 x3 eb
      cases eb
      have k3 : H3 Dd = some (.lst acc) := x3.keep _ _ (x2.keep _ _ hD (fun _ h => nomatch h)) (fun _ h => nomatch h)
      have z2 : Z2 Dd = none := by rw [x2.old _ _ hD (fun _ h => nomatch h), zD]
      have hD2 : H' Dd = some (.lst acc) := x2.keep _ _ hD (fun _ h => nomatch h)
      have z3 : Z3 Dd = none := by rw [x3.old _ _ hD2 (fun _ h => nomatch h), z2]
      cases b with
      | true =>
        rw [if_pos rfl]
        obtain ⟨z, hme, hyo⟩ := ht rfl
        refine ⟨Z3, r', g3, en2.ext x3, ?_⟩
        rw [hme]
        intro v H4 Z4 g4 x4 rv
        have k4 : H4 Dd = some (.lst acc) := x4.keep _ _ k3 (fun _ h => nomatch h)
        have z4 : Z4 Dd = none := by rw [x4.old _ _ k3 (fun _ h => nomatch h), z3]
        refine ⟨acc, k4, by rw [sizeLine_eq]; unfold LIM at lim; omega, Z4, acc ++ [v], accD ++ [z], zs, g4.set z4 k4 (fun _ h => nomatch h) (fun _ h => nomatch h), ((ex.trans x2).trans (x3.trans x4)).set (.of nD), upd_same, z4, ?_, by simp; omega, hz, ?_⟩
        · exact (((rl.mono x2.le).mono x3.le).mono x4.le).append (.cons (RepM.val rv) .nil)
        · rw [hy, hrest, hyo]; simp
      | false =>
        rw [if_neg (by decide)]
        refine ⟨Z3, acc, accD, zs, g3, (ex.trans x2).trans x3, k3, z3, (rl.mono x2.le).mono x3.le, by omega, hz, ?_⟩
        rw [hy, hrest, hff rfl]
  · intro H ⟨Z, acc, accD, rest, g, ex, hD, zD, rl, la, hr, hy⟩
    rw [List.drop_length] at hr
    cases hr
    refine q _ H Z g ex ?_
    unfold Made
    rw [if_pos (show isMut (D.lst ys) = true from rfl)]
    refine ⟨Dd, rfl, .of nD, zD, .lst hD (by omega) ?_⟩
    rw [hy, List.append_nil]; exact rl
theorem d_lc {tg' it elt : Expr} {ifs : List Expr} {scope : Scope} {own : List (Str × Nat)} {tg : Tg} {ms : List Slot → R (List D)} {mc : List Slot → R Bool} {me : List Slot → R D} (hK : L.K = X.K) (hc : X.calm = true) (hN : X.N.Nodup) (hi : PI X tg' it (tI true L W ms)) (ok : BlkOk X.N X.env.scope scope own)
    (hg : ∀ (s : Shared) (H : Hp) (C : Addr) (cl : List (Str × Addr)) (fp : List Addr), PG (X.blk s H scope (compEnvC scope cl C X.env) fp) tg' (gT L.K tg))
    (ht : ∀ (s : Shared) (H : Hp) (C : Addr) (cl : List (Str × Addr)) (fp : List Addr), PTs (X.blk s H scope (compEnvC scope cl C X.env) fp) ifs (tT L E0 mc))
    (he : ∀ (s : Shared) (H : Hp) (C : Addr) (cl : List (Str × Addr)) (fp : List Addr), PE (X.blk s H scope (compEnvC scope cl C X.env) fp) elt (tE L E0 false me))
    (hv : own.map (·.2) = tg.slots) (hs : ∀ x, foldedSetIterable it X.env x = pure x) :
    PE X (.ListComp elt [⟨tg', it, ifs, 0⟩] scope pos) (tF L W fun r => do let items ← ms r; let ys ← lcL (lcF tg mc me r) items; .ok (.lst ys)) := by
  refine PE.mono (pe_lc hc hN hi ok hg ht he hs) fun σ H Q ⟨Z, r, g, e, q⟩ => ⟨Z, r, g, e, (q.bind (rel := relI true L) (grows_f _)).mono fun J H1 ⟨Z1, items, _, g1, x1, ⟨sr, lim⟩, q1⟩ => fun Dd nD => ?_⟩
  obtain ⟨ys, hys, _⟩ := (q1.bind (rel := relI true L) (grows_f _)).of (lcL_ex _ _)
  rw [hys] at q1
  exact lc_walk hv g1 (e.ext x1) sr lim hys nD q1
/-- the same, given to a name -/
theorem d_setLc {i : Nat} {y : Str} {py spos : Pos} {tg' it elt : Expr} {ifs : List Expr} {scope : Scope} {own : List (Str × Nat)} {tg : Tg} {ms : List Slot → R (List D)} {mc : List Slot → R Bool} {me : List Slot → R D} (hK : L.K = X.K) (hc : X.calm = true) (hN : X.N.Nodup) (hy : X.N[i]? = some y) (hyl : X.env.scope.names.lookup y = some .local)
    (hsw : swapsWith (.ListComp elt [⟨tg', it, ifs, 0⟩] scope pos) (some (.Name y py)) spos.line X.env = pure true) (hi : PI X tg' it (tI true L W ms)) (ok : BlkOk X.N X.env.scope scope own)
    (hg : ∀ (s : Shared) (H : Hp) (C : Addr) (cl : List (Str × Addr)) (fp : List Addr), PG (X.blk s H scope (compEnvC scope cl C X.env) fp) tg' (gT L.K tg))
    (ht : ∀ (s : Shared) (H : Hp) (C : Addr) (cl : List (Str × Addr)) (fp : List Addr), PTs (X.blk s H scope (compEnvC scope cl C X.env) fp) ifs (tT L E0 mc))
    (he : ∀ (s : Shared) (H : Hp) (C : Addr) (cl : List (Str × Addr)) (fp : List Addr), PE (X.blk s H scope (compEnvC scope cl C X.env) fp) elt (tE L E0 false me))
    (hv : own.map (·.2) = tg.slots) (hs : ∀ x, foldedSetIterable it X.env x = pure x) :
    PS X (.Assign [.Name y py] (.ListComp elt [⟨tg', it, ifs, 0⟩] scope pos) spos) (tAsg (tF L W fun r => do let items ← ms r; let ys ← lcL (lcF tg mc me r) items; .ok (.lst ys)) (gName i)) := by
  have rule := ps_setLc hc hN hy hyl hsw hi ok hg ht he hs
  refine ⟨fun pins s σ H Dn I hw => rule.run pins s σ H Dn I ?_⟩
  obtain ⟨Z, r, g, e, q⟩ := hw
  refine ⟨Z, r, g, e, (q.bind (rel := relI true L) (grows_f _)).mono fun J H1 ⟨Z1, items, _, g1, x1, ⟨sr, lim⟩, q1⟩ => fun Dd nD => ?_⟩
  obtain ⟨ys, hys, _⟩ := (q1.bind (rel := relI true L) (grows_f _)).of (lcL_ex _ _)
  rw [hys] at q1
  exact lc_walk hv g1 (e.ext x1) sr lim hys nD q1
end
end Mk
end
section
set_option Elab.async false
set_option linter.all false
set_option maxRecDepth 100000
set_option maxHeartbeats 4000000
namespace Mk
open PySem PySem.Spec PyProof.Rows L2

/-- a body's state, from its entry (Z0, H0) -/
structure SInv (L : Law) (Z0 H0 Z H : Hp) (σ : L2.St) (r : List Slot) : Prop where
  g : Good L.T Z H
  x : Ext Z0 H0 Z H
  e : EnvW L.K Z H σ r
  o : ∀ (i : Nat) (d : D), r[i]? = some (Slot.own d) → ∃ p, σ[i]? = some (some (V.ref p)) ∧ Fr H0 p ∧ Z p = none ∧ OwnX L.K Z H p d
  i : ∀ (i j : Nat) (d d' : D) (p : Addr), r[i]? = some (Slot.own d) → r[j]? = some (Slot.own d') → σ[i]? = some (some (V.ref p)) → σ[j]? = some (some (V.ref p)) → i = j
def GotS (L : Law) (W : XK) (Z0 H0 Zs : Hp) (x : R Out) (D : Ends) : Prop :=
  match x with
  | .ok (.nx r) => ∀ σ H Z, SInv L Z0 H0 Z H σ r → Le Zs Z → D.nx σ H
  | .ok (.rt d) => ∀ v H Z, Good L.T Z H → Ext Z0 H0 Z H → Rep L.K Z v d → D.rt v H
  | .ex e => ∀ H Z c d, Good L.T Z H → Ext Z0 H0 Z H → ExR L.ca e c d H → W c d H
  | .no => False
def tS (L : Law) (W : XK) (Z0 H0 : Hp) (m : List Slot → R Out) : TS := fun D σ H => ∃ Z r, SInv L Z0 H0 Z H σ r ∧ GotS L W Z0 H0 Z (m r) D
theorem PS.mono {X : Cx} {st : Stmt} {t u : TS} (h : PS X st t) (q : ∀ D σ H, u D σ H → t D σ H) : PS X st u := ⟨fun pins s σ H D I hw => h.run pins s σ H D I (q D σ H hw)⟩
theorem PS.or {X : Cx} {st : Stmt} {t u : TS} (h : PS X st t) (h' : PS X st u) : PS X st (fun D σ H => t D σ H ∨ u D σ H) := ⟨fun pins s σ H D I hw => hw.elim (h.run pins s σ H D I) (h'.run pins s σ H D I)⟩
theorem PSs.mono {X : Cx} {st : List Stmt} {t u : TS} (h : PSs X st t) (q : ∀ D σ H, u D σ H → t D σ H) : PSs X st u := ⟨fun pins s σ H D I hw => h.run pins s σ H D I (q D σ H hw)⟩

section
variable {L : Law} {W : XK} {Z0 H0 Z H Z1 H1 : Hp} {σ : L2.St} {r : List Slot} {Dn : Ends}
theorem SInv.ext (s : SInv L Z0 H0 Z H σ r) (g1 : Good L.T Z1 H1) (x : Ext Z H Z1 H1) : SInv L Z0 H0 Z1 H1 σ r :=
  ⟨g1, s.x.trans x, s.e.ext x, fun i d h => by
    obtain ⟨p, a, b, z, c⟩ := s.o i d h
    obtain ⟨u, hu, hn⟩ := c.own.some
    exact ⟨p, a, b, by rw [x.old _ _ hu hn, z], c.ext x⟩, s.i⟩
theorem GotS.weak {x : R Out} {Za Zb : Hp} (h : GotS L W Z0 H0 Za x Dn) (le : Le Za Zb) : GotS L W Z0 H0 Zb x Dn := by
  cases x with
  | ok o => cases o with
    | nx r => exact fun σ H Z s l => h σ H Z s (le.trans l)
    | rt d => exact h
  | ex e => exact h
  | no => exact h
/-- an expression is evaluated first -/
theorem GotS.bind {α γ : Type} {x : R α} {f : α → R Out} {rel : Hp → Hp → Hp → γ → α → Prop} (s : SInv L Z0 H0 Z H σ r) (h : GotS L W Z0 H0 Z (x >>= f) Dn) :
    Got L W Z H x rel (fun v H1 => ∃ Z1 d, x = .ok d ∧ SInv L Z0 H0 Z1 H1 σ r ∧ Ext Z H Z1 H1 ∧ rel H Z1 H1 v d ∧ GotS L W Z0 H0 Z1 (f d) Dn) := by
  cases x with
  | ok d => exact fun v H1 Z1 g1 x1 rv => ⟨Z1, d, rfl, s.ext g1 x1, x1, rv, GotS.weak h x1.le⟩
  | ex e => exact fun H' Z' c d g1 x1 k => h H' Z' c d g1 (s.x.trans x1) k
  | no => exact h
/-- a slot becomes a value -/
theorem SInv.val {i : Nat} {v : V} {d : D} (s : SInv L Z0 H0 Z H σ r) (hi : i < r.length) (rp : Rep L.K Z v d) : SInv L Z0 H0 Z H (σ.set i (some v)) (r.set i (.val d)) := by
  have en : EnvO [i] L.K Z H σ r := s.e.out
  refine ⟨s.g, s.x, (en.set rp hi).all, fun j e hj => ?_, fun j k d d' p hj hk sj sk => ?_⟩
  · by_cases h : i = j
    · subst h; rw [List.getElem?_set_self hi] at hj; cases hj
    · rw [List.getElem?_set_ne h] at hj ⊢; exact s.o j e hj
  · by_cases h : i = j
    · subst h; rw [List.getElem?_set_self hi] at hj; cases hj
    · by_cases h2 : i = k
      · subst h2; rw [List.getElem?_set_self hi] at hk; cases hk
      · rw [List.getElem?_set_ne h] at hj sj
        rw [List.getElem?_set_ne h2] at hk sk
        exact s.i j k d d' p hj hk sj sk
/-- a slot holds a thing of its own, made now -/
theorem SInv.own {i : Nat} {p : Addr} {d : D} (s : SInv L Z0 H0 Z H σ r) (hi : i < r.length) (h0 : Fr H0 p) (z : Z p = none) (w : OwnX L.K Z H p d)
    (hn : ∀ (j : Nat) (e : D), j ≠ i → r[j]? = some (Slot.own e) → σ[j]? ≠ some (some (V.ref p))) : SInv L Z0 H0 Z H (σ.set i (some (.ref p))) (r.set i (.own d)) := by
  have hs : i < σ.length := by rw [s.e.1]; exact hi
  refine ⟨s.g, s.x, ⟨by simp [s.e.1], fun j => ?_⟩, fun j e hj => ?_, fun j k d' d'' q hj hk sj sk => ?_⟩
  · by_cases h : i = j
    · subst h
      rw [List.getElem?_set_self hi]
      exact ⟨p, List.getElem?_set_self hs, z, w.own⟩
    · rw [List.getElem?_set_ne h, List.getElem?_set_ne h]; exact s.e.2 j
  · by_cases h : i = j
    · subst h
      rw [List.getElem?_set_self hi] at hj; cases hj
      exact ⟨p, List.getElem?_set_self hs, h0, z, w⟩
    · rw [List.getElem?_set_ne h] at hj ⊢; exact s.o j e hj
  · by_cases h : i = j
    · subst h
      rw [List.getElem?_set_self hs] at sj; cases sj
      by_cases h2 : i = k
      · exact h2
      · rw [List.getElem?_set_ne h2] at hk sk
        exact absurd sk (hn k _ (fun z => h2 z.symm) hk)
    · by_cases h2 : i = k
      · subst h2
        rw [List.getElem?_set_self hs] at sk; cases sk
        rw [List.getElem?_set_ne h] at hj sj
        exact absurd sj (hn j _ (fun z => h z.symm) hj)
      · rw [List.getElem?_set_ne h] at hj sj
        rw [List.getElem?_set_ne h2] at hk sk
        exact s.i j k _ _ q hj hk sj sk
/-- a thing of its own is changed in its place -/
theorem SInv.put {i : Nat} {p : Addr} {d d' : D} {o : HO} (s : SInv L Z0 H0 Z H σ r) (hr : r[i]? = some (.own d)) (hσ : σ[i]? = some (some (.ref p))) (w : OwnX L.K Z (upd H p o) p d') : SInv L Z0 H0 Z (upd H p o) σ (r.set i (.own d')) := by
  obtain ⟨p', e1, h0, z, wo⟩ := s.o i d hr
  rw [hσ] at e1; cases e1
  obtain ⟨hi, _⟩ := List.getElem?_eq_some_iff.mp hr
  have hp : ∃ u, H p = some u ∧ (∀ ps, u ≠ .tbl ps) ∧ ∀ f, u ≠ .ext f := by
    cases wo with
    | lst a _ _ => exact ⟨_, a, (fun _ h => nomatch h), (fun _ h => nomatch h)⟩
    | dct a _ _ => exact ⟨_, a, (fun _ h => nomatch h), (fun _ h => nomatch h)⟩
  obtain ⟨u, hu, n1, n2⟩ := hp
  have other : ∀ {q : Addr} {e : D}, q ≠ p → OwnX L.K Z H q e → OwnX L.K Z (upd H p o) q e := fun hq k => by
    cases k with
    | lst a b c => exact .lst (by rw [upd_ne hq]; exact a) b c
    | dct a b c => exact .dct (by rw [upd_ne hq]; exact a) b c
  have ne : ∀ {j : Nat} {e : D} {q : Addr}, i ≠ j → r[j]? = some (.own e) → σ[j]? = some (some (.ref q)) → q ≠ p := fun hj h1 h2 h3 => by
    subst h3; exact hj (s.i i _ _ _ _ hr h1 hσ h2)
  refine ⟨s.g.set z hu n1 n2, s.x.set h0, ⟨by simp [s.e.1], fun j => ?_⟩, fun j e hj => ?_, fun j k d1 d2 q hj hk sj sk => ?_⟩
  · by_cases h : i = j
    · subst h
      rw [List.getElem?_set_self hi]
      exact ⟨p, hσ, z, w.own⟩
    · rw [List.getElem?_set_ne h]
      have k := s.e.2 j
      split at k
      · exact k
      · rename_i e hj
        obtain ⟨q, a, _, b, c⟩ := s.o j e hj
        exact ⟨q, a, b, (other (ne h hj a) c).own⟩
      · trivial
  · by_cases h : i = j
    · subst h
      rw [List.getElem?_set_self hi] at hj; cases hj
      exact ⟨p, hσ, h0, z, w⟩
    · rw [List.getElem?_set_ne h] at hj
      obtain ⟨q, a, b, c, e'⟩ := s.o j e hj
      exact ⟨q, a, b, c, other (ne h hj a) e'⟩
  · have back : ∀ {j : Nat} {d1 : D}, (r.set i (.own d'))[j]? = some (.own d1) → ∃ d2, r[j]? = some (.own d2) := fun {j d1} h => by
      by_cases q : i = j
      · subst q; exact ⟨d, hr⟩
      · rw [List.getElem?_set_ne q] at h; exact ⟨_, h⟩
    obtain ⟨_, b1⟩ := back hj
    obtain ⟨_, b2⟩ := back hk
    exact s.i j k _ _ q b1 b2 sj sk
end

section
variable {L : Law} {W : XK} {X : Cx} {pos : Pos} {Z0 H0 : Hp} {a b c : Expr} {ma mb : List Slot → R D}
theorem d_skip {m : List Slot → R Out} (hm : ∀ r, m r = .ok (.nx r)) : PSs X [] (tS L W Z0 H0 m) := by
  refine PSs.mono pss_nil fun D σ H ⟨Z, r, s, q⟩ => ?_
  rw [hm] at q
  exact q σ H Z s (Le.refl _)
theorem d_seq {st : Stmt} {rest : List Stmt} {m m' : List Slot → R Out} (h1 : PS X st (tS L W Z0 H0 m)) (h2 : PSs X rest (tS L W Z0 H0 m')) :
    PSs X (st :: rest) (tS L W Z0 H0 fun r => do match ← m r with | .nx r' => m' r' | .rt d => .ok (.rt d)) := by
  refine PSs.mono (pss_cons h1 h2) fun D σ H ⟨Z, r, s, q⟩ => ⟨Z, r, s, ?_⟩
  replace q : GotS L W Z0 H0 Z (m r >>= fun o => match o with | .nx r' => m' r' | .rt d => .ok (.rt d)) D := q
  revert q
  cases m r with
  | ok o =>
    cases o with
    | nx r' => exact fun q σ' H' Z' s' le => ⟨Z', r', s', GotS.weak q le⟩
    | rt d => exact fun q => q
  | ex e => exact fun q => q
  | no => exact fun q => q
theorem d_set {i : Nat} {x : Str} {p : Pos} {rule : PS X (.Assign [.Name x p] a pos) (tAsg (tE L W false ma) (gName i))} : PS X (.Assign [.Name x p] a pos) (tS L W Z0 H0 fun r => do let d ← ma r; if i < r.length then .ok (.nx (r.set i (.val d))) else .no) := by
  refine PS.mono rule fun D σ H ⟨Z, r, s, q⟩ => ⟨Z, r, s.g, s.e, (GotS.bind (rel := relV false L.K) s q).mono fun v H1 ⟨Z1, d, _, s1, x1, rv, q1⟩ => ?_⟩
  split at q1
  · rename_i hi
    exact q1 _ _ Z1 (s1.val hi (RepM.val rv)) (Le.refl _)
  · exact q1.elim
theorem d_setF {i : Nat} {x : Str} {p : Pos} (rule : PS X (.Assign [.Name x p] a pos) (tAsg (tF L W ma) (gName i))) : PS X (.Assign [.Name x p] a pos) (tS L W Z0 H0 fun r => do let d ← ma r; if i < r.length then .ok (.nx (r.set i (if isMut d = true then .own d else .val d))) else .no) := by
  refine PS.mono rule fun D σ H ⟨Z, r, s, q⟩ => ⟨Z, r, s.g, s.e, (GotS.bind (rel := relF L.K) s q).mono fun v H1 ⟨Z1, d, _, s1, x1, rv, q1⟩ => ?_⟩
  split at q1
  · rename_i hi
    unfold relF Made at rv
    by_cases hm : isMut d = true
    · rw [if_pos hm] at rv q1
      obtain ⟨p, rfl, hn, z, w⟩ := rv
      refine q1 _ _ Z1 (s1.own hi (s.x.dom p hn) z w fun j e hj hr hs => ?_) (Le.refl _)
      obtain ⟨p', a, _, _, k⟩ := s.o j e hr
      rw [hs] at a; cases a
      obtain ⟨u, hu, nt⟩ := k.own.some
      obtain ⟨ps, e⟩ := hn u hu
      exact nt ps e
    · rw [if_neg hm] at rv q1
      exact q1 _ _ Z1 (s1.val hi rv) (Le.refl _)
  · exact q1.elim
theorem setAll_ok {Z H : Hp} {Q : L2.St → Hp → Prop} : ∀ {is : List Nat} {ds : List D} {vs : List V} {σ : L2.St} {r r' : List Slot}, setAll is ds r = some r' → SInv L Z0 H0 Z H σ r → RepL L.K Z vs ds →
    (∀ σ', SInv L Z0 H0 Z H σ' r' → Q σ' H) → gNames is vs σ H Q
  | [], [], _, σ, r, r', e, s, rl, q => by
    cases rl; cases e
    exact ⟨rfl, q σ s⟩
  | [], _ :: _, _, _, _, _, e, _, _, _ => by cases e
  | _ :: _, [], _, _, _, _, e, _, _, _ => by cases e
  | i :: is, d :: ds, _, σ, r, r', e, s, rl, q => by
    cases rl with
    | cons a b =>
      rw [setAll] at e
      split at e
      · rename_i hi
        exact ⟨_, _, rfl, setAll_ok e (s.val hi a) b q⟩
      · cases e
theorem asg_ok {Z H : Hp} {Q : L2.St → Hp → Prop} {tg : Tg} {d : D} {v : V} {σ : L2.St} {r r' : List Slot} (e : asg tg d r = .ok r') (s : SInv L Z0 H0 Z H σ r) (rp : Rep L.K Z v d) (q : ∀ σ', SInv L Z0 H0 Z H σ' r' → Q σ' H) : gT L.K tg v σ H Q := by
  cases tg with
  | nm i =>
    have e : (if i < r.length then R.ok (r.set i (.val d)) else .no) = .ok r' := e
    split at e <;> cases e
    rename_i hi
    exact q _ (s.val hi rp)
  | tp is =>
    cases d with
    | tup ds =>
      obtain ⟨z, e1, rfl⟩ := opt_some (show opt id (setAll is ds r) = .ok r' from e)
      cases rp with
      | tup za _ len rl =>
        have hl : ∀ {is : List Nat} {ds : List D} {r z : List Slot}, setAll is ds r = some z → is.length = ds.length := by
          intro is
          induction is with
          | nil => intro ds r z h; cases ds with
            | nil => rfl
            | cons _ _ => cases h
          | cons i is ih => intro ds r z h; cases ds with
            | nil => cases h
            | cons d ds =>
              rw [setAll] at h
              split at h
              · simp [ih h]
              · cases h
        exact ⟨_, _, rfl, (show SqT L.K H _ _ from .inl (.inr ⟨_, s.g.sub _ _ za⟩)), by rw [rl.length, hl e1], setAll_ok e1 s rl q⟩
    | tpl ds =>
      obtain ⟨z, e1, rfl⟩ := opt_some (show opt id (setAll is ds r) = .ok r' from e)
      cases rp with
      | tpl za len rl =>
        have hl : ∀ {is : List Nat} {ds : List D} {r z : List Slot}, setAll is ds r = some z → is.length = ds.length := by
          intro is
          induction is with
          | nil => intro ds r z h; cases ds with
            | nil => rfl
            | cons _ _ => cases h
          | cons i is ih => intro ds r z h; cases ds with
            | nil => cases h
            | cons d ds =>
              rw [setAll] at h
              split at h
              · simp [ih h]
              · cases h
        exact ⟨_, _, rfl, SqT.of (s.g.sub _ _ za), by rw [rl.length, hl e1], setAll_ok e1 s rl q⟩
    | _ => cases e
theorem asg_ex (tg : Tg) (d : D) (r : List Slot) (e : Ex) : asg tg d r ≠ .ex e := by
  intro h; unfold asg at h
  repeat' (first | (split at h) | (exact opt_ex _ _ _ h) | cases h)
theorem d_unp {tg' : Expr} {tg : Tg} (rule : PS X (.Assign [tg'] a pos) (tAsg (tE L W false ma) (gT L.K tg))) : PS X (.Assign [tg'] a pos) (tS L W Z0 H0 fun r => do let d ← ma r; let r' ← asg tg d r; .ok (.nx r')) := by
  refine PS.mono rule fun D σ H ⟨Z, r, s, q⟩ => ⟨Z, r, s.g, s.e, (GotS.bind (rel := relV false L.K) s q).mono fun v H1 ⟨Z1, d, _, s1, x1, rv, q1⟩ => ?_⟩
  cases h : asg tg d r with
  | ok r' =>
    rw [h] at q1
    exact asg_ok h s1 (RepM.val rv) fun σ' s' => q1 σ' _ Z1 s' (Le.refl _)
  | ex e => exact absurd h (asg_ex _ _ _ _)
  | no => rw [h] at q1; exact q1.elim
theorem d_ret (rule : PE X a (tE L W false ma)) : PS X (.Return (some a) pos) (tS L W Z0 H0 fun r => do let d ← ma r; .ok (.rt d)) := by
  refine PS.mono (ps_ret rule) fun D σ H ⟨Z, r, s, q⟩ => ⟨Z, r, s.g, s.e, (GotS.bind (rel := relV false L.K) s q).mono fun v H1 ⟨Z1, d, _, s1, x1, rv, q1⟩ => ?_⟩
  exact q1 v H1 Z1 s1.g s1.x (RepM.val rv)
theorem d_retV {i : Nat} {x : Str} {p : Pos} (hN : X.N[i]? = some x) (hv : Vis X.env.scope x) (hd : (x == ("__debug__" : Str)) = false) (hcd : (x == ("__classdict__" : Str)) = false)
    {m : List Slot → R Out} (hm : ∀ r, m r = match r[i]? with | some (.val d) => .ok (.rt d) | some (.own d) => .ok (.rt d) | _ => .no) : PS X (.Return (some (.Name x p)) pos) (tS L W Z0 H0 m) := by
  refine PS.mono (ps_ret (pe_var hN hv hd hcd)) fun D σ H ⟨Z, r, s, q⟩ => ?_
  have k := s.e.2 i
  rw [hm] at q
  split at q
  · rename_i d h
    rw [h] at k
    obtain ⟨v, h1, h2⟩ := k
    exact ⟨v, h1, q v H Z s.g s.x h2⟩
  · rename_i d h
    obtain ⟨p, h1, h0, z, w⟩ := s.o i d h
    obtain ⟨u, hu, nt, rp⟩ := w.own.fix z
    refine ⟨_, h1, q _ H _ (s.g.fix hu nt) ⟨s.x.le.trans (Le.of fun a x e => by rw [upd_ne (ne_of_none e z)]; exact e), s.x.keep, fun a o e n => ?_⟩ rp⟩
    rw [upd_ne (Fr.ne e n h0), s.x.old a o e n]
  · exact q.elim
theorem SInv.frz {Z H : Hp} {σ : L2.St} {r : List Slot} (s : SInv L Z0 H0 Z H σ r) : ∃ Z', SInv L Z0 H0 Z' H σ (frzR r) ∧ Le Z Z' := by
  classical
  let P : Addr → Prop := fun a => ∃ (i : Nat) (d : D), r[i]? = some (Slot.own d) ∧ σ[i]? = some (some (V.ref a))
  have hP : ∀ a, P a → Fr H0 a ∧ Z a = none ∧ ∃ d, OwnX L.K Z H a d := fun a ⟨i, d, h1, h2⟩ => by
    obtain ⟨p, h3, h4, h5, h6⟩ := s.o i d h1
    rw [h2] at h3
    cases h3
    exact ⟨h4, h5, d, h6⟩
  let Z' : Hp := fun a => if P a then H a else Z a
  have z1 : ∀ a, P a → Z' a = H a := fun a h => if_pos h
  have z2 : ∀ a, ¬ P a → Z' a = Z a := fun a h => if_neg h
  have le : Le Z Z' := Le.of fun a o e => by
    rw [z2 a fun h => by rw [(hP a h).2.1] at e; cases e]
    exact e
  refine ⟨Z', ⟨⟨fun a o e => ?_, s.g.tabs, fun a ps e => ?_⟩, ⟨s.x.le.trans le, s.x.keep, fun a o e n => ?_⟩, ⟨by rw [frzR, List.length_map]; exact s.e.1, fun i => ?_⟩, fun i d h => ?_, fun i j d d' p h => ?_⟩, le⟩
  · by_cases h : P a
    · rw [z1 a h] at e; exact e
    · rw [z2 a h] at e; exact s.g.sub a o e
  · by_cases h : P a
    · rw [z1 a h] at e
      obtain ⟨_, _, d, w⟩ := hP a h
      obtain ⟨u, hu, nt⟩ := w.own.some
      rw [hu] at e
      exact nt ps (Option.some.inj e)
    · rw [z2 a h] at e; exact s.g.ntb a ps e
  · rw [z2 a fun h => Fr.ne e n (hP a h).1 rfl, s.x.old a o e n]
  · have k := s.e.2 i
    rw [frzR, List.getElem?_map]
    cases hr : r[i]? with
    | none => exact True.intro
    | some q =>
      rw [hr] at k
      cases q with
      | un => exact True.intro
      | val d =>
        obtain ⟨v, h1, h2⟩ := k
        exact ⟨v, h1, h2.mono le⟩
      | own d =>
        obtain ⟨p, h3, h4, h5, h6⟩ := s.o i d hr
        refine ⟨_, h3, ?_⟩
        have hp : Z' p = H p := z1 p ⟨i, d, hr, h3⟩
        cases h6 with
        | lst a b c => exact .lst (hp.trans a) b (c.mono le)
        | dct a b c => exact .dct (.inl (hp.trans a)) b (c.mono le)
  · rw [frzR, List.getElem?_map] at h
    cases hr : r[i]? with
    | none => rw [hr] at h; cases h
    | some q => rw [hr] at h; cases q <;> cases h
  · rw [frzR, List.getElem?_map] at h
    cases hr : r[i]? with
    | none => rw [hr] at h; cases h
    | some q => rw [hr] at h; cases q <;> cases h
theorem d_retF (rule : PE X a (tE L W false ma)) : PS X (.Return (some a) pos) (tS L W Z0 H0 fun r => do let d ← ma (frzR r); .ok (.rt d)) := by
  refine PS.mono (d_ret (Z0 := Z0) (H0 := H0) rule) fun D σ H ⟨Z, r, s, q⟩ => ?_
  obtain ⟨Z', s', le⟩ := s.frz
  exact ⟨Z', frzR r, s', GotS.weak q le⟩
/-- things of its own are told once for all, then a statement goes -/
theorem d_frz {st : Stmt} {m : List Slot → R Out} (rule : PS X st (tS L W Z0 H0 m)) : PS X st (tS L W Z0 H0 fun r => m (frzR r)) := by
  refine PS.mono rule fun D σ H ⟨Z, r, s, q⟩ => ?_
  obtain ⟨Z', s', le⟩ := s.frz
  exact ⟨Z', frzR r, s', GotS.weak q le⟩
theorem d_drop (rule : PS X (.Expr a pos) (tDrop (tE L W false ma))) : PS X (.Expr a pos) (tS L W Z0 H0 fun r => do let _ ← ma r; .ok (.nx r)) := by
  refine PS.mono rule fun D σ H ⟨Z, r, s, q⟩ => ⟨Z, r, s.g, s.e, (GotS.bind (rel := relV false L.K) s q).mono fun v H1 ⟨Z1, d, _, s1, x1, rv, q1⟩ => ?_⟩
  exact q1 σ H1 Z1 s1 (Le.refl _)
theorem d_if {st st' : List Stmt} {mt : List Slot → R Bool} {m m' : List Slot → R Out} (hc : PT X c (tT L W mt)) (h1 : PSs X st (tS L W Z0 H0 m)) (h2 : PSs X st' (tS L W Z0 H0 m')) :
    PS X (.If c st st' pos) (tS L W Z0 H0 fun r => do match ← mt r with | true => m r | false => m' r) := by
  refine PS.mono (ps_if hc h1 h2) fun D σ H ⟨Z, r, s, q⟩ => ⟨Z, r, s.g, s.e, (GotS.bind (rel := relB) s q).mono fun b H1 ⟨Z1, d, _, s1, x1, rv, q1⟩ => ?_⟩
  cases rv
  cases b with
  | true => rw [if_pos rfl]; exact ⟨Z1, r, s1, q1⟩
  | false => rw [if_neg (by decide)]; exact ⟨Z1, r, s1, q1⟩
/-- x.append(e) -/
theorem d_app {i : Nat} {x : Str} {p apos : Pos} (hv : PE X (.Name x p) (tVar i)) (ha : PE X a (tE L W false ma)) (hs : starEach [a] X.env = [(false, eval a X.env)]) (hline : (apos.endLine == pos.line) = true) {spos : Pos} :
    PS X (.Expr (.Call (.Attribute (.Name x p) "append" apos) [a] [] pos) spos) (tS L W Z0 H0 fun r => match r[i]? with | some (.own (.lst ds)) => (do let d ← ma r; if ds.length < LIM then .ok (.nx (r.set i (.own (.lst (ds ++ [d]))))) else .no) | _ => .no) := by
  refine PS.mono (ps_expr (pe_bm PySem.F.plainAttrs_list PySem.F.slot_list_append PySem.F.type_list_append mt_append hv (pa_cons ha pa_nil (by rw [hs]; rfl)) rfl (by rw [hs]; rfl) hline (by rw [hs]; rfl) rfl) rfl) fun D σ H ⟨Z, r, s, q⟩ => ?_
  simp only at q
  split at q
  · rename_i ds hr
    obtain ⟨l, h1, h0, z, w⟩ := s.o i _ hr
    cases w with
    | lst hl len rl =>
      refine ⟨_, h1, .inl ⟨rfl, _, SqL.of hl⟩, Z, r, s.g, s.e, (GotS.bind (rel := relV false L.K) s q).mono fun v H1 ⟨Z1, d, _, s1, x1, rv, q2⟩ => ?_⟩
      split at q2
      · rename_i hlt
        have hl1 := x1.keep _ _ hl (fun _ h => nomatch h)
        have e1 := rl.length
        exact ⟨l, _, _, rfl, rfl, hl1, by rw [sizeLine_eq]; unfold LIM at hlt; omega, q2 _ _ Z1 (s1.put hr h1 (.lst upd_same (by simp; omega) ((rl.mono x1.le).append (.cons (RepM.val rv) .nil)))) (Le.refl _)⟩
      · exact q2.elim
  · exact q.elim
/-- x.extend(e) -/
theorem d_ext {i : Nat} {x : Str} {p apos : Pos} (hv : PE X (.Name x p) (tVar i)) (ha : PE X a (tE L W false ma)) (hs : starEach [a] X.env = [(false, eval a X.env)]) (hline : (apos.endLine == pos.line) = true) {spos : Pos} :
    PS X (.Expr (.Call (.Attribute (.Name x p) "extend" apos) [a] [] pos) spos) (tS L W Z0 H0 fun r => match r[i]? with | some (.own (.lst ds)) => (do let d ← ma r; match d with | .lst es => if ds.length + es.length ≤ LIM then .ok (.nx (r.set i (.own (.lst (ds ++ es))))) else .no | _ => .no) | _ => .no) := by
  refine PS.mono (ps_expr (pe_bm PySem.F.plainAttrs_list PySem.F.slot_list_extend PySem.F.type_list_extend mt_extend hv (pa_cons ha pa_nil (by rw [hs]; rfl)) rfl (by rw [hs]; rfl) hline (by rw [hs]; rfl) rfl) rfl) fun D σ H ⟨Z, r, s, q⟩ => ?_
  simp only at q
  split at q
  · rename_i ds hr
    obtain ⟨l, h1, h0, z, w⟩ := s.o i _ hr
    cases w with
    | lst hl len rl =>
      refine ⟨_, h1, .inl ⟨rfl, _, SqL.of hl⟩, Z, r, s.g, s.e, (GotS.bind (rel := relV false L.K) s q).mono fun v H1 ⟨Z1, d, _, s1, x1, rv, q2⟩ => ?_⟩
      cases d with
      | lst es =>
        have q3 : GotS L W Z0 H0 Z1 (if ds.length + es.length ≤ LIM then .ok (.nx (r.set i (.own (.lst (ds ++ es))))) else .no) D := q2
        split at q3
        · rename_i hlt
          have hl1 := x1.keep _ _ hl (fun _ h => nomatch h)
          have e1 := rl.length
          obtain ⟨b, zs, rfl, hb, lb, rb⟩ := rep_lst s1.g rv
          have e2 := rb.length
          exact ⟨l, b, _, _, rfl, rfl, hl1, hb, lim_line (by omega), q3 _ _ Z1 (s1.put hr h1 (.lst upd_same (by simp; omega) ((rl.mono x1.le).append rb))) (Le.refl _)⟩
        · exact q3.elim
      | _ => exact q2.elim
  · exact q.elim
/-- the walk of a for -/
theorem d_for {tg' it : Expr} {body : List Stmt} {tg : Tg} {ms : List Slot → R (List D)} {mb : List Slot → R Out} (hp : PassesOwn (model X.prog X.w) X.A X.env X.xe) (hc : X.calm = true) (hi : PI X tg' it (tI false L W ms)) (hg : PG X tg' (gT L.K tg)) (hb : PSs X body (tS L W Z0 H0 mb))
    (hs : ∀ x, foldedSetIterable it X.env x = pure x) : PS X (.For tg' it body [] pos) (tS L W Z0 H0 fun r => do let items ← ms r; forL (fun x r => do let r' ← asg tg x r; mb r') items r) := by
  refine PS.mono (ps_for hp hc hi hg hb hs) fun D σ H ⟨Z, r, s, q⟩ => ⟨Z, r, s.g, s.e, (GotS.bind (rel := relI false L) s q).mono fun J H1 ⟨Z1, items, _, s1, x1, ⟨⟨G, Y, wk, hG, hY⟩, lim⟩, q1⟩ => ?_⟩
  refine for_it wk (fun i σ H => ∃ Z r, SInv L Z0 H0 Z H σ r ∧ Le Z1 Z ∧ GotS L W Z0 H0 Z (forL (fun x r => do let r' ← asg tg x r; mb r') (items.drop i) r) D) ⟨Z1, r, s1, Le.refl _, q1⟩ (fun i σ H _ ⟨Z, r, s, le, _⟩ => hG Z H s.g le) ?_ ?_
  · intro i x σ H H' hi ⟨Z, r, s, le, q⟩ yy
    obtain ⟨Z2, d, hd, g2, x2, rp⟩ := hY i x H H' Z hi s.g le yy
    have hdr : items.drop i = d :: items.drop (i + 1) := by
      obtain ⟨h1, h2⟩ := List.getElem?_eq_some_iff.mp hd
      rw [← h2]; exact List.drop_eq_getElem_cons h1
    rw [hdr, forL] at q
    have s2 := s.ext g2 x2
    cases h : asg tg d r with
    | ok r' =>
      rw [h] at q
      refine asg_ok h s2 rp fun σ' s' => ⟨Z2, r', s', ?_⟩
      simp only [R.ok_bind] at q
      revert q
      cases mb r' with
      | ok o =>
        cases o with
        | nx r2 => exact fun q σ3 H3 Z3 s3 l3 => ⟨Z3, r2, s3, (le.trans x2.le).trans l3, GotS.weak q (x2.le.trans l3)⟩
        | rt d => exact fun q => q
      | ex e => exact fun q => q
      | no => exact fun q => q
    | ex e => exact absurd h (asg_ex _ _ _ _)
    | no => rw [h] at q; exact q.elim
  · intro σ H ⟨Z, r, s, le, q⟩
    rw [List.drop_length] at q
    exact q σ H Z s (Le.refl _)
end
end Mk
end
section
set_option Elab.async false
set_option linter.all false
set_option maxRecDepth 100000
set_option maxHeartbeats 4000000
namespace Mk
open PySem PySem.Spec PyProof.Rows L2

theorem d_bad {L : Law} {W : XK} {X : Cx} {Z0 H0 : Hp} {st : Stmt} {m : List Slot → R Out} (hm : ∀ r, m r = .no) : PS X st (tS L W Z0 H0 m) := by
  refine ⟨fun pins s σ H D I hw => ?_⟩
  obtain ⟨Z, r, _, q⟩ := hw
  rw [hm] at q
  exact q.elim

theorem putR_dct {ks : List (List Nat)} {vs : List D} {x d o : D} (h : putR (.dct ks vs) x d = .ok o) : ∃ key, x = .str key ∧ (((look key ks vs).isSome = true ∧ o = .dct ks (putD key d ks vs)) ∨ ((look key ks vs).isSome = false ∧ ks.length < LIM ∧ o = .dct (ks ++ [key]) (vs ++ [d]))) := by
  cases x <;> try (cases h; done)
  rename_i key
  have h : (if (look key ks vs).isSome = true then R.ok (D.dct ks (putD key d ks vs)) else if ks.length < LIM then .ok (.dct (ks ++ [key]) (vs ++ [d])) else .no) = .ok o := h
  refine ⟨key, rfl, ?_⟩
  split at h
  · rename_i hs; cases h; exact .inl ⟨hs, rfl⟩
  · rename_i hs
    split at h
    · rename_i hl; cases h; exact .inr ⟨by simpa using hs, hl, rfl⟩
    · cases h
theorem putR_lst {ds : List D} {x d o : D} (h : putR (.lst ds) x d = .ok o) : ∃ j n, x = .int j ∧ ixN ds.length j = some n ∧ o = .lst (ds.set n d) := by
  cases x <;> try (cases h; done)
  rename_i j
  have h : (match ixN ds.length j with | some n => R.ok (D.lst (ds.set n d)) | none => .no) = .ok o := h
  split at h
  · rename_i n e; cases h; exact ⟨j, n, rfl, e, rfl⟩
  · cases h
theorem putR_ex (o x d : D) (e : Ex) : putR o x d ≠ .ex e := by
  intro h; unfold putR at h
  repeat' (first | (split at h) | cases h)
section
variable {L : Law} {W : XK} {X : Cx} {pos : Pos} {Z0 H0 : Hp} {a b c : Expr} {ma mb : List Slot → R D}
theorem GotS.no {Z : Hp} {x : R Out} {Dn : Ends} (h : GotS L W Z0 H0 Z x Dn) : x ≠ .no := by
  intro e; rw [e] at h; exact h
/-- x[k] = e -/
theorem d_put {i : Nat} {x : Str} {p pos' : Pos} {k : Expr} {mk : List Slot → R D} (hu : X.A.units + 65 < cLine) (hv : PE X (.Name x p) (tVar i)) (hk : PE X k (tE L W false mk)) (ha : PE X a (tE L W false ma))
    (hs : swapsWith a (some (.Subscript (.Name x p) k pos')) pos.line X.env = pure false)
    (hw : ∀ v, assign (.Subscript (.Name x p) k pos') X.env v = (do
      let ov ← holding [v] (eval (.Name x p) X.env)
      let iv ← holding [v, ov] (eval k X.env)
      standAt pos'
      holding [v, ov, iv] (setItem ov iv v)
      release [v, ov, iv] []))
    (hw2 : swappedStores [.Subscript (.Name x p) k pos'] a X.env = pure none) (hw1 : (assignEach [.Subscript (.Name x p) k pos'] X.env).map (·.2) = [assign (.Subscript (.Name x p) k pos') X.env]) :
    PS X (.Assign [.Subscript (.Name x p) k pos'] a pos) (tS L W Z0 H0 fun r => match r[i]? with | some (.own o) => (do let d ← ma r; let y ← mk r; let o' ← putR o y d; .ok (.nx (r.set i (.own o')))) | _ => .no) := by
  refine PS.mono (PS.or (ps_dput (by omega) hv hk ha hs) (ps_asg ha (pg_sub hv hk set_list hw) hs hw2 hw1)) fun D σ H ⟨Z, r, s, q⟩ => ?_
  simp only at q
  split at q
  · rename_i o hr
    obtain ⟨l, h1, h0, z, w⟩ := s.o i _ hr
    cases w with
    | @dct kvs ks vs hl len rk =>
      refine .inl ⟨Z, r, s.g, s.e, (GotS.bind (rel := relV false L.K) s q).mono fun v H1 ⟨Z1, d, _, s1, x1, rv, q2⟩ => ?_⟩
      refine ⟨_, h1, Z1, r, s1.g, s1.e, (GotS.bind (rel := relV false L.K) s1 q2).mono fun y H2 ⟨Z2, d2, _, s2, x2, ry, q3⟩ => ?_⟩
      have hl2 := x2.keep _ _ (x1.keep _ _ hl (fun _ h => nomatch h)) (fun _ h => nomatch h)
      have rk2 := (rk.mono x1.le).mono x2.le
      have rv2 := (RepM.val rv).mono x2.le
      cases hp : putR (.dct ks vs) d2 d with
      | no => rw [hp] at q3; exact q3.elim
      | ex e => exact absurd hp (putR_ex _ _ _ _)
      | ok o' =>
        rw [hp] at q3
        obtain ⟨key, rfl, ho⟩ := putR_dct hp
        obtain ⟨rfl, lk, ok⟩ := rep_str ry
        have e1 := rk.lengthK
        have hlen : kvs.length < sizeLine := by rw [sizeLine_eq]; unfold LIM at len; omega
        refine ⟨l, _, rfl, DPut.k (k := .inr (toS key)) hl2 hlen, ?_⟩
        have ha := putK_look (key := key) rk2
        rcases ho with ⟨hs1, rfl⟩ | ⟨hs1, hlt, rfl⟩
        · have e2 : putK kvs (.inr (toS key)) v = kvs.map fun kv => if kv.1 = (.inr (toS key) : Key) then (kv.1, v) else kv := by
            unfold putK; rw [if_pos (by rw [ha, hs1])]
          rw [e2]
          exact q3 _ _ Z2 (s2.put hr h1 (.dct upd_same (by simp; omega) (putK_in rv2 rk2))) (Le.refl _)
        · have e2 : putK kvs (.inr (toS key)) v = kvs ++ [(.inr (toS key), v)] := by
            unfold putK; rw [if_neg (by rw [ha, hs1]; decide)]
          rw [e2]
          exact q3 _ _ Z2 (s2.put hr h1 (.dct upd_same (by simp; omega) (RepK.append lk ok rv2 rk2))) (Le.refl _)
    | @lst xs ds hl len rl =>
      refine .inr ⟨Z, r, s.g, s.e, (GotS.bind (rel := relV false L.K) s q).mono fun v H1 ⟨Z1, d, _, s1, x1, rv, q2⟩ => ?_⟩
      refine ⟨_, h1, Z1, r, s1.g, s1.e, (GotS.bind (rel := relV false L.K) s1 q2).mono fun y H2 ⟨Z2, d2, _, s2, x2, ry, q3⟩ => ?_⟩
      have hl2 := x2.keep _ _ (x1.keep _ _ hl (fun _ h => nomatch h)) (fun _ h => nomatch h)
      have rl2 := (rl.mono x1.le).mono x2.le
      have rv2 := (RepM.val rv).mono x2.le
      cases hp : putR (.lst ds) d2 d with
      | no => rw [hp] at q3; exact q3.elim
      | ex e => exact absurd hp (putR_ex _ _ _ _)
      | ok o' =>
        rw [hp] at q3
        obtain ⟨j, n, rfl, hj, rfl⟩ := putR_lst hp
        have e1 := rl.length
        cases rep_int ry
        refine ⟨l, xs, j, n, rfl, rfl, hl2, ?_, ?_⟩
        · rw [e1]; exact hj
        · exact q3 _ _ Z2 (s2.put hr h1 (.lst upd_same (by simp; omega) (RepL.set rv2 n rl2))) (Le.refl _)
  · exact q.elim
/-- while -/
theorem d_wh {body : List Stmt} {mc : List Slot → R Bool} {mb : List Slot → R Out} {n : Nat} (hp : PassesOwn (model X.prog X.w) X.A X.env X.xe) (hc : PT X c (tT L W mc)) (hb : PSs X body (tS L W Z0 H0 mb)) :
    PS X (.While c body [] pos) (tS L W Z0 H0 fun r => whL mc mb n r) := by
  refine PS.mono (ps_while hp hc hb) fun D σ H ⟨Z, r, s, q⟩ => ?_
  refine ⟨fun m σ H => ∃ Z r, SInv L Z0 H0 Z H σ r ∧ GotS L W Z0 H0 Z (whL mc mb m r) D, ⟨n, Z, r, s, q⟩, fun m σ H ⟨Z, r, s, q⟩ => ?_⟩
  cases m with
  | zero => exact q.elim
  | succ m =>
    rw [whL] at q
    refine ⟨Z, r, s.g, s.e, (GotS.bind (rel := relB) s q).mono fun b H1 ⟨Z1, d, _, s1, x1, rv, q1⟩ => ?_⟩
    cases rv
    cases b with
    | false => rw [if_neg (by decide)]; exact q1 σ H1 Z1 s1 (Le.refl _)
    | true =>
      rw [if_pos rfl]
      refine ⟨fun σ' H' => ∃ Z r, SInv L Z0 H0 Z H' σ' r ∧ GotS L W Z0 H0 Z (whL mc mb m r) D, fun σ' H' h => ⟨m, Nat.lt_succ_self m, h⟩, Z1, r, s1, ?_⟩
      simp only at q1
      revert q1
      cases mb r with
      | ok o =>
        cases o with
        | nx r' => exact fun q1 σ' H' Z' s' le => ⟨Z', r', s', GotS.weak q1 le⟩
        | rt d => exact fun q1 => q1
      | ex e => exact fun q1 => q1
      | no => exact fun q1 => q1
end
end Mk
end
section
set_option Elab.async false
set_option linter.all false
set_option maxRecDepth 100000
set_option maxHeartbeats 4000000
namespace Mk
open PySem PySem.Spec PyProof.Rows L2

theorem tabs_lock {T : List (Addr × Str)} {H : Hp} {p : Addr} {kvs : List (Key × V)} {o : HO} (t : LamX.Tabs T H) (h : H p = some (.dK kvs)) : LamX.Tabs T (upd H p o) := tabs_set t h (fun _ h => nomatch h) (fun _ h => nomatch h)
theorem tabs_unlock {T : List (Addr × Str)} {H : Hp} {p : Addr} {u : HO} {ob : Obj} {o : HO} (t : LamX.Tabs T H) (h : H p = some (.frz ob u)) : LamX.Tabs T (upd H p o) := tabs_set t h (fun _ h => nomatch h) (fun _ h => nomatch h)

/-- a dict is locked, and what is told behind it is told when it is open again -/
theorem lock_z {T : List (Addr × Str)} {K : PySem.W.Frag} {Z H : Hp} {σ : L2.St} {r : List Slot} {p : Addr} {kvs : List (Key × V)} (g : Good T Z H) (e : EnvW K Z H σ r) (hp : H p = some (.dK kvs)) (od : Obj) :
    ∃ Z', Good T Z' (upd H p (.frz od (.dK kvs))) ∧ EnvW K Z' (upd H p (.frz od (.dK kvs))) σ r ∧ Le Z Z' ∧ ∀ Z2 H2, Good T Z2 H2 → Ext Z' (upd H p (.frz od (.dK kvs))) Z2 H2 →
      H2 p = some (.frz od (.dK kvs)) ∧ ∃ Z3, Good T Z3 (upd H2 p (.dK kvs)) ∧ Ext Z H Z3 (upd H2 p (.dK kvs)) ∧ Le Z2 Z3 ∧ ∀ a, a ≠ p → Z3 a = Z2 a := by
  have own : ∀ {Z' : Hp} {q : Addr} {d : D}, Le Z Z' → Own K Z H q d → Own K Z' (upd H p (.frz od (.dK kvs))) q d := fun {Z' q d} le w => by
    by_cases hq : q = p
    · subst hq
      cases w with
      | lst a _ _ => rw [hp] at a; cases a
      | dct a b c =>
        rcases a with a | ⟨ob, a⟩
        · rw [hp] at a; cases a
          exact .dct (.inr ⟨od, upd_same⟩) b (c.mono le)
        · rw [hp] at a; cases a
    · cases w with
      | lst a b c => exact .lst (by rw [upd_ne hq]; exact a) b (c.mono le)
      | dct a b c => exact .dct (a.elim (fun a => .inl (by rw [upd_ne hq]; exact a)) (fun ⟨ob, a⟩ => .inr ⟨ob, by rw [upd_ne hq]; exact a⟩)) b (c.mono le)
  have env : ∀ {Z' : Hp}, Le Z Z' → (∀ q, Z q = none → Z' q = none) → EnvW K Z' (upd H p (.frz od (.dK kvs))) σ r := fun le hn => by
    refine ⟨e.1, fun i => ?_⟩
    have k := e.2 i
    split at k
    · obtain ⟨v, h1, h2⟩ := k; exact ⟨v, h1, h2.mono le⟩
    · obtain ⟨q, h1, h2, h3⟩ := k; exact ⟨q, h1, hn q h2, own le h3⟩
    · trivial
  cases hz : Z p with
  | none =>
    refine ⟨Z, ⟨fun a o h => ?_, tabs_lock g.tabs hp, g.ntb⟩, env (Le.refl _) fun _ h => h, Le.refl _, fun Z2 H2 g2 x2 => ?_⟩
    · rw [upd_ne (ne_of_none h hz)]; exact g.sub a o h
    · have h2 : H2 p = some (.frz od (.dK kvs)) := x2.keep _ _ upd_same (fun _ h => nomatch h)
      have z2 : Z2 p = none := by rw [x2.old _ _ upd_same (fun _ h => nomatch h), hz]
      refine ⟨h2, Z2, ⟨fun a o h => ?_, tabs_unlock g2.tabs h2, g2.ntb⟩, ⟨x2.le, fun a o h n => ?_, fun a o h n => ?_⟩, Le.refl _, fun _ _ => rfl⟩
      · rw [upd_ne (ne_of_none h z2)]; exact g2.sub a o h
      · by_cases q : a = p
        · subst q; rw [hp] at h; cases h; exact upd_same
        · rw [upd_ne q]; exact x2.keep a o (by rw [upd_ne q]; exact h) n
      · by_cases q : a = p
        · subst q; rw [z2, hz]
        · exact x2.old a o (by rw [upd_ne q]; exact h) n
  | some u =>
    have hu := g.sub _ _ hz
    rw [hp] at hu; cases hu
    have le : Le Z (upd Z p (.frz od (.dK kvs))) := by
      refine ⟨fun a x h => ?_, fun a o x h => ?_, fun a x h => ?_, fun a x h => ?_, fun a x h => ?_⟩
      · rw [upd_ne (fun q => by rw [q, hz] at h; cases h)]; exact h
      · rw [upd_ne (fun q => by rw [q, hz] at h; cases h)]; exact h
      · rw [upd_ne (fun q => by rw [q, hz] at h; cases h)]; exact h
      · by_cases q : a = p
        · subst q
          rcases h with h | ⟨ob, h⟩
          · rw [hz] at h; cases h; exact .inr ⟨od, upd_same⟩
          · rw [hz] at h; cases h
        · rcases h with h | ⟨ob, h⟩
          · exact .inl (by rw [upd_ne q]; exact h)
          · exact .inr ⟨ob, by rw [upd_ne q]; exact h⟩
      · have q : a ≠ p := fun q => by
          rcases h with h | ⟨ob, h⟩ <;> (rw [q, hz] at h; cases h)
        rcases h with h | ⟨ob, h⟩
        · exact .inl (by rw [upd_ne q]; exact h)
        · exact .inr ⟨ob, by rw [upd_ne q]; exact h⟩
    refine ⟨_, ⟨fun a o h => ?_, tabs_lock g.tabs hp, fun a ps h => ?_⟩, env le fun q h => by rw [upd_ne (fun z => by rw [z, hz] at h; cases h)]; exact h, le, fun Z2 H2 g2 x2 => ?_⟩
    · by_cases q : a = p
      · subst q; rw [upd_same] at h ⊢; exact h
      · rw [upd_ne q] at h ⊢; exact g.sub a o h
    · by_cases q : a = p
      · subst q; rw [upd_same] at h; cases h
      · rw [upd_ne q] at h; exact g.ntb a ps h
    · have h2 : H2 p = some (.frz od (.dK kvs)) := x2.keep _ _ upd_same (fun _ h => nomatch h)
      have z2 : Z2 p = some (.frz od (.dK kvs)) := by rw [x2.old _ _ upd_same (fun _ h => nomatch h), upd_same]
      have le2 : Le Z2 (upd Z2 p (.dK kvs)) := by
        refine ⟨fun a x h => ?_, fun a o x h => ?_, fun a x h => ?_, fun a x h => ?_, fun a x h => ?_⟩
        · rw [upd_ne (fun q => by rw [q, z2] at h; cases h)]; exact h
        · rw [upd_ne (fun q => by rw [q, z2] at h; cases h)]; exact h
        · rw [upd_ne (fun q => by rw [q, z2] at h; cases h)]; exact h
        · by_cases q : a = p
          · subst q
            rcases h with h | ⟨ob, h⟩
            · rw [z2] at h; cases h
            · rw [z2] at h; cases h; exact .inl upd_same
          · rcases h with h | ⟨ob, h⟩
            · exact .inl (by rw [upd_ne q]; exact h)
            · exact .inr ⟨ob, by rw [upd_ne q]; exact h⟩
        · have q : a ≠ p := fun q => by
            rcases h with h | ⟨ob, h⟩ <;> (rw [q, z2] at h; cases h)
          rcases h with h | ⟨ob, h⟩
          · exact .inl (by rw [upd_ne q]; exact h)
          · exact .inr ⟨ob, by rw [upd_ne q]; exact h⟩
      refine ⟨h2, upd Z2 p (.dK kvs), ⟨fun a o h => ?_, tabs_unlock g2.tabs h2, fun a ps h => ?_⟩, ⟨(le.trans x2.le).trans le2, fun a o h n => ?_, fun a o h n => ?_⟩, le2, fun a q => upd_ne q⟩
      · by_cases q : a = p
        · subst q; rw [upd_same] at h ⊢; exact h
        · rw [upd_ne q] at h ⊢; exact g2.sub a o h
      · by_cases q : a = p
        · subst q; rw [upd_same] at h; cases h
        · rw [upd_ne q] at h; exact g2.ntb a ps h
      · by_cases q : a = p
        · subst q; rw [hp] at h; cases h; exact upd_same
        · rw [upd_ne q]; exact x2.keep a o (by rw [upd_ne q]; exact h) n
      · by_cases q : a = p
        · subst q; rw [upd_same, hz]
        · rw [upd_ne q, x2.old a o (by rw [upd_ne q]; exact h) n, upd_ne q]

theorem keys_get {K : PySem.W.Frag} {Z : Hp} : ∀ {vs : List D} {kvs : List (Key × V)} {ks : List (List Nat)} {i : Nat} {k : Key} {v : V}, RepK K Z kvs ks vs → kvs[i]? = some (k, v) → ∃ x, ks[i]? = some x ∧ k = .inr (toS x) ∧ x.length < LIM ∧ okS x = true
  | [], _, _, _, _, _, h, e => by cases h; simp at e
  | _ :: _, _, _, i, _, _, h, e => by
    cases h with
    | cons a b c h =>
      cases i with
      | zero => simp at e; exact ⟨_, rfl, e.1.symm, a, b⟩
      | succ i => simp only [List.getElem?_cons_succ] at e ⊢; exact keys_get h e
theorem src_keys {L : Law} {Z H : Hp} {p : Addr} {od : Obj} {kvs : List (Key × V)} {ks : List (List Nat)} {vs : List D} (hp : H p = some (.frz od (.dK kvs))) (rk : RepK L.K Z kvs ks vs) : Src true L (Itk p od kvs) Z H (ks.map .str) := by
  refine ⟨_, _, by rw [List.length_map, ← rk.lengthK.1]; exact walk_keys, fun Z' H' g' x => Ext.keep x _ _ hp (fun _ h => nomatch h), fun i x H1 H2 Z1 hi g1 x1 y => ?_⟩
  obtain ⟨rfl, k, v, hk, rfl⟩ := y
  obtain ⟨z, h1, h2, h3, h4⟩ := keys_get rk hk
  subst h2
  exact ⟨Z1, .str z, by rw [List.getElem?_map, h1]; rfl, g1, Ext.refl _ _, .str h3 h4⟩

theorem PE.or {X : Cx} {e : Expr} {t u : TE} (h : PE X e t) (h' : PE X e u) : PE X e (fun σ H Q => t σ H Q ∨ u σ H Q) := ⟨fun pins s σ H Q I hw => hw.elim (h.run pins s σ H Q I) (h'.run pins s σ H Q I)⟩
section
variable {L : Law} {W : XK} {X : Cx} {pos : Pos}
theorem d_lcKeys {i : Nat} {x : Str} {px : Pos} {tg' elt : Expr} {ifs : List Expr} {scope : Scope} {own : List (Str × Nat)} {tg : Tg} {mc : List Slot → R Bool} {me : List Slot → R D} (hK : L.K = X.K) (hc : X.calm = true) (hN : X.N.Nodup) (hv' : PE X (.Name x px) (tVar i)) (ok : BlkOk X.N X.env.scope scope own)
    (hg : ∀ (s : Shared) (H : Hp) (C : Addr) (cl : List (Str × Addr)) (fp : List Addr), PG (X.blk s H scope (compEnvC scope cl C X.env) fp) tg' (gT L.K tg))
    (ht : ∀ (s : Shared) (H : Hp) (C : Addr) (cl : List (Str × Addr)) (fp : List Addr), PTs (X.blk s H scope (compEnvC scope cl C X.env) fp) ifs (tT L E0 mc))
    (he : ∀ (s : Shared) (H : Hp) (C : Addr) (cl : List (Str × Addr)) (fp : List Addr), PE (X.blk s H scope (compEnvC scope cl C X.env) fp) elt (tE L E0 false me))
    (hv : own.map (·.2) = tg.slots) (hs : ∀ y, foldedSetIterable (.Name x px) X.env y = pure y) :
    PE X (.ListComp elt [⟨tg', .Name x px, ifs, 0⟩] scope pos) (tF L W fun r => do let d ← (match r[i]? with | some (.val d) => R.ok d | some (.own d) => .ok d | _ => .no); let items ← srcD .keys [d]; let ys ← lcL (lcF tg mc me r) items; .ok (.lst ys)) := by
  have base := pe_lc hc hN (pi_keys hv') ok hg ht he (pos := pos) hs
  refine PE.mono (PE.or base (pe_lock base)) fun σ H Q ⟨Z, r, g, e, q⟩ => ?_
  simp only at q
  have key : ∀ (v : V) (d : D), RepM true L.K Z H v d → σ[i]? = some (some v) → Got L W Z H (do let items ← srcD .keys [d]; let ys ← lcL (lcF tg mc me r) items; .ok (.lst ys)) (relF L.K) Q →
      tLc (iKeys (tVar i)) (gT L.K tg) (tT L E0 mc) (tE L E0 false me) (own.map (·.2)) σ H Q ∨ tLockE (tLc (iKeys (tVar i)) (gT L.K tg) (tT L E0 mc) (tE L E0 false me) (own.map (·.2))) σ H Q := by
    intro v d rp hσ q
    cases d <;> try (exact q.elim)
    rename_i ks vs
    have q : Got L W Z H (do let ys ← lcL (lcF tg mc me r) (ks.map .str); .ok (.lst ys)) (relF L.K) Q := q
    obtain ⟨p, kvs, rfl, rd, len, rk⟩ := rep_dct g rp
    have lim : (ks.map D.str).length ≤ LIM := by rw [List.length_map, ← rk.lengthK.1]; exact len
    obtain ⟨ys, hys, _⟩ := (q.bind (rel := relI true L) (grows_f _)).of (lcL_ex _ _)
    rw [hys] at q
    rcases rd with hp | ⟨od, hp⟩
    · refine .inr ⟨p, _, hp, trivial, fun od => ?_⟩
      obtain ⟨Z', g', e', le, back⟩ := lock_z g e hp od
      refine ⟨_, hσ, p, od, rfl, .inl ⟨kvs, upd_same, fun Dd nD => ?_⟩⟩
      refine lc_walk (Q := fun v H' => H' p = some (.frz od (.dK kvs)) ∧ Q v (upd H' p (.dK kvs))) hv g' e' (src_keys upd_same (rk.mono le)) lim hys nD fun v2 H2 Z2 g2 x2 md => ?_
      obtain ⟨h2, Z3, g3, x3, le3, same⟩ := back Z2 H2 g2 x2
      refine ⟨h2, q v2 _ Z3 g3 x3 ?_⟩
      unfold relF
      unfold Made at md ⊢
      rw [if_pos (show isMut (D.lst ys) = true from rfl)] at md ⊢
      obtain ⟨p2, rfl, n2, z2, w⟩ := md
      have hne : p2 ≠ p := fun z => by
        obtain ⟨ps, e⟩ := n2 _ (by rw [z, upd_same])
        cases e
      have n2 : Fr _ p2 := fun o e => n2 o (by rw [upd_ne hne]; exact e)
      cases w with
      | lst a b c =>
        exact ⟨p2, rfl, n2, (same p2 hne).trans z2, .lst (by rw [upd_ne hne]; exact a) b (c.mono le3)⟩
    · refine .inl ⟨_, hσ, p, od, rfl, .inl ⟨kvs, hp, fun Dd nD => ?_⟩⟩
      exact lc_walk hv g e (src_keys hp rk) lim hys nD q
  have k := e.2 i
  split at q
  · rename_i d hr
    rw [hr] at k
    obtain ⟨v, h1, h2⟩ := k
    exact key v d (.inl h2) h1 q
  · rename_i d hr
    rw [hr] at k
    obtain ⟨v, h1, h2, h3⟩ := k
    exact key (.ref v) d (.inr ⟨rfl, v, rfl, h2, h3⟩) h1 q
  · exact q.elim
end
end Mk
end
section
set_option Elab.async false
set_option linter.all false
set_option maxRecDepth 100000
set_option maxHeartbeats 4000000
namespace Mk
open PySem PySem.Spec PyProof.Rows L2
open AutoSeq1 (wpAny_loadPart')

abbrev itTup (t : Addr) : Obj := { cls := .type "tuple_iterator", data := .fields #[.ref t, .int 0 0] }
abbrev enObj (i : Addr) : Obj := { cls := .type "enumerate", data := .fields #[.none, .bool false, .ref i, rawInt 0, .none, .none] }
theorem enum_new (t : Addr) (items : Array Value) :
    Meets (Builtin.«enumerate.__new__» ⟨[.type "enumerate", .ref t], []⟩) (fun _ R s => s.heap.IsTuple t items ∧
      R (.ok (.ret (.ref (s.heap.push (itTup t)).objs.size))) { s with heap := (s.heap.push (itTup t)).push (enObj s.heap.objs.size) }) :=
  .of_wp fun prog w A R s h => by
    obtain ⟨hp, g, d, tk, os⟩ := s
    obtain ⟨ht, h⟩ := h
    have hsub := sub_enumerate
    have q1 : ∀ {A' : Around} {E : Value → Shared → Prop} {Q : Value → Shared → Prop}, Q (.ref hp.objs.size) ⟨hp.push (itTup t), g, d, tk, os⟩ → wpAny (model prog w) A' (pyIter (.ref t)) Q E ⟨hp, g, d, tk, os⟩ :=
      fun q => wpAny_pyIter_tuple (s := ⟨hp, g, d, tk, os⟩) ht q
    wp_walk
    refine wpAny_stack_any fun st => ?_
    refine wpAny_pure ?_
    split
    · rename_i c _ _ _ _ _
      cases (c == Value.type "enumerate")
      · wp_walk using q1
        exact ⟨_, rfl, h⟩
      · wp_walk using q1
        exact ⟨_, rfl, h⟩
    · wp_walk using q1
      exact ⟨_, rfl, h⟩
section
variable {prog : Program} {w : World} {A : Around} {E : Value → Shared → Prop} {s : Shared}
theorem call_enum {t : Addr} {items : Array Value} {Q : Value → Shared → Prop} (hT : s.heap.IsTuple t items)
    (h : ∀ h', IsEnum h' (s.heap.objs.size + 1) s.heap.objs.size 0 .none → h'.IsTupleIter s.heap.objs.size t 0 → h'.objs.size = s.heap.objs.size + 2 → (∀ b o, s.heap.get? b = some o → h'.get? b = some o) → Q (.ref (s.heap.objs.size + 1)) { s with heap := h' }) :
    wpAny (model prog w) A (call (.type "enumerate") [.ref t]) Q E s := by
  refine callType_new F.called_enumerate (by decide) (F.typeCall_enumerate_1 _) (F.newCall_enumerate_1 _) (fun obj => F.args_object_init_2 obj _) F.entry_enumerate_new (enum_new t items) ⟨hT, ?_⟩
  have hz : (s.heap.push (itTup t)).objs.size = s.heap.objs.size + 1 := Heap.size_push ..
  show _ ∧ _
  rw [hz]
  have he : IsEnum ((s.heap.push (itTup t)).push (enObj s.heap.objs.size)) (s.heap.objs.size + 1) s.heap.objs.size 0 .none := by
    have := Heap.get?_push_size (s.heap.push (itTup t)) (o := enObj s.heap.objs.size) rfl
    rw [hz] at this; exact this
  exact ⟨⟨_, he, rfl⟩, h _ he ⟨_, Heap.get?_push_of_some _ (Heap.get?_push_size _ rfl), rfl, rfl⟩ (by rw [Heap.size_push, hz]) fun b o y => Heap.get?_push_of_some _ (Heap.get?_push_of_some _ y)⟩
end
/-- the tuple at a, each item in a new pair with its number -/
def ItN (K : PySem.W.Frag) (a : Addr) : It :=
  ⟨fun i H => ∃ (xs : List V) (x : V), SqT K H a xs ∧ xs[i]? = some x,
    fun i H v H' => ∃ T x, v = .ref T ∧ H T = none ∧ H' = upd H T (.tup [.int (i : Nat), x]) ∧ ∀ xs, SqT K H a xs → xs[i]? = some x,
    fun i H => ∃ xs : List V, SqT K H a xs ∧ xs.length = i⟩
theorem turn_enumT {P : Program} {w : World} {K : PySem.W.Frag} {elts : List Expr} {kk : Nat} {tpos : Pos} (a e it : Addr) :
    Turn P w K (.Tuple elts kk tpos) (ItN K a) [e, it] e (fun i h => (∃ old, IsEnum h e it ((i : Nat) : Int) old) ∧ h.IsTupleIter it a i ∧ e ≠ it ∧ a ≠ it ∧ e ≠ a) where
  mem := by simp
  obj := fun i h st b hb => by
    obtain ⟨⟨old, he⟩, ⟨o, ho, hc, hd⟩, _⟩ := st
    rcases (by simpa using hb : b = e ∨ b = it) with z | z
    · rw [z]; exact ⟨_, he, fun v q => nomatch q⟩
    · rw [z]; exact ⟨o, ho, fun v q => by rw [hd] at q; cases q⟩
  keep := fun i h h' st k => by
    obtain ⟨⟨old, he⟩, hi, hne⟩ := st
    exact ⟨⟨old, k e (by simp) _ he⟩, hi.at fun o q => k it (by simp) o q, hne⟩
  item := by
    intro X hP hw hK hc i pins s σ H E I hf st hg
    subst hP hw hK
    obtain ⟨⟨old, he⟩, hit, hne, hai, hea⟩ := st
    obtain ⟨xs, x, hq, hx⟩ := hg
    obtain ⟨its, rv, p, hz⟩ := I.tuple hq
    obtain ⟨u, hu, ru⟩ := rv.get hx
    have hel : e < s.heap.objs.size := Heap.lt_size he
    have hil : it < s.heap.objs.size := by obtain ⟨_, q, _⟩ := hit; exact Heap.lt_size q
    have hlt : i < its.toArray.size := by
      obtain ⟨h1, _⟩ := List.getElem?_eq_some_iff.mp hu
      simpa using h1
    refine wpAny_pyNext_enum_itemD (Draws.tuple (A := X.A.in1) (by simpa using I.ok.hd hc) it a hai its.toArray) he ⟨hit, p⟩ hlt hne (by simp [hne, hea]) fun x' h' tk hP ho hst hT hsz hk => ?_
    have ex : x' = u := by
      have h2 : its[i]? = some x' := by simpa using hP
      rw [hu] at h2; exact (Option.some.inj h2).symm
    subst ex
    refine ⟨_, rfl, wpAny_letOwnedTupleGo_enum (s := { s with heap := h', toks := tk + 1 }) ho fun h'' he' sb => ?_⟩
    have hT2 := (sb.2 _ (Nat.ne_of_gt hel)).trans hT
    have new : ObjOk X.prog X.w (upd H s.heap.objs.size (.tup [.int (i : Nat), x])) h'' s.heap.objs.size (.tup [.int (i : Nat), x]) :=
      ⟨by show 2 ≤ sizeLine; decide, [.int i tk, x'], .cons ⟨_, rfl⟩ (.cons ru .nil), ⟨_, hT2, rfl, _, rfl⟩⟩
    have I1 : Inv X pins σ (upd H s.heap.objs.size (.tup [.int (i : Nat), x])) { s with heap := h'', toks := tk + 1 } :=
      I.turnedNew (ch := [e, it]) (fun b ob hb q => (sb.2 b (fun z => hb (by simp [z]))).trans (hk b ob (fun z => hb (by simp [z])) (fun z => hb (by simp [z])) q)) hf (Nat.le_refl _) new
    refine ⟨.ref s.heap.objs.size, _, I1, rfl, ⟨_, x, rfl, I.hok.fresh (Nat.le_refl _), rfl, fun ys hy => by rw [I.tuple_inj hy hq]; exact hx⟩, ⟨⟨x', ?_⟩, hst.1.at fun o q => (sb.2 it (Ne.symm hne)).trans q, hne, hai, hea⟩, fun b hb => ?_⟩
    · rw [show ((i + 1 : Nat) : Int) = (i : Int) + 1 by omega]; exact he'
    · have hb' : b < s.heap.objs.size := by
        rcases (by simpa using hb : b = e ∨ b = it) with z | z
        · rw [z]; exact hel
        · rw [z]; exact hil
      rw [upd_ne (Nat.ne_of_lt hb')]
      exact (hf b hb).1
  done := by
    intro X hP hw hK hc i pins s σ H E I hf st hg
    subst hP hw hK
    obtain ⟨⟨old, he⟩, hit, hne, hai, hea⟩ := st
    obtain ⟨xs, hq, hx⟩ := hg
    obtain ⟨its, rv, p, hz⟩ := I.tuple hq
    obtain ⟨f0, f1, f2, f3, f4, f5⟩ := hf it (by simp)
    have hl := rv.length
    have hs : its.toArray.size = i := by simp; omega
    exact wpAny_pyNext_enum_endD (Draws.tuple (A := X.A.in1) (by simpa using I.ok.hd hc) it a hai its.toArray) he (by rw [hs]; exact ⟨hit, p⟩) fun h' eb => ⟨rfl, I.turned (t' := s.toks) (fun b o hb q => eb b o hb q) f0 f1 f3 f4 f5⟩
  self := fun A i s Q E st h => by
    obtain ⟨⟨_, he⟩, _⟩ := st
    exact wpAny_pyIter_enum he h
theorem walk_enumT {K : PySem.W.Frag} {a : Addr} {xs : List V} : Walk (ItN K a) xs.length (fun H => SqT K H a xs) (YPair (fun i => some (.int (i : Nat))) (fun i => xs[i]?)) := by
  constructor
  · exact fun i _ hi q => ⟨xs, xs[i], q, by simp [hi]⟩
  · exact fun _ q => ⟨xs, q, rfl⟩
  · intro i H v H' _ q y
    obtain ⟨T, x, h1, h2, h3, h4⟩ := y
    exact ⟨T, .int (i : Nat), x, h1, h2, h3, rfl, h4 xs q⟩
def iEnumT (K : PySem.W.Frag) (ta : TA) : TI := fun σ H R => ta σ H fun vs H1 => ∃ a xs, vs = [.ref a] ∧ SqT K H1 a xs ∧ R (ItN K a) H1
theorem pi_enumT {X : Cx} {e : Expr} {ta : TA} {p pos tpos : Pos} {elts : List Expr} {kk : Nat} (hg : Gl X "enumerate") (hm : X.mg "enumerate" = none) (ha : PA X [e] ta) (hs : starEach [e] X.env = [(false, eval e X.env)]) :
    PI X (.Tuple elts kk tpos) (.Call (.Name "enumerate" p) [e] [] pos) (iEnumT X.K ta) := by
  refine ⟨fun pins s σ H R I h => Call_ (ld_blt I hg hm boot_enumerate (PyProof.Rows.callWith_type1 (thn (ha.run pos pins s σ H _ I h) fun us s1 ⟨vs, H1, I1, r1, q1⟩ => ?_) hs rfl))⟩
  obtain ⟨a, xs, ex, hq, q⟩ := q1
  subst ex
  rw [Vals.ref1 r1]
  obtain ⟨its, rv, p', hz⟩ := I1.tuple hq
  have hal : a < s1.heap.objs.size := by obtain ⟨o, h1, _⟩ := p'; exact Heap.lt_size h1
  refine call_enum (items := its.toArray) p' fun h' he hit hsz hk => wpAny_pyIter_enum he ?_
  have I2 : Inv X pins σ H1 { s1 with heap := h' } := I1.kept (t' := s1.toks) hk
  refine ⟨s1.heap.objs.size + 1, [s1.heap.objs.size + 1, s1.heap.objs.size], _, _, H1, rfl, I2, turn_enumT a (s1.heap.objs.size + 1) s1.heap.objs.size, ⟨⟨.none, he⟩, hit, Nat.succ_ne_self _, Nat.ne_of_lt hal, fun z => ?_⟩, fun b hb => ?_, q⟩
  · rw [← z] at hal
    exact absurd (Nat.lt_succ_self _) (Nat.lt_asymm hal)
  · have hle : s1.heap.objs.size ≤ b := by
      rcases (by simpa using hb : b = s1.heap.objs.size + 1 ∨ b = s1.heap.objs.size) with z | z
      · rw [z]; exact Nat.le_add_right _ _
      · rw [z]; exact Nat.le_refl _
    exact I1.fpOk hle (I1.hok.fresh hle)

theorem enumD_len : ∀ (n : Nat) (ds : List D), (enumD n ds).length = ds.length
  | _, [] => rfl
  | n, d :: ds => by simp [enumD, enumD_len (n + 1) ds]
theorem enumD_get : ∀ (n i : Nat) (ds : List D) (d : D), ds[i]? = some d → (enumD n ds)[i]? = some (.tpl [.int ((n + i : Nat) : Int), d])
  | _, _, [], _, h => by simp at h
  | n, 0, d :: ds, _, h => by simp at h; subst h; simp [enumD]
  | n, i + 1, d :: ds, _, h => by
    rw [enumD, List.getElem?_cons_succ, enumD_get (n + 1) i ds _ (by simpa using h)]
    simp; omega
theorem src_num {L : Law} {Z : Hp} {xs : List V} {ds : List D} {i : Nat} {x : V} {H1 H2 Z1 : Hp} (rl : RepL L.K Z xs ds) (g1 : Good L.T Z1 H1) (le : Le Z Z1) (y : YPair (fun i => some (.int (i : Nat))) (fun i => xs[i]?) i H1 x H2) :
    ∃ Z2 d, (enumD 0 ds)[i]? = some d ∧ Good L.T Z2 H2 ∧ Ext Z1 H1 Z2 H2 ∧ Rep L.K Z2 x d := by
  obtain ⟨T, u, w, rfl, hT, rfl, h4, h5⟩ := y
  cases h4
  obtain ⟨d', h8, h9⟩ := rl.getV h5
  have x2 : Ext Z1 H1 (upd Z1 T (.tup [.int (i : Nat), w])) (upd H1 T (.tup [.int (i : Nat), w])) := Ext.put g1 hT
  have h10 := enumD_get 0 i ds d' h8
  rw [Nat.zero_add] at h10
  exact ⟨_, _, h10, g1.put hT (fun _ h => nomatch h), x2, .tpl upd_same (show 2 ≤ LIM by decide) (.cons (.int _) (.cons ((h9.mono le).mono x2.le) .nil))⟩
section
variable {pk : Bool} {L : Law} {W : XK} {X : Cx} {pos : Pos} {a b c : Expr} {ma mb mc : List Slot → R D} {tg : Expr}
theorem d_enum {p tpos : Pos} {elts : List Expr} {kk : Nat} {ms : List Slot → R (List D)} (hK : L.K = X.K) (hg : Gl X "enumerate") (hm : X.mg "enumerate" = none) (ha : PA X [a] (tA L W pk ms)) (hs : starEach [a] X.env = [(false, eval a X.env)]) :
    PI X (.Tuple elts kk tpos) (.Call (.Name "enumerate" p) [a] [] pos) (tI pk L W fun r => do let ds ← ms r; match ds with | [d] => srcD .enum [d] | _ => .no) := by
  refine PI.mono (PI.or (pi_enum hg hm ha hs) (pi_enumT hg hm ha hs)) fun σ H Q ⟨Z, r, g, e, q⟩ => ?_
  replace q : Got L W Z H (ms r >>= fun ds => match ds with | [d] => srcD .enum [d] | _ => .no) (relI pk L) Q := q
  cases h : ms r with
  | ex x => exact .inl ⟨Z, r, g, e, by rw [h] at q ⊢; exact q⟩
  | no => rw [h] at q; exact q.elim
  | ok ds =>
    have k := q.bind (rel := relA pk L.K) (grows_i pk L)
    match ds, h with
    | [], h => rw [h] at q; exact q.elim
    | _ :: _ :: _, h => rw [h] at q; exact q.elim
    | [d], h =>
      cases d <;> try (rw [h] at q; exact q.elim)
      · refine .inr ⟨Z, r, g, e, k.mono fun vs H1 ⟨Z1, ds, e1, g1, x1, rs, q1⟩ => ?_⟩
        rw [h] at e1; cases e1
        obtain ⟨v, rfl, rv⟩ := rs.one
        obtain ⟨p1, us, rfl, st, len, rl, sw⟩ := rep_walkT g1 rv
        have l1 := rl.length
        rw [← hK]
        refine ⟨p1, us, rfl, st, q1.now g1 ⟨⟨_, _, by rw [enumD_len, ← l1]; exact walk_enumT (K := L.K) (a := p1) (xs := us), sw, fun i x H1 H2 Z1 hi g1 x1 y => src_num rl g1 x1.le y⟩, ?_⟩⟩
        rw [enumD_len]; omega
      · refine .inl ⟨Z, r, g, e, k.mono fun vs H1 ⟨Z1, ds, e1, g1, x1, rs, q1⟩ => ?_⟩
        rw [h] at e1; cases e1
        obtain ⟨v, rfl, rv⟩ := rs.one
        obtain ⟨p1, us, rfl, st, len, rl, sw⟩ := rep_walkL g1 rv
        have l1 := rl.length
        rw [← hK]
        refine ⟨p1, us, rfl, st, q1.now g1 ⟨⟨_, _, by rw [enumD_len, ← l1]; exact walk_enum (K := L.K) (a := p1) (xs := us), sw, fun i x H1 H2 Z1 hi g1 x1 y => src_num rl g1 x1.le y⟩, ?_⟩⟩
        rw [enumD_len]; omega
end
end Mk
end
section
set_option Elab.async false
set_option linter.all false
set_option maxRecDepth 100000
set_option maxHeartbeats 4000000
namespace Mk
open PySem PySem.Spec PyProof.Rows L2

theorem replL_one {c : Nat} {z : List Nat} : ∀ x : List Nat, PySem.StrLaws.replL [c] z x = replOne c z x
  | [] => by rw [PySem.StrLaws.replL_nil, replOne]
  | d :: r => by
    rw [replOne]
    by_cases h : d = c
    · subst h
      rw [if_pos rfl, PySem.StrLaws.replL_hit (by simp) (by simp), ← replL_one r]
      simp
    · rw [if_neg h, PySem.StrLaws.replL_miss (by simpa using h), replL_one r]
theorem replace_toS (x : List Nat) (c : Nat) (z : List Nat) : Txt.replace (toS x) (toS [c]) (toS z) = toS (replOne c z x) := by
  have h := PySem.StrLaws.replace_list (x := toS x) (y := toS [c]) (z := toS z) (by simp [toS, Str.length])
  rw [toS_list, toS_list, toS_list, replL_one] at h
  rw [← toS_of (Txt.replace (toS x) (toS [c]) (toS z)), h]
theorem replOne_len (c : Nat) (z : List Nat) : ∀ x : List Nat, (replOne c z x).length ≤ x.length * (z.length + 1)
  | [] => by simp [replOne]
  | d :: r => by
    have ih := replOne_len c z r
    rw [replOne, List.length_cons, Nat.add_mul]
    split
    · rw [List.length_append]; omega
    · rw [List.length_cons]; omega
theorem replOne_ok {c : Nat} {z : List Nat} (hz : okS z = true) : ∀ x : List Nat, okS x = true → okS (replOne c z x) = true
  | [], h => h
  | d :: r, h => by
    unfold okS at *
    rw [List.all_cons, Bool.and_eq_true] at h
    have ih := replOne_ok (c := c) hz r (by unfold okS; exact h.2)
    unfold okS at ih
    rw [replOne]
    split
    · rw [List.all_append, hz, ih]; rfl
    · rw [List.all_cons, h.1, ih]; rfl
section
variable {L : Law} {W : XK} {X : Cx} {pos : Pos}
theorem d_repl {x : Str} {p p0 cpos apos c0 c1 : Pos} {e1 : Expr} {m1 : List Slot → R D} {n np : Nat} {i : Int} {k0 j k : Nat} {f : Addr} {fd : FuncData} {ps : List Str} {fv : List D → R D} {ch : Nat} {z : List Nat} (Fk : FnOk X.prog X.w X.K X.mg X.base (L2.CX X.prog X.w) n f fd ps (spOf L np fv)) (hr : Room n X.A) (hg : Gl X x) (hm : X.mg x = some (.ref f))
    (hk : PySem.W.keepIn X.K (.ref f) = true) (hb : Binds X.K fd ps []) (tk : Takes X fun c d _ H => W c d H) (ha : PE X e1 (tE L W false m1)) (hnp : ∀ ds, ds.length ≠ np → fv ds = .no) (hdb : (x == ("__debug__" : Str)) = false)
    (he : starEach [e1, .Constant (.int i) k0 p0] X.env = (false, eval e1 X.env) :: starEach [.Constant (.int i) k0 p0] X.env) (hok : okS z = true) (hne : z ≠ [ch]) (hz8 : z.length ≤ 8)
    (hbase : attributeBase (.Call (.Name x p) [e1, .Constant (.int i) k0 p0] [] cpos) "replace" X.env (eval (.Call (.Name x p) [e1, .Constant (.int i) k0 p0] [] cpos) X.env) = eval (.Call (.Name x p) [e1, .Constant (.int i) k0 p0] [] cpos) X.env)
    (hline : (apos.endLine == pos.line) = true) {y' z' : Str} (hy' : y' = toS [ch]) (hz' : z' = toS z) (pk : Bool) :
    PE X (.Call (.Attribute (.Call (.Name x p) [e1, .Constant (.int i) k0 p0] [] cpos) "replace" apos) [.Constant (.str y') j c0, .Constant (.str z') k c1] [] pos)
      (tE L W pk fun r => do let d ← (do let d1 ← m1 r; fv [d1, .int i]); if mthOk .replace d = true then mthD .replace d [.str [ch], .str z] else .no) := by
  subst hy' hz'
  refine ⟨fun pins s σ H Q I h => ?_⟩
  refine PySem.Call_method2 hbase rfl hline ?_
  refine wpAny_Call_Name_kw (ld_glob I hg hm ?_ hdb)
  refine PySem.W.callWith_K (h₀ := X.base) I.ok.mod.kin hk ?_ he rfl
  obtain ⟨Z, r, g, e, q⟩ := h
  have q : Got L W Z H (m1 r >>= fun d1 => (fv [d1, .int i] >>= fun d => if mthOk .replace d = true then mthD .replace d [.str [ch], .str z] else .no)) (relV pk L.K) Q := by
    refine Eq.mp ?_ q
    congr 1
    show ((m1 r >>= fun d1 => fv [d1, .int i]) >>= fun d => if mthOk .replace d = true then mthD .replace d [.str [ch], .str z] else .no) = _
    cases m1 r <;> rfl
  rw [he]
  show wpAny _ _ (spliced ((false, eval e1 X.env) :: backTo cpos (starEach [.Constant (.int i) k0 p0] X.env))) _ _ s
  refine Calls.spliced_cons (thn (ha.run pins s σ H _ I ⟨Z, r, g, e, q.bind (rel := relV false L.K) (grows_v _ _)⟩) fun v1 s1 ⟨u1, H1, I1, r1, Z1, d1, _, g1, x1, ru, q1⟩ => ?_)
  show wpAny _ _ (spliced ((false, eval (.Constant (.int i) k0 p0) X.env) :: backTo cpos (starEach [] X.env))) _ _ s1
  refine Calls.spliced_cons (wpAny_Constant_int (Calls.spliced_nil ?_))
  have I2 := I1.tok (s1.toks + 1)
  refine ⟨I2.kIn, ?_⟩
  have hq : spOf L np fv ([u1, .int i] ++ []) H1 (fun v H2 => ∃ Z2 d2, fv [d1, .int i] = .ok d2 ∧ Good L.T Z2 H2 ∧ Ext Z1 H1 Z2 H2 ∧ Rep L.K Z2 v d2 ∧ Got L W Z2 H2 (if mthOk .replace d2 = true then mthD .replace d2 [.str [ch], .str z] else .no) (relV pk L.K) Q) W := by
    refine ⟨?_, Z1, [d1, .int i], g1, .cons (RepM.val ru) (.cons (.int i) .nil), ?_⟩
    · refine Classical.byContradiction fun hh => ?_
      rw [hnp [d1, .int i] hh] at q1
      exact q1.elim
    · have k := q1.bind (rel := relV false L.K) (grows_v pk L.K)
      exact k.mono fun v H2 ⟨Z2, d2, e2, g2, x2, rv, q2⟩ => ⟨Z2, d2, e2, g2, x2, RepM.val rv, q2⟩
  refine wpAny_mono (PySem.wpAny_toks (run_fn (vs := [u1, .int i]) Fk hr hb .nil (passes_call tk fun _ _ _ _ h => h) I2 (.cons r1 (.cons ⟨_, rfl⟩ .nil)) hq)) (fun v s3 q3 => ?_) fun _ _ z => z.2
  obtain ⟨hk3, v', H3, I3, r3, Z2, d2, _, g2, x2, rv, q4⟩ := q3
  have hk3 : s1.toks + 1 ≤ s3.toks := hk3
  obtain ⟨hok2, q5⟩ := mth_ok q4
  have hd2 : ∃ t, d2 = .str t := by cases d2 <;> first | exact ⟨_, rfl⟩ | simp [mthOk] at hok2
  obtain ⟨t, rfl⟩ := hd2
  have q5 : Got L W Z2 H3 (if t.length * (z.length + 1) < LIM then .ok (.str (replOne ch z t)) else .no) (relV pk L.K) Q := q5
  cases rv with
  | str hl ho =>
    split at q5
    · rename_i hlt
      obtain ⟨tx, e2⟩ := r3
      subst e2
      refine ⟨"str", _, PySem.F.plainAttrs_str, PySem.F.slot_str_replace, PySem.F.type_str_replace, typeIs_str _ _ _, (fun _ e => nomatch e), Calls.callWith_builtin rfl (Calls.evalArgs_plain (Calls.spliced_cons ?_))⟩
      refine Calls.Constant_str (Calls.spliced_cons (Calls.Constant_str (Calls.spliced_nil ?_)))
      have hyz : ((toS [ch]) == (toS z)) = false := beq_eq_false_iff_ne.mpr fun h => hne (toS_inj h).symm
      have hb2 : (toS t).length + ((toS t).length + 1) * (toS z).length ≤ 16777216 := by
        rw [toS_len, toS_len, Nat.add_mul]
        rw [Nat.mul_add] at hlt
        unfold LIM at hlt
        omega
      refine PySem.SC.replace (by show s3.toks ≠ 0; omega) (by show s3.toks + 1 ≠ 0; omega) (by show s3.toks ≠ s3.toks + 1; omega) hyz hb2 fun t' k => ⟨.str (Txt.replace (toS t) (toS [ch]) (toS z)), H3, I3.tok k, ⟨t', rfl⟩, ?_⟩
      rw [replace_toS]
      refine q5 _ H3 Z2 g2 (Ext.refl _ _) (.inl (.str ?_ (replOne_ok hok t ho)))
      exact Nat.lt_of_le_of_lt (replOne_len ch z t) hlt
    · exact q5.elim
end
section
variable {X : Cx} {L : Law} {W : XK} {a : Expr} {ma : List Slot → R D} {pos : Pos}
theorem ixOf_spec (x : D) : ∀ (ds : List D) (j : Nat), ixOf x ds = some j → ∃ z, ds[j]? = some z ∧ eqv z x = true ∧ ∀ m z', m < j → ds[m]? = some z' → eqv z' x = false
  | [], j, h => by cases h
  | y :: r, j, h => by
    rw [ixOf] at h
    split at h
    · rename_i e
      cases h
      exact ⟨y, rfl, e, fun m z' hm => by omega⟩
    · rename_i e
      cases hr : ixOf x r with
      | none => rw [hr] at h; cases h
      | some i =>
        rw [hr] at h
        have h : i + 1 = j := Option.some.inj h
        subst h
        obtain ⟨z, h1, h2, h3⟩ := ixOf_spec x r i hr
        refine ⟨z, by simpa using h1, h2, fun m z' hm hz => ?_⟩
        cases m with
        | zero => simp at hz; subst hz; simpa using e
        | succ m => exact h3 m z' (by omega) (by simpa using hz)
theorem toPs_get : ∀ (ds : List D) (i : Nat), (toPs ds)[i]? = (ds[i]?).map toP
  | [], i => by simp [toPs]
  | d :: ds, 0 => by simp [toPs]
  | d :: ds, i + 1 => by simp [toPs, toPs_get ds i]
theorem fls_get : ∀ {ds : List D} {n i : Nat} {z : D}, fls ds n = true → ds[i]? = some z → fl z n = true
  | [], _, _, _, _, h => by simp at h
  | d :: ds, n, 0, z, f, h => by rw [fls, Bool.and_eq_true] at f; simp at h; subst h; exact f.1
  | d :: ds, n, i + 1, z, f, h => by rw [fls, Bool.and_eq_true] at f; exact fls_get f.2 (by simpa using h)
theorem mthD_index {ds es : List D} {d : D} (h : mthD .index (.lst ds) es = .ok d) : ∃ x j, es = [x] ∧ fl x 60 = true ∧ fls ds 60 = true ∧ ixOf x ds = some j ∧ d = .int (j : Nat) := by
  match es, h with
  | [x], h =>
    have h : (if fl x 60 && fls ds 60 then opt (fun i : Nat => D.int i) (ixOf x ds) else .no) = .ok d := h
    split at h
    · rename_i f
      rw [Bool.and_eq_true] at f
      cases hj : ixOf x ds with
      | none => rw [hj] at h; cases h
      | some j => rw [hj] at h; cases h; exact ⟨x, j, rfl, f.1, f.2, hj, rfl⟩
    · cases h
  | [], h => cases h
  | _ :: _ :: _, h => cases h
theorem d_index {e : Expr} {apos : Pos} {ms : List Slot → R (List D)} (hK : L.K = X.K) (hu : X.A.units + 65 < cLine) (ha : PE X a (tE L W true ma)) (he : PA X [e] (tA L W false ms)) (hbase : attributeBase a "index" X.env (eval a X.env) = eval a X.env)
    (hline : (apos.endLine == pos.line) = true) (hs : starEach [e] X.env = [(false, eval e X.env)]) :
    PE X (.Call (.Attribute a "index" apos) [e] [] pos) (tF L W fun r => do let x ← ma r; if mthOk .index x = true then (do let ds ← ms r; mthD .index x ds) else .no) := by
  refine PE.mono (pe_bm PySem.F.plainAttrs_list PySem.F.slot_list_index PySem.F.type_list_index (mt_indexD hu) ha he hbase (by rw [hs]; rfl) hline (by rw [hs]; rfl) rfl) fun σ H Q ⟨Z, r, g, e, q⟩ =>
    ⟨Z, r, g, e, (q.bind (rel := relV true L.K) (grows_f _)).mono fun x H1 ⟨Z1, dx, _, g1, x1, rx, q1⟩ => ?_⟩
  obtain ⟨hok, q1⟩ := mth_ok q1
  obtain ⟨ds, rfl⟩ : ∃ ds, dx = .lst ds := by cases dx <;> first | exact ⟨_, rfl⟩ | cases hok
  obtain ⟨p, xs, rfl, st, lx, rl⟩ := rep_lst g1 rx
  refine ⟨.inl ⟨rfl, _, SqL.of st⟩, Z1, r, g1, e.ext x1, (q1.bind (rel := relA false L.K) (grows_f _)).mono fun vs H2 ⟨Z2, es, e2, g2, x2, rs, q2⟩ => ?_⟩
  obtain ⟨d, e3, q3⟩ := q2.of (mthD_ex _ _ _)
  obtain ⟨x, j, rfl, fx, fd, hj, rfl⟩ := mthD_index e3
  obtain ⟨v, rfl, rv⟩ := rs.one
  obtain ⟨z, z1, z2, z3⟩ := ixOf_spec x ds j hj
  have rx2 := rx.ext x2
  have f2 : fl (.lst ds) 61 = true := fd
  refine ⟨p, v, toP x, toPs ds, j, toP z, rfl, rfl, ?_, ?_, repM_shp f2 (by decide) rx2, repM_shp fx (by decide) rv, by rw [toPs_get, z1]; rfl, ?_, fun m z' hm hz => ?_, Fin.int (L := L) q3 g2⟩
  · rw [← hK]; exact repM_dp g2 f2 rx2
  · rw [← hK]; exact repM_dp g2 fx rv
  · rw [eqv_toP (fls_get fd z1) fx]; exact z2
  · rw [toPs_get] at hz
    cases hd : ds[m]? with
    | none => rw [hd] at hz; cases hz
    | some y =>
      rw [hd] at hz
      cases hz
      rw [eqv_toP (fls_get fd hd) fx]
      exact z3 m y hm hd
end
end Mk
end
section
set_option Elab.async false
set_option linter.all false
set_option maxRecDepth 100000
set_option maxHeartbeats 4000000
namespace Mk
open PySem PySem.Spec PyProof.Rows L2

def rCountD (K : PySem.W.Frag) : V → List V → Hp → VK → Prop := fun x xs H Q => ∃ (a : Addr) (y : V) (d : PyData) (ds : List PyData), x = V.ref a ∧ xs = [y] ∧ Dp K H (V.ref a) (.list ds) ∧ Dp K H y d ∧
  SeqAt.shaped (.list ds) = true ∧ SeqAt.shaped d = true ∧ Q (.int ((ds.countP fun z => PyData.eqv z d : Nat) : Int)) H
theorem mt_countD {X : Cx} (hu : X.A.units + 65 < cLine) : MtR X "list.count" (rCountD X.K) := by
  intro pins s σ H x xs v us Q I rx rxs h
  obtain ⟨a, y, d, ds, rfl, rfl, hl, hy, sl, sd, q⟩ := h
  cases rx
  cases rxs with
  | cons ry rt =>
    rename_i uy ut
    cases rt
    obtain ⟨bs, r1⟩ := Dp.reads I d y uy hy ry
    have lay := SeqAt.canLay_of_shaped sl
    have room := room_in_shaped (xs := ds) sd hu
    cases hl with
    | lst hs ha =>
      obtain ⟨its, rv, w, hw⟩ := I.list hs
      obtain ⟨ob, n, ho, hc, hn, hd⟩ := w
      obtain ⟨c1, d1, a1, s1⟩ := ob
      simp only at hc hd
      subst hc hd
      obtain ⟨as, h4⟩ := Dp.readsAll I ds _ its ha rv
      have em := SeqAt.readsAll_map ds its as lay h4
      refine call_meets PySem.F.slot_list_count ⟨_, ho, rfl⟩ PySem.F.entry_list_count (PySem.F.args_list_count_2 _ _)
        (SeqAt.list_countAt a its.toArray n d1 s1 uy fun u => PyData.eqv (SeqAt.readOf s.heap u) d) ⟨ho, ?_, ?_⟩
      · exact SeqAt.items_eqAt (vs := its.toArray) (show ReadsAll s.heap its.toArray.toList ds as from h4) r1 lay (SeqAt.canLay_of_shaped sd) room
      · refine ⟨.int _, H, I.tok _, ⟨s.toks, ?_⟩, q⟩
        have e : its.toArray.toList.countP (fun u => PyData.eqv (SeqAt.readOf s.heap u) d) = ds.countP (fun z => PyData.eqv z d) := by
          rw [← em, List.countP_map]; rfl
        show Value.int _ _ = Value.int _ _
        rw [e]

abbrev tN : List Str := ["deed", "got", "e", "kinds"]
def tGl (sc : Scope) (y : Str) : Bool := decide (sc.names.lookup y = some .globalImplicit)
def tLo (sc : Scope) (y : Str) : Bool := decide (sc.names.lookup y = some .local)
def isIsi (c : Str) : Expr → Bool
  | .Call (.Name f _) [.Name e _, .Name c' _] [] _ => (f == ("isinstance" : Str) && e == ("e" : Str)) && c' == c
  | _ => false
def isK5 (nm : Str) : Expr → Bool
  | .Call (.Attribute (.Name k _) m ap) [.Constant (.bool true) _ _] [] p => (k == ("kinds" : Str) && m == nm) && ap.endLine == p.line
  | _ => false
def isKinds : Stmt → Bool
  | .Assign [.Name k _] (.List [a, b, c, d] _) _ => k == ("kinds" : Str) && ((isIsi "BadText" a && isIsi "NoPart" b) && (isIsi "NoValue" c && isIsi "BadChange" d))
  | _ => false
def isApp : Stmt → Bool
  | .Expr (.Call (.Attribute (.Name k _) m ap) [a] [] p) _ => ((k == ("kinds" : Str) && m == ("append" : Str)) && ap.endLine == p.line) && isIsi "NoStep" a
  | _ => false
def isGot0 : Stmt → Bool
  | .Assign [.Name g _] (.Tuple [.Constant (.str r) _ _, .UnaryOp .USub (.Constant (.int 1) _ _) _] _ _) _ => g == ("got" : Str) && r == ("refused" : Str)
  | _ => false
def isGot1 : Stmt → Bool
  | .Assign [.Name g _] (.Tuple [.Constant (.str r) _ _, x] _ _) _ => (g == ("got" : Str) && r == ("refused" : Str)) && isK5 "index" x
  | _ => false
def isIf5 : Stmt → Bool
  | .If (.BoolOp .And [a, .Compare x [.Eq] [.Constant (.int 1) _ _] _] _) [g] [] _ => (isIsi "ValueError" a && isK5 "count" x) && isGot1 g
  | _ => false
def isGotT : Stmt → Bool
  | .Assign [.Name g _] (.Tuple [.Constant (.str r) _ _, .Call (.Name d _) [] [] _] _ _) _ => (g == ("got" : Str) && r == ("told" : Str)) && d == ("deed" : Str)
  | _ => false
def isRet : Stmt → Bool
  | .Return (some (.Name g _)) _ => g == ("got" : Str)
  | _ => false
def isTold : List Stmt → Bool
  | [.Try [b] [.ExceptHandler (some (.Name m _)) (some e) [s1, s2, s3, s4] _] [] [] _, r] => ((m == ("MarkError" : Str) && e == ("e" : Str)) && (isGotT b && isRet r)) && ((isKinds s1 && isApp s2) && (isGot0 s3 && isIf5 s4))
  | _ => false
def tScope (sc : Scope) : Bool := ((tLo sc "deed" && tLo sc "got") && (tLo sc "e" && tLo sc "kinds")) &&
  (((tGl sc "MarkError" && tGl sc "isinstance") && (tGl sc "BadText" && tGl sc "NoPart")) && ((tGl sc "NoValue" && tGl sc "BadChange") && (tGl sc "NoStep" && tGl sc "ValueError")))
/-- what is known of the classes -/
structure ClsOk (ca : Nat → Addr) (K : PySem.W.Frag) (mg : Str → Option Value) : Prop where
  M : ∃ M, mg "MarkError" = some (.ref M) ∧ ∀ i, i < 4 → PySem.W.exmOne K (.ref (ca i)) (.ref M) = some true
  m0 : mg "NoPart" = some (.ref (ca 0))
  m1 : mg "NoValue" = some (.ref (ca 1))
  m2 : mg "BadChange" = some (.ref (ca 2))
  m3 : mg "NoStep" = some (.ref (ca 3))
  m4 : mg "BadText" = some (.ref (ca 4))
  kt : ∀ i j, i < 4 → j < 5 → PySem.W.kitOne K (.ref (ca i)) (.ref (ca j)) = some (decide (i = j))
  kv : ∀ i, i < 4 → PySem.W.kitOne K (.ref (ca i)) (.type "ValueError") = some true
  ec : ∀ i, i < 4 → ExcC K (ca i)
  is : mg "isinstance" = none
  ve : mg "ValueError" = none
end Mk
end
section
set_option Elab.async false
set_option linter.all false
set_option maxRecDepth 100000
set_option maxHeartbeats 4000000
namespace Mk
open PySem PySem.Spec PyProof.Rows L2

/-- what told makes of the deed's reading -/
def TToldD (ca : Nat → Addr) : (XK → Hp → VK → Prop) → Hp → VK → Prop := fun tl H Q => (∀ E H Q Q', (∀ v H', Q v H' → Q' v H') → tl E H Q → tl E H Q') ∧
  tl (fun cls d H1 => ∃ i, i < 4 ∧ cls = .ref (ca i) ∧ d = none ∧ ∀ H2 p, (∀ b o, H1 b = some o → H2 b = some o) → H1 p = none → (∃ ob : Obj, H2 p = some (.frz ob (.tup [.str "refused", .int ((i + 1 : Nat) : Int)])) ∧ ob.dict = none) → Q (.ref p) H2) H
    fun v H1 => NewT H1 [.str "told", v] Q
theorem tGl_of {sc : Scope} {y : Str} (h : tGl sc y = true) : sc.names.lookup y = some .globalImplicit := of_decide_eq_true h
theorem tLo_of {sc : Scope} {y : Str} (h : tLo sc y = true) : sc.names.lookup y = some .local := of_decide_eq_true h
/-- the reading of isinstance(e, c) -/
def tIsi (K : PySem.W.Frag) (D : Addr) (cv : V) (b : Bool) : TE := fun σ H Q => ∃ a, σ[2]? = some (some (.ref a)) ∧ Q (.bl b) H
section
variable {Y : Cx} {a D : Addr} {oe : Obj} {pn : List (Addr × Obj)}
theorem isi_own {x : Expr} {c : Str} {C : Addr} {b : Bool} (hN : Y.N = tN) (hsc : tLo Y.env.scope "e" = true) (hgi : tGl Y.env.scope "isinstance" = true) (hgc : tGl Y.env.scope c = true) (hdb : (c == ("__debug__" : Str)) = false)
    (E : ExcC Y.K D) (hz : Zc (.ref D) none oe) (hf : ∃ vs, oe.data = .fields vs) (hi : Y.mg "isinstance" = none) (hc : Y.mg c = some (.ref C)) (hk : PySem.W.kitOne Y.K (.ref D) (.ref C) = some b) (h : isIsi c x = true) :
    PE (Y.suite a ((a, oe) :: pn)) x (fun σ H Q => σ[2]? = some (some (.ref a)) ∧ Q (.bl b) H) ∧ ∀ (l : List Expr) (env : Env), starEach (x :: l) env = (false, eval x env) :: starEach l env := by
  unfold isIsi at h
  split at h
  · simp only [Bool.and_eq_true, beq_iff_eq] at h
    obtain ⟨⟨rfl, rfl⟩, rfl⟩ := h
    refine ⟨?_, fun _ _ => rfl⟩
    have ve : ∀ p, PE (Y.suite a ((a, oe) :: pn)) (.Name "e" p) (tVar 2) := fun p => pe_var (by show Y.N[2]? = _; rw [hN]; rfl) (.inl (tLo_of hsc)) (by decide) (by decide)
    have vc : ∀ p, PE (Y.suite a ((a, oe) :: pn)) (.Name _ p) (tC (.ref C)) := fun p => pe_glob (tGl_of hgc) hc rfl hdb
    exact PE.mono (pe_callB (call_isE E hz hf) (tGl_of hgi) hi (by decide +kernel) (pa_cons (ve _) (pa_cons (vc _) pa_nil))) fun σ H Q ⟨h1, q⟩ => ⟨_, h1, .ref C, .ref C, b, rfl, (fun u r => by cases r; rfl), hk, q⟩
  · cases h
theorem isi_val {x : Expr} (hN : Y.N = tN) (hsc : tLo Y.env.scope "e" = true) (hgi : tGl Y.env.scope "isinstance" = true) (hgc : tGl Y.env.scope "ValueError" = true)
    (E : ExcC Y.K D) (hz : Zc (.ref D) none oe) (hf : ∃ vs, oe.data = .fields vs) (hi : Y.mg "isinstance" = none) (hc : Y.mg "ValueError" = none) (hk : PySem.W.kitOne Y.K (.ref D) (.type "ValueError") = some true) (h : isIsi "ValueError" x = true) :
    PE (Y.suite a ((a, oe) :: pn)) x (fun σ H Q => σ[2]? = some (some (.ref a)) ∧ Q (.bl true) H) ∧ ∀ env whole, isTrue x env whole = (do let v ← whole; standAt x.pos; holding [v] (truthy v)) := by
  unfold isIsi at h
  split at h
  · simp only [Bool.and_eq_true, beq_iff_eq] at h
    obtain ⟨⟨rfl, rfl⟩, rfl⟩ := h
    refine ⟨?_, fun _ _ => rfl⟩
    have ve : ∀ p, PE (Y.suite a ((a, oe) :: pn)) (.Name "e" p) (tVar 2) := fun p => pe_var (by show Y.N[2]? = _; rw [hN]; rfl) (.inl (tLo_of hsc)) (by decide) (by decide)
    have vc : ∀ p, PE (Y.suite a ((a, oe) :: pn)) (.Name "ValueError" p) (tC (.ty "ValueError")) := fun p => pe_bltn (tGl_of hgc) hc (by decide +kernel) rfl
    exact PE.mono (pe_callB (call_isE E hz hf) (tGl_of hgi) hi (by decide +kernel) (pa_cons (ve _) (pa_cons (vc _) pa_nil))) fun σ H Q ⟨h1, q⟩ => ⟨_, h1, .ty "ValueError", .type "ValueError", true, rfl, (fun u r => by cases r; rfl), hk, q⟩
  · cases h
end

/-- the five answers -/
def five (i : Nat) : List Bool := [false, decide (i = 0), decide (i = 1), decide (i = 2), decide (i = 3)]
theorem five_dp {K : PySem.W.Frag} {H : Hp} : ∀ l : List Bool, DpAll K H (l.map V.bl) (l.map PyData.bool)
  | [] => .nil
  | b :: r => .cons (.bl b) (five_dp r)
theorem five_sh : ∀ i, i < 4 → SeqAt.shaped (.list ((five i).map PyData.bool)) = true := by decide +kernel
theorem five_cnt : ∀ i, i < 4 → ((five i).map PyData.bool).countP (fun z => PyData.eqv z (.bool true)) = 1 := by decide +kernel
theorem five_ix : ∀ i, i < 4 → ((five i).map PyData.bool)[i + 1]? = some (PyData.bool true) := by
  intro i h
  rcases i with _ | _ | _ | _ | i <;> first | rfl | omega
theorem five_no : ∀ i, i < 4 → ∀ m, m < i + 1 → ((five i).map PyData.bool)[m]? = some (PyData.bool false) := by
  intro i h m hm
  rcases i with _ | _ | _ | _ | i <;> rcases m with _ | _ | _ | _ | m <;> first | rfl | omega
section
variable {Y : Cx} {ca : Nat → Addr} {i : Nat} {a : Addr} {oe : Obj} {pn : List (Addr × Obj)}
theorem k5_count {x : Expr} (hi4 : i < 4) (hN : Y.N = tN) (hsc : tLo Y.env.scope "kinds" = true) (hu : (Y.suite a ((a, oe) :: pn)).A.units + 65 < cLine) (h : isK5 "count" x = true) :
    PE (Y.suite a ((a, oe) :: pn)) x (fun σ H Q => ∃ l, σ[3]? = some (some (.ref l)) ∧ H l = some (.lst ((five i).map V.bl)) ∧ Q (.int 1) H) := by
  unfold isK5 at h
  split at h
  · rename_i k p1 m ap j p2 p3
    simp only [Bool.and_eq_true, beq_iff_eq] at h
    obtain ⟨⟨rfl, rfl⟩, hl⟩ := h
    have vk : PE (Y.suite a ((a, oe) :: pn)) (.Name "kinds" p1) (tVar 3) := pe_var (by show Y.N[3]? = _; rw [hN]; rfl) (.inl (tLo_of hsc)) (by decide) (by decide)
    refine PE.mono (pe_bm PySem.F.plainAttrs_list PySem.F.slot_list_count PySem.F.type_list_count (mt_countD hu) vk (pa_cons pe_bl pa_nil) rfl rfl (by simpa using hl)) fun σ H Q ⟨l, h1, h2, q⟩ => ?_
    refine ⟨_, h1, .inl ⟨rfl, _, SqL.of h2⟩, l, _, .bool true, (five i).map PyData.bool, rfl, rfl, .lst (SqL.of h2) (five_dp _), .bl true, five_sh i hi4, rfl, ?_⟩
    rw [five_cnt i hi4]; exact q
  · cases h
theorem k5_index {x : Expr} (hi4 : i < 4) (hN : Y.N = tN) (hsc : tLo Y.env.scope "kinds" = true) (hu : (Y.suite a ((a, oe) :: pn)).A.units + 65 < cLine) (h : isK5 "index" x = true) :
    PE (Y.suite a ((a, oe) :: pn)) x (fun σ H Q => ∃ l, σ[3]? = some (some (.ref l)) ∧ H l = some (.lst ((five i).map V.bl)) ∧ Q (.int ((i + 1 : Nat) : Int)) H) ∧ ∀ (l : List Expr) (env : Env), starEach (x :: l) env = (false, eval x env) :: starEach l env := by
  unfold isK5 at h
  split at h
  · rename_i k p1 m ap j p2 p3
    simp only [Bool.and_eq_true, beq_iff_eq] at h
    obtain ⟨⟨rfl, rfl⟩, hl⟩ := h
    refine ⟨?_, fun _ _ => rfl⟩
    have vk : PE (Y.suite a ((a, oe) :: pn)) (.Name "kinds" p1) (tVar 3) := pe_var (by show Y.N[3]? = _; rw [hN]; rfl) (.inl (tLo_of hsc)) (by decide) (by decide)
    refine PE.mono (pe_bm PySem.F.plainAttrs_list PySem.F.slot_list_index PySem.F.type_list_index (mt_indexD hu) vk (pa_cons pe_bl pa_nil) rfl rfl (by simpa using hl)) fun σ H Q ⟨l, h1, h2, q⟩ => ?_
    refine ⟨_, h1, .inl ⟨rfl, _, SqL.of h2⟩, l, _, .bool true, (five i).map PyData.bool, i + 1, .bool true, rfl, rfl, .lst (SqL.of h2) (five_dp _), .bl true, five_sh i hi4, rfl, five_ix i hi4, by decide +kernel, fun m z hm hz => ?_, q⟩
    rw [five_no i hi4 m hm] at hz
    cases hz
    decide +kernel
  · cases h
end

section
variable {Y : Cx} {ca : Nat → Addr} {i : Nat} {a : Addr} {oe : Obj} {pn : List (Addr × Obj)}
theorem told_suite {s1 s2 s3 s4 : Stmt} (C : ClsOk ca Y.K Y.mg) (hi4 : i < 4) (hN : Y.N = tN) (hsc : tScope Y.env.scope = true) (hu : (Y.suite a ((a, oe) :: pn)).A.units + 65 < cLine) (hz : Zc (.ref (ca i)) none oe) (hf : ∃ vs, oe.data = .fields vs)
    (h1 : isKinds s1 = true) (h2 : isApp s2 = true) (h3 : isGot0 s3 = true) (h4 : isIf5 s4 = true) :
    PSs (Y.suite a ((a, oe) :: pn)) [s1, s2, s3, s4] (fun D σ H => σ.length = 4 ∧ σ[2]? = some (some (.ref a)) ∧ ∀ H2 p σ', (∀ b o, H b = some o → H2 b = some o) → H p = none → (∃ ob : Obj, H2 p = some (.frz ob (.tup [.str "refused", .int ((i + 1 : Nat) : Int)])) ∧ ob.dict = none) → σ'.length = 4 → σ'[1]? = some (some (.ref p)) → D.nx σ' H2) := by
  have nd : (Y.suite a ((a, oe) :: pn)).N.Nodup := by show Y.N.Nodup; rw [hN]; decide +kernel
  have g3 : (Y.suite a ((a, oe) :: pn)).N[3]? = some ("kinds" : Str) := by show Y.N[3]? = _; rw [hN]; rfl
  have g1 : (Y.suite a ((a, oe) :: pn)).N[1]? = some ("got" : Str) := by show Y.N[1]? = _; rw [hN]; rfl
  unfold tScope at hsc
  simp only [Bool.and_eq_true] at hsc
  obtain ⟨⟨⟨c1, c2⟩, c3, c4⟩, ⟨⟨c5, c6⟩, c7, c8⟩, ⟨c9, c10⟩, c11, c12⟩ := hsc
  have E := C.ec i hi4
  have K : ∀ j, j < 5 → PySem.W.kitOne Y.K (.ref (ca i)) (.ref (ca j)) = some (decide (i = j)) := fun j hj => C.kt i j hi4 hj
  have l3 : (Y.suite a ((a, oe) :: pn)).env.scope.names.lookup ("kinds" : Str) = some .local := tLo_of c4
  have l1 : (Y.suite a ((a, oe) :: pn)).env.scope.names.lookup ("got" : Str) = some .local := tLo_of c2
  unfold isKinds at h1
  split at h1
  · rename_i k p1 x1 x2 x3 x4 p2 p3
    simp only [Bool.and_eq_true, beq_iff_eq] at h1
    obtain ⟨rfl, ⟨a1, a2⟩, a3, a4⟩ := h1
    obtain ⟨e1, f1⟩ := isi_own (a := a) (pn := pn) hN c3 c6 c7 (by decide) E hz hf C.is C.m4 (K 4 (by omega)) a1
    obtain ⟨e2, f2⟩ := isi_own (a := a) (pn := pn) hN c3 c6 c8 (by decide) E hz hf C.is C.m0 (K 0 (by omega)) a2
    obtain ⟨e3, f3⟩ := isi_own (a := a) (pn := pn) hN c3 c6 c9 (by decide) E hz hf C.is C.m1 (K 1 (by omega)) a3
    obtain ⟨e4, f4⟩ := isi_own (a := a) (pn := pn) hN c3 c6 c10 (by decide) E hz hf C.is C.m2 (K 2 (by omega)) a4
    unfold isApp at h2
    split at h2
    · rename_i k2 q1 m ap y q2 q3
      simp only [Bool.and_eq_true, beq_iff_eq] at h2
      obtain ⟨⟨⟨rfl, rfl⟩, hl⟩, a5⟩ := h2
      obtain ⟨e5, f5⟩ := isi_own (a := a) (pn := pn) hN c3 c6 c11 (by decide) E hz hf C.is C.m3 (K 3 (by omega)) a5
      unfold isGot0 at h3
      split at h3
      · rename_i g r1 r _ r2 _ r3 r4 _ r5 r6
        simp only [Bool.and_eq_true, beq_iff_eq] at h3
        obtain ⟨rfl, rfl⟩ := h3
        unfold isIf5 at h4
        split at h4
        · rename_i z1 z2 _ _ _ _ _ gg _
          simp only [Bool.and_eq_true] at h4
          obtain ⟨⟨b1, b2⟩, b3⟩ := h4
          obtain ⟨eV, fV⟩ := isi_val (a := a) (pn := pn) hN c3 c6 c12 E hz hf C.is C.ve (C.kv i hi4) b1
          have eC := k5_count (Y := Y) (a := a) (oe := oe) (pn := pn) hi4 hN c4 hu b2
          unfold isGot1 at b3
          split at b3
          · rename_i g' t1 r' _ t2 x' _ t3 t4
            simp only [Bool.and_eq_true, beq_iff_eq] at b3
            obtain ⟨⟨rfl, rfl⟩, b4⟩ := b3
            obtain ⟨eI, fI⟩ := k5_index (Y := Y) (a := a) (oe := oe) (pn := pn) hi4 hN c4 hu b4
            have vk : ∀ p, PE (Y.suite a ((a, oe) :: pn)) (.Name "kinds" p) (tVar 3) := fun p => pe_var g3 (.inl l3) (by decide) (by decide)
            refine PSs.mono (pss_cons (ps_set (i := 3) nd g3 (.inl l3) (pe_lst (pa_cons e1 (pa_cons e2 (pa_cons e3 (pa_cons e4 pa_nil (f4 _ _)) (f3 _ _)) (f2 _ _)) (f1 _ _))) rfl (.inr l3))
              (pss_cons (ps_expr (pe_bm PySem.F.plainAttrs_list PySem.F.slot_list_append PySem.F.type_list_append mt_append (vk _) (pa_cons e5 pa_nil (f5 _ _)) rfl (by rw [f5]; rfl) (by simpa using hl) (f5 _ _) rfl))
              (pss_cons (ps_set (i := 1) nd g1 (.inl l1) (pe_tup (pa_cons pe_str (pa_cons (pe_un un_neg pe_int) pa_nil))) rfl (.inr l1))
              (pss_one (ps_if (PW.pt (pw_and (pt_val eV (fV _)) (pw_and1 (pt_cmpR op_eq eC pe_int (nomark _))))) (pss_one (ps_set (i := 1) nd g1 (.inl l1) (pe_tupP (pa_cons pe_str (pa_cons eI pa_nil (fI _ _)))) rfl (.inr l1))) pss_nil))))) fun D σ H ⟨q1, q2, q3⟩ => ?_
            obtain ⟨w0, w1, w2, w3, rfl⟩ : ∃ w0 w1 w2 w3, σ = [w0, w1, w2, w3] := by
              match σ, q1 with
              | [w0, w1, w2, w3], _ => exact ⟨_, _, _, _, rfl⟩
            have q2 : w2 = some (.ref a) := Option.some.inj q2
            subst q2
            refine ⟨rfl, rfl, rfl, rfl, by show 4 ≤ sizeLine; rw [sizeLine_eq]; omega, fun l nl => ?_⟩
            have ki : five i = [decide (i = 4), decide (i = 0), decide (i = 1), decide (i = 2), decide (i = 3)] := by
              have : decide (i = 4) = false := by simp; omega
              rw [this]; rfl
            refine ⟨_, rfl, .inl ⟨rfl, _, SqL.of upd_same⟩, rfl, l, _, _, rfl, rfl, upd_same, by show 4 < sizeLine; rw [sizeLine_eq]; omega, ?_⟩
            refine ⟨_, rfl, by show 2 ≤ sizeLine; rw [sizeLine_eq]; omega, fun t nt => ?_⟩
            have nlt : l ≠ t := fun e => by rw [← e, upd_same] at nt; cases nt
            have hl5 : upd (upd (upd H l (.lst [.bl (decide (i = 4)), .bl (decide (i = 0)), .bl (decide (i = 1)), .bl (decide (i = 2))])) l (.lst ([.bl (decide (i = 4)), .bl (decide (i = 0)), .bl (decide (i = 1)), .bl (decide (i = 2))] ++ [.bl (decide (i = 3))]))) t (.tup [.str "refused", .int (-1)]) l = some (.lst ((five i).map V.bl)) := by
              rw [upd_ne nlt, upd_same, ki]; rfl
            refine ⟨rfl, true, rfl, ?_⟩
            show if true = true then _ else _
            rw [if_pos rfl]
            refine ⟨l, rfl, hl5, rfl, true, rfl, ?_⟩
            show if true = true then _ else _
            rw [if_pos rfl]
            refine ⟨l, rfl, hl5, by show 2 ≤ sizeLine; rw [sizeLine_eq]; omega, fun p ob np hob => ?_⟩
            have ntp : t ≠ p := fun e => by rw [← e, upd_same] at np; cases np
            have nlp : l ≠ p := fun e => by rw [← e, hl5] at np; cases np
            rw [upd_ne (Ne.symm ntp), upd_ne (Ne.symm nlp), upd_ne (Ne.symm nlp)] at np
            refine q3 _ p _ (fun b o e => ?_) np ⟨ob, upd_same, hob⟩ rfl rfl
            have n1 : b ≠ p := ne_of_none e np
            have n2 : b ≠ l := ne_of_none e nl
            have n3 : b ≠ t := by
              have nt' := nt
              intro z
              subst z
              rw [upd_ne n2, upd_ne n2, e] at nt'; cases nt'
            rw [upd_ne n1, upd_ne n3, upd_ne n2, upd_ne n2]; exact e
          · cases b3
        · cases h4
      · cases h3
    · cases h2
  · cases h1
end
end Mk
end
section
set_option Elab.async false
set_option linter.all false
set_option maxRecDepth 100000
set_option maxHeartbeats 4000000
namespace Mk
open PySem PySem.Spec PyProof.Rows L2

theorem told_givesD {X : Cx} {ca : Nat → Addr} {sg : Scope} {g : Addr} {cdg : Value} {bg : List Stmt} {q : Str} (C : ClsOk ca X.K X.mg) (hr : Room 1 X.A) (hb : isTold bg = true) (hs : tScope sg = true) :
    LamX.GivesTo X tN "_law_told" sg g cdg bg "deed" q (TToldD ca) := by
  intro f c' s H Q tl act hc h
  unfold isTold at hb
  split at hb
  · rename_i b m _ e s1 s2 s3 s4 _ _ r
    simp only [Bool.and_eq_true, beq_iff_eq] at hb
    obtain ⟨⟨⟨rfl, rfl⟩, hT, hR⟩, ⟨k1, k2⟩, k3, k4⟩ := hb
    obtain ⟨M, hM, hx⟩ := C.M
    have hs' := hs
    unfold tScope at hs'
    simp only [Bool.and_eq_true] at hs'
    obtain ⟨⟨⟨c1, c2⟩, c3, c4⟩, ⟨⟨c5, c6⟩, c7, c8⟩, ⟨c9, c10⟩, c11, c12⟩ := hs'
    have hu := (hr.deeper (envOfC "_law_told" sg s.heap.objs.size g cdg)).un
    unfold isGotT at hT
    split at hT
    · rename_i gg t1 rr _ t2 d t3 t4 _ t5 t6
      simp only [Bool.and_eq_true, beq_iff_eq] at hT
      obtain ⟨⟨rfl, rfl⟩, rfl⟩ := hT
      unfold isRet at hR
      split at hR
      · rename_i g2 u1 u2
        have hR := beq_iff_eq.mp hR
        subst hR
        have hkd : (cxOf C8.CX0 X.prog X.w X.K X.mg X.base tN "_law_told" sg g cdg X.A X.stack s H C8.E0).nox.env.kindOf "e" = some .local := tLo_of c3
        refine ⟨_, pss_cons (ps_try_as (X := (cxOf C8.CX0 X.prog X.w X.K X.mg X.base tN "_law_told" sg g cdg X.A X.stack s H C8.E0).nox) (i := 2) (c := .ref M)
          (tb := fun W D σ H => ∃ Ech : XK, (∀ cls d σ' H', Ech cls d H' → W cls d σ' H') ∧ σ[0]? = some (some (.ref f)) ∧ H c' = some (LamX.CodeO c' q) ∧ tl Ech H fun v H1 => ∀ (p : Addr) (ob : Obj), H1 p = none → ob.dict = none → D.nx (σ.set 1 (some (.ref p))) (upd H1 p (.frz ob (.tup [.str "told", v]))))
          (ts := fun a cls d D σ H => ∃ i, i < 4 ∧ cls = .ref (ca i) ∧ d = none ∧ ((2 < σ.length → σ[2]? = some (some (.ref a))) ∧ ∀ H2 p σ', (∀ b o, H b = some o → H2 b = some o) → H p = none → (∃ ob : Obj, H2 p = some (.frz ob (.tup [.str "refused", .int ((i + 1 : Nat) : Int)])) ∧ ob.dict = none) → σ'.length = 4 → σ'[1]? = some (some (.ref p)) → D.nx σ' H2))
          rfl rfl (by show tN.Nodup; decide +kernel) rfl hkd ⟨tGl_of c5, by decide, .inl hM⟩ LamX.takes0 (fun W pn xe tk _ => ?_) (fun a oe cls d pn hz hf => ?_)) (pss_one (ps_ret (pe_var (i := 1) rfl (.inl (tLo_of c2)) (by decide) (by decide)))), ?_⟩
        · refine ⟨fun pins s' σ H' D I h' => ?_⟩
          obtain ⟨Ech, hW, h1, h2, h3⟩ := h'
          exact (pss_one (ps_set (i := 1) (show (((cxOf C8.CX0 X.prog X.w X.K X.mg X.base tN "_law_told" sg g cdg X.A X.stack s H C8.E0)).tr pn xe).N.Nodup by show tN.Nodup; decide +kernel) rfl (.inl (tLo_of c2)) (pe_tupP (pa_cons pe_str (pa_cons (act W pn xe Ech _ _ tk hW) pa_nil))) rfl (.inr (tLo_of c2)))).run pins s' σ H' D I
            ⟨h1, h2, h.1 _ _ _ _ (fun v H1 hh => ⟨by show 2 ≤ sizeLine; rw [sizeLine_eq]; omega, hh⟩) h3⟩
        · refine ⟨fun pins s' σ H' D I hh => ?_⟩
          obtain ⟨i, hi, rfl, rfl, hh⟩ := hh
          have hl : σ.length = 4 := I.len
          exact (told_suite (Y := (cxOf C8.CX0 X.prog X.w X.K X.mg X.base tN "_law_told" sg g cdg X.A X.stack s H C8.E0).nox) C hi rfl hs (show (X.A.deeper (envOfC "_law_told" sg s.heap.objs.size g cdg)).units + 65 < cLine by omega) hz hf k1 k2 k3 k4).run pins s' σ H' D I ⟨hl, hh.1 (by omega), hh.2⟩
        · refine ⟨_, fun cls d σ' H' hE => ?_, rfl, hc, h.1 _ _ _ _ (fun v H1 hh p ob np hob => ⟨_, rfl, hh p ob np hob⟩) h.2⟩
          obtain ⟨i, hi, rfl, rfl, hq⟩ := hE
          refine ⟨true, hx i hi, fun _ a na => ⟨i, hi, rfl, rfl, fun hl => ?_, fun H2 p σ2 k1 k2 k3 k4 k5 => ?_⟩, fun z => by cases z⟩
          · rw [List.length_set] at hl
            rw [List.getElem?_set_self hl]
          · exact ⟨_, by rw [List.getElem?_set_ne (by decide)]; exact k5, hq H2 p k1 k2 k3⟩
      · cases hR
    · cases hT
  · cases hb

/-- what is known of the def told -/
structure TlOk (L : Law) (K : PySem.W.Frag) (mg : Str → Option Value) : Prop where
  cls : ClsOk L.ca K mg
  df : ∃ (g : Addr) (oc : Value) (od : Option Addr) (pg : Arguments) (bg : List Stmt) (sg : Scope) (kV doc pm : Value) (an : Option Addr) (cdv ct : Value) (osl : Array (Option Value)),
    mg "_law_told" = some (.ref g) ∧ PySem.W.keepIn K (.ref g) = true ∧ K.lookup g = some ⟨oc, od, .func (PySem.W.fnOf "_law_told" "_law_told" pg bg sg .none kV doc pm an cdv ct), osl⟩ ∧ PySem.W.codeIn K cdv "_law_told" = true ∧
    Binds K (PySem.W.fnOf "_law_told" "_law_told" pg bg sg .none kV doc pm an cdv ct) ["deed"] [] ∧ FnScope tN ["deed"] sg ∧ isTold bg = true ∧ tScope sg = true
def noArgs : Arguments → Bool
  | ⟨[], [], none, [], [], none, []⟩ => true
  | _ => false
theorem told_str : (Str.ofString "told") = toS kTold := by decide +kernel
theorem refused_str : (Str.ofString "refused") = toS kRefused := by decide +kernel
section
variable {X : Cx} {L : Law} {W : XK}
theorem Good.told {Z H H1 : Hp} (g : Good L.T Z H) (xn : LamX.ExtN H H1) (T1 : LamX.Tabs L.T H1) : Good L.T Z H1 ∧ Ext Z H Z H1 :=
  ⟨⟨fun a o z => xn a o (g.sub a o z) (fun ps hh => g.ntb a ps (hh ▸ z)), T1, g.ntb⟩, ⟨Le.refl _, fun a o h n => xn a o h n, fun _ _ _ _ => rfl⟩⟩
/-- an exception's number and class -/
theorem ex_no {ca : Nat → Addr} {e : Ex} {c : Value} {d : Option Addr} {H : Hp} {i : Int} (h : exNo e = some i) (r : ExR ca e c d H) : ∃ k : Nat, k < 4 ∧ c = .ref (ca k) ∧ d = none ∧ i = ((k + 1 : Nat) : Int) := by
  cases e with
  | noPart => cases h; exact ⟨0, by omega, r.1, r.2, rfl⟩
  | noValue => cases h; exact ⟨1, by omega, r.1, r.2, rfl⟩
  | badChange => cases h; exact ⟨2, by omega, r.1, r.2, rfl⟩
  | noStep => cases h; exact ⟨3, by omega, r.1, r.2, rfl⟩
  | badText i => cases h
theorem d_told {params : Arguments} {body : Expr} {scope : Scope} {p lpos pos : Pos} {mm : List Slot → R D} {c P : Addr} {k : Nat} (T : TlOk L X.K X.mg) (hg : Gl X "_law_told") (TB : LamX.TabB X.base X.mg c P) (hcode : X.env.code = .ref c)
    (hmT : (P, X.env.qual ++ "<lambda>") ∈ L.T) (hu : ∀ p ∈ L.T, p.1 = P → p.2 = X.env.qual ++ "<lambda>") (hr : Room (k + 2) X.A) (LS : LamX.LamS X.env.scope scope) (ha : noArgs params = true)
    (hbody : ∀ (A : Around) (outer : List Env) (s : Shared) (H : Hp) (E : XK) (f c' : Addr), Room k (A.deeper (LamX.lamEnv X scope s.heap.objs.size f c')) → PE (LamX.lamCx X A outer s H E scope f c') body (tE L E false mm)) (pk : Bool) :
    PE X (.Call (.Name "_law_told" p) [.Lambda params body scope lpos] [] pos) (tE L W pk fun r => toldR (mm r)) := by
  obtain ⟨g, oc, od, pg, bg, sg, kV, doc, pm, an, cdv, ct, osl, h1, h2, h3, h4, h5, h6, h7, h8⟩ := T.df
  have G : LamX.GivesTo X tN "_law_told" sg g cdv bg "deed" (X.env.qual ++ "<lambda>") (TToldD L.ca) := told_givesD T.cls (hr.mono (by omega)) h7 h8
  have hva : Vis sg "deed" := by
    unfold tScope at h8
    simp only [Bool.and_eq_true] at h8
    exact .inl (tLo_of h8.1.1.1)
  unfold noArgs at ha
  split at ha
  · refine PE.mono (LamX.pe_lamcall (T := L.T) (k := k) hg h1 h2 h3 h4 h5 h6 rfl hva G TB hcode hmT hu hr LS rfl (fun _ _ _ _ _ => rfl) hbody) fun σ H Q ⟨Z, r, gd, e, q⟩ => ?_
    refine ⟨gd.tabs, fun H1 xn T1 => ⟨fun E H Q Q' hq ⟨Z, r, a, b, c⟩ => ⟨Z, r, a, b, c.mono hq⟩, ?_⟩⟩
    obtain ⟨g1, x1⟩ := gd.told xn T1
    refine ⟨Z, r, g1, e.ext x1, ?_⟩
    cases hm : mm r with
    | ok d =>
      simp only [hm, toldR] at q
      intro v H' Z' g' x' rv pp ob np hob
      refine q _ _ (upd Z' pp (.frz ob (.tup [.str "told", v]))) (g'.put np (fun _ h => nomatch h)) ((x1.trans x').trans (Ext.put g' np)) (.inl (.tup upd_same hob (by show 2 ≤ LIM; decide) (.cons ?_ (.cons ?_ .nil))))
      · rw [told_str]; exact .str (by decide) (by decide)
      · exact (RepM.val rv).mono (Ext.put (o := .frz ob (.tup [.str "told", v])) g' np).le
    | ex ee =>
      simp only [hm, toldR] at q
      cases hn : exNo ee with
      | none => simp only [hn, opt] at q; exact q.elim
      | some i =>
        simp only [hn, opt] at q
        intro H' Z' c d g' x' xr
        obtain ⟨kk, hk4, rfl, rfl, rfl⟩ := ex_no hn xr
        refine ⟨kk, hk4, rfl, rfl, fun H2 pp hs np ⟨ob, hp, hob⟩ => ?_⟩
        have zp : Z' pp = none := g'.none np
        have le : Le Z' (upd Z' pp (.frz ob (.tup [.str "refused", .int ((kk + 1 : Nat) : Int)]))) := Le.of fun a u z => by rw [upd_ne (ne_of_none z zp)]; exact z
        refine q _ H2 (upd Z' pp (.frz ob (.tup [.str "refused", .int ((kk + 1 : Nat) : Int)]))) ⟨fun a o z => ?_, g'.tabs.ext hs, fun a ps z => ?_⟩ ((x1.trans x').trans ⟨le, fun a o z _ => hs a o z, fun a o z _ => by rw [upd_ne (ne_of_none z np)]⟩) (.inl (.tup upd_same hob (by show 2 ≤ LIM; decide) (.cons ?_ (.cons (.int _) .nil))))
        · by_cases z2 : a = pp
          · subst z2; rw [upd_same] at z; cases z; exact hp
          · rw [upd_ne z2] at z; exact hs a o (g'.sub a o z)
        · by_cases z2 : a = pp
          · subst z2; rw [upd_same] at z; cases z
          · rw [upd_ne z2] at z; exact g'.ntb a ps z
        · rw [refused_str]; exact .str (by decide) (by decide)
    | no => simp only [hm, toldR] at q; exact q.elim
  · cases ha
/-- raise x('..') -/
theorem d_rai {Z0 H0 : Hp} {y m : Str} {j : Nat} {p p2 p3 pos : Pos} {x : Ex} {C : Addr} (hc : X.calm = true) (tk : Takes X fun c d _ H => W c d H) (hg : Gl X y) (hdb : (y == ("__debug__" : Str)) = false) (gC : X.mg y = some (.ref C)) (hx : ∀ H, ExR L.ca x (.ref C) none H)
    (q : PySem.W.excIn X.K C [.type "ValueError", .type "Exception", .type "BaseException", .type "object"] "ValueError.__new__" = true) (kC : PySem.W.keepIn X.K (.ref C) = true) (bC : PySem.W.subIn X.K (.ref C) (.type "BaseException") = some true) (tC : PySem.W.typeIn X.K (.ref C) = some (.type "type")) :
    PS X (.Raise (some (.Call (.Name y p) [.Constant (.str m) j p2] [] p3)) none pos) (tS L W Z0 H0 fun r => .ex x) := by
  refine PS.mono (ps_raise hc tk (pmk_own PySem.F.excBase_ValueError q gC kC (raises_own bC tC) hg hdb)) fun D σ H ⟨Z, r, s, k⟩ => ?_
  exact k H Z (.ref C) none s.g s.x (hx H)
end
end Mk
end
section
set_option Elab.async false
set_option linter.all false
set_option maxRecDepth 100000
set_option maxHeartbeats 4000000
namespace Mk
open PySem PySem.Spec PyProof.Rows L2

structure Cm (F : Type) where
  N : List Str
  gl : Str → Option D
  no : Str → Bool
  fn : Str → Option F
  np : F → Nat
  tl : Bool
  exn : Str → Option Ex

def shape : Expr → Bool
  | .Name _ _ => true
  | .Constant _ _ _ => true
  | .Tuple _ _ _ => true
  | .List _ _ => true
  | .Dict _ _ _ => true
  | .BinOp _ _ _ _ => true
  | .UnaryOp _ _ _ => true
  | .Compare _ _ _ _ => true
  | .BoolOp _ _ _ => true
  | .Subscript _ _ _ => true
  | .Call _ _ _ _ => true
  | .ListComp _ _ _ _ => true
  | _ => false
theorem star_of {x : Expr} (h : shape x = true) (xs : List Expr) (env : Env) : starEach (x :: xs) env = (false, eval x env) :: starEach xs env := by
  cases x <;> first | rfl | simp [shape] at h
theorem ix_of {x : Expr} (h : shape x = true) : PlainIx x := by
  intro o i
  cases x <;> first | rfl | simp [shape] at h
theorem mark_of {x : Expr} (h : shape x = true) (op : CmpOp) : behindInMarks op x = false := by
  cases x <;> first | rfl | simp [shape] at h
theorem fold_of {x : Expr} (h : shape x = true) (env : Env) (y : Value) : foldedSetIterable x env y = pure y := by
  cases x <;> first | rfl | simp [shape] at h
theorem any_of (pos : Pos) : ∀ {xs : List Expr}, (∀ x ∈ xs, shape x = true) → ∀ env, (backTo pos (starEach xs env)).any (·.1) = false
  | [], _, _ => rfl
  | x :: xs, h, env => by
    rw [star_of (h x List.mem_cons_self)]
    have ih := any_of pos (fun y hy => h y (List.mem_cons_of_mem _ hy)) env
    show (false || (backTo pos (starEach xs env)).any (·.1)) = false
    rw [ih]; rfl

def all2 {α β : Type} (f : α → β → Bool) : List α → List β → Bool
  | [], [] => true
  | a :: as, b :: bs => f a b && all2 f as bs
  | _, _ => false
def vis (sc : Scope) (y : Str) : Bool := match sc.names.lookup y with
  | some .local => true
  | some .cell => true
  | some .free => true
  | _ => false
def glb (sc : Scope) (y : Str) : Bool := match sc.names.lookup y with
  | some .globalImplicit => true
  | _ => false
def okN (y : Str) : Bool := !(y == ("__debug__" : Str)) && !(y == ("__classdict__" : Str))
theorem vis_of {sc : Scope} {y : Str} (h : vis sc y = true) : Vis sc y := by
  unfold vis at h
  split at h
  · rename_i e; exact .inl e
  · rename_i e; exact .inr (.inl e)
  · rename_i e; exact .inr (.inr e)
  · cases h
theorem glb_of {sc : Scope} {y : Str} (h : glb sc y = true) : sc.names.lookup y = some .globalImplicit := by
  unfold glb at h
  split at h
  · assumption
  · cases h
theorem okN_of {y : Str} (h : okN y = true) : (y == ("__debug__" : Str)) = false ∧ (y == ("__classdict__" : Str)) = false := by
  unfold okN at h
  rw [Bool.and_eq_true, Bool.not_eq_true', Bool.not_eq_true'] at h
  exact h

section
variable {F : Type} (cm : Cm F)
def mVar (sc : Scope) (i : Nat) : Expr → Bool
  | .Name y _ => decide (cm.N[i]? = some y) && (vis sc y && okN y)
  | _ => false
def eqK : D → D → Bool
  | .str a, .str b => a == b
  | .int a, .int b => a == b
  | _, _ => false
def okK (x : List Nat) : Bool := decide (x.length < LIM) && okS x
def mKst (sc : Scope) (d : D) : Expr → Bool
  | .Constant (.int i) _ _ => match d with
    | .int j => i == j
    | _ => false
  | .Constant (.str s) _ _ => match d with
    | .str x => s.cps.toList == x && okK x
    | _ => false
  | .Constant (.bool b) _ _ => match d with
    | .bl c => b == c
    | _ => false
  | .Constant .none _ _ => match d with
    | .non => true
    | _ => false
  | .Name y _ => match cm.gl y with
    | some d' => eqK d d' && (glb sc y && okN y)
    | none => false
  | _ => false
variable (f : E F → Expr → Bool)
def mTup (es : List (E F)) : Expr → Bool
  | .Tuple xs _ _ => decide (es.length ≤ 1000) && all2 f es xs
  | _ => false
def mLst (es : List (E F)) : Expr → Bool
  | .List xs _ => decide (es.length ≤ 1000) && all2 f es xs
  | _ => false
def mDnew : Expr → Bool
  | .Dict [] [] _ => true
  | _ => false
def isBop : Bop → Operator → Bool
  | .add, .Add => true
  | .sub, .Sub => true
  | .mul, .Mult => true
  | .fdiv, .FloorDiv => true
  | .mod, .Mod => true
  | _, _ => false
def isCop : Cop → CmpOp → Bool
  | .eq, .Eq => true
  | .ne, .NotEq => true
  | .lt, .Lt => true
  | .le, .LtE => true
  | .gt, .Gt => true
  | .ge, .GtE => true
  | .isin, .In => true
  | .notin, .NotIn => true
  | .is, .Is => true
  | .isnot, .IsNot => true
  | _, _ => false
theorem isBop_of {b : Bop} {o : Operator} (h : isBop b o = true) : o = bopPy b := by
  cases b <;> cases o <;> first | rfl | simp [isBop] at h
theorem isCop_of {b : Cop} {o : CmpOp} (h : isCop b o = true) : o = copPy b := by
  cases b <;> cases o <;> first | rfl | simp [isCop] at h
def mBin (op : Bop) (a b : E F) : Expr → Bool
  | .BinOp x o y _ => isBop op o && (f a x && f b y)
  | _ => false
def mNeg (a : E F) : Expr → Bool
  | .UnaryOp .USub x _ => f a x
  | _ => false
def mNot (a : E F) : Expr → Bool
  | .UnaryOp .Not x _ => f a x
  | _ => false
def mCmp (op : Cop) (a b : E F) : Expr → Bool
  | .Compare x [o] [y] _ => isCop op o && (f a x && f b y)
  | _ => false
def mChain (op op' : Cop) (a b c : E F) : Expr → Bool
  | .Compare x [o, o'] [y, z] _ => isCop op o && (isCop op' o' && (f a x && (f b y && f c z)))
  | _ => false
def mAnd (a b : E F) : Expr → Bool
  | .BoolOp .And [x, y] _ => f a x && f b y
  | .BoolOp .And (x :: y :: z :: r) p => f a x && f b (.BoolOp .And (y :: z :: r) p)
  | _ => false
def mOr (a b : E F) : Expr → Bool
  | .BoolOp .Or [x, y] _ => f a x && f b y
  | .BoolOp .Or (x :: y :: z :: r) p => f a x && f b (.BoolOp .Or (y :: z :: r) p)
  | _ => false
def mIdx (a b : E F) : Expr → Bool
  | .Subscript x y _ => f a x && f b y
  | _ => false
def mO : List (E F) → Option Expr → Bool
  | [], none => true
  | [e], some x => f e x
  | _, _ => false
def mSlc (a : E F) (lo hi : List (E F)) : Expr → Bool
  | .Subscript x (.Slice l h none _) _ => f a x && (mO f lo l && mO f hi h)
  | _ => false
def tyName (t : Ty) : Str := Str.ofString (tyPy t)
def mIsa (sc : Scope) (a : E F) (t : Ty) : Expr → Bool
  | .Call (.Name y _) [x, .Name z _] [] _ => (y == ("isinstance" : Str) && z == tyName t) && ((glb sc y && cm.no y) && ((glb sc z && cm.no z) && f a x))
  | _ => false
def isF (y : Str) (g : F → Bool) : Bool := match cm.fn y with
  | some k => g k
  | none => false
def mCall [DecidableEq F] (sc : Scope) (k : F) (es : List (E F)) : Expr → Bool
  | .Call (.Name y _) xs [] _ => (isF cm y fun j => decide (j = k)) && ((glb sc y && okN y) && all2 f es xs)
  | _ => false
def mBlt0 (sc : Scope) (b : Blt) (es : List (E F)) : Expr → Bool
  | .Call (.Name y _) xs [] _ => (decide (b ≠ .lenset ∧ b ≠ .sitems) && (y == bltName b && (glb sc y && cm.no y))) && (!xs.isEmpty && all2 f es xs)
  | _ => false
def mRev (a : E F) : Expr → Bool
  | .Subscript x (.Slice none none (some (.UnaryOp .USub (.Constant (.int i) _ _) _)) _) _ => i == 1 && f a x
  | _ => false
/-- len(set(x)) -/
def mLens (sc : Scope) (es : List (E F)) : Expr → Bool
  | .Call (.Name y _) [.Call (.Name z _) [x] [] _] [] _ => ((y == ("len" : Str) && (glb sc y && cm.no y)) && (z == ("set" : Str) && (glb sc z && cm.no z))) && all2 f es [x]
  | _ => false
def noBare : Expr → Bool
  | .Call (.Name _ _) [] [] _ => false
  | _ => true
/-- sorted(x.items()) -/
def mSit (sc : Scope) (es : List (E F)) : Expr → Bool
  | .Call (.Name y _) [.Call (.Attribute x m ap) [] [] q] [] _ => (y == ("sorted" : Str) && (glb sc y && cm.no y)) && ((m == ("items" : Str) && (noBare x && ap.endLine == q.line)) && all2 f es [x])
  | _ => false
def mBlt (sc : Scope) (b : Blt) (es : List (E F)) (x : Expr) : Bool := match b with
  | .lenset => mLens cm f sc es x
  | .sitems => mSit cm f sc es x
  | b => mBlt0 cm f sc b es x
def one256 : List (E F) → Bool
  | [.kst (.str [c])] => decide (c < 256)
  | _ => false
def mSplit (o : E F) (es : List (E F)) : Expr → Bool
  | .Call (.Attribute x m ap) [y] [] p => m == ("split" : Str) && ((noBare x && ap.endLine == p.line) && ((one256 es && f o x) && all2 f es [y]))
  | _ => false
def mJoin (o : E F) (es : List (E F)) : Expr → Bool
  | .Call (.Attribute x m ap) [y] [] p => m == ("join" : Str) && ((noBare x && ap.endLine == p.line) && (f o x && all2 f es [y]))
  | _ => false
def mIndex (o : E F) (es : List (E F)) : Expr → Bool
  | .Call (.Attribute x m ap) [y] [] p => m == ("index" : Str) && ((noBare x && ap.endLine == p.line) && (f o x && all2 f es [y]))
  | _ => false
def mGet (o : E F) (es : List (E F)) : Expr → Bool
  | .Call (.Attribute x m ap) [y, z] [] p => m == ("get" : Str) && ((noBare x && ap.endLine == p.line) && (f o x && all2 f es [y, z]))
  | _ => false
def mRepl [DecidableEq F] (sc : Scope) (o : E F) (es : List (E F)) : Expr → Bool
  | .Call (.Attribute (.Call (.Name y _) [x, .Constant (.int i) _ _] [] _) m ap) [.Constant (.str s) _ _, .Constant (.str s') _ _] [] p =>
    match o, es with
    | .call k [e, .kst (.int j)], [.kst (.str [c]), .kst (.str z)] => (m == ("replace" : Str) && ap.endLine == p.line) && (((isF cm y fun j => decide (j = k)) && (glb sc y && okN y)) && ((f e x && i == j) && ((s.cps.toList == [c] && s'.cps.toList == z) && (okS z && (!(z == [c]) && decide (z.length ≤ 8))))))
    | _, _ => false
  | _ => false
def mMth [DecidableEq F] (sc : Scope) (m : Mth) (o : E F) (es : List (E F)) (x : Expr) : Bool := match m with
  | .split => mSplit f o es x
  | .join => mJoin f o es x
  | .get => mGet f o es x
  | .replace => mRepl cm f sc o es x
  | .index => mIndex f o es x
  | _ => false
/-- what a lambda hands over -/
def mArg (sc : Scope) (e : E F) (x : Expr) : Bool := shape x && (match e with
  | .var i => mVar cm sc i x
  | .kst d => mKst cm sc d x
  | _ => false)
def mTold [DecidableEq F] (sc : Scope) (k : F) (es : List (E F)) : Expr → Bool
  | .Call (.Name y _) [.Lambda params body scope _] [] _ => (cm.tl && (y == ("_law_told" : Str) && glb sc y)) && ((LamX.lamSB sc scope && noArgs params) && (shape body && mCall cm (mArg cm scope) scope k es body))
  | _ => false
/-- targets: each name its slot, stored in the block itself -/
def mNm (sc : Scope) (i : Nat) : Expr → Bool
  | .Name y _ => decide (cm.N[i]? = some y) && (match sc.names.lookup y with | some .local => true | some .cell => true | _ => false)
  | _ => false
def mTg (sc : Scope) : Tg → Expr → Bool
  | .nm i, x => mNm cm sc i x
  | .tp is, .Tuple xs _ _ => all2 (mNm cm sc) is xs
  | _, _ => false
def isTup : Expr → Bool
  | .Tuple _ _ _ => true
  | _ => false
def mRange (sc : Scope) (es : List (E F)) : Expr → Bool
  | .Call (.Name y _) [x] [] _ => match es with
    | [e] => (y == ("range" : Str) && (glb sc y && cm.no y)) && f e x
    | _ => false
  | .Call (.Name y _) [x, x'] [] _ => match es with
    | [e, e'] => (y == ("range" : Str) && (glb sc y && cm.no y)) && (f e x && f e' x')
    | _ => false
  | _ => false
def mZip (sc : Scope) (es : List (E F)) (tg : Expr) : Expr → Bool
  | .Call (.Name y _) [x, x'] [] _ => match es with
    | [e, e'] => (isTup tg && (y == ("zip" : Str) && (glb sc y && cm.no y))) && (f e x && f e' x')
    | _ => false
  | _ => false
def mEnum (sc : Scope) (es : List (E F)) (tg : Expr) : Expr → Bool
  | .Call (.Name y _) [x] [] _ => match es with
    | [e] => (isTup tg && (y == ("enumerate" : Str) && (glb sc y && cm.no y))) && f e x
    | _ => false
  | _ => false
/-- a comprehension's block -/
def ownOf (tg : Tg) : List (Str × Nat) := tg.slots.filterMap fun i => (cm.N[i]?).map fun y => (y, i)
def blkC (sc scope : Scope) (own : List (Str × Nat)) : Bool :=
  decide (scope.kind = .function) && (scope.names.all (fun y => decide (scope.names.lookup y.1 = some y.2)) && (own.all (fun p => decide (cm.N[p.2]? = some p.1)) &&
    (scope.names.all (fun y => !decide (y.2 = .free) || (decide (sc.names.lookup y.1 = some .cell) || decide (sc.names.lookup y.1 = some .free))) &&
     scope.names.all (fun y => !(decide (y.2 = .local) || decide (y.2 = .cell)) || (decide (y.1 ∈ own.map (·.1)) || decide (y.1 ∉ cm.N))))))
end
theorem blk_of {F : Type} {cm : Cm F} {sc scope : Scope} {own : List (Str × Nat)} (h : blkC cm sc scope own = true) : BlkOk cm.N sc scope own := by
  unfold blkC at h
  simp only [Bool.and_eq_true, List.all_eq_true, decide_eq_true_eq, Bool.or_eq_true, Bool.not_eq_true', decide_eq_false_iff_not] at h
  obtain ⟨h1, h2, h3, h4, h5⟩ := h
  refine ⟨h1, h2, h3, fun y hy e => ?_, fun y hy e => ?_⟩
  · exact (h4 y hy).resolve_left fun z => z e
  · have := h5 y hy
    rcases this with k | k
    · rw [Bool.or_eq_false_iff, decide_eq_false_iff_not, decide_eq_false_iff_not] at k
      rcases e with e | e
      · exact absurd e k.1
      · exact absurd e k.2
    · exact k
end Mk
end
section
set_option Elab.async false
set_option linter.all false
set_option maxRecDepth 100000
set_option maxHeartbeats 4000000
namespace Mk
open PySem PySem.Spec PyProof.Rows L2

section
variable {F : Type} [DecidableEq F] (cm : Cm F)
def mIt (g : E F → Expr → Bool) (sc : Scope) (k : Sk) (es : List (E F)) (tg it : Expr) : Bool := match k with
  | .it => match es with
    | [e] => g e it
    | _ => false
  | .range => mRange cm g sc es it
  | .zip => mZip cm g sc es tg it
  | .enum => mEnum cm g sc es tg it
  | _ => false
def mKeys (sc : Scope) (es : List (E F)) (it : Expr) : Bool := match es with
  | [.var i] => mVar cm sc i it
  | _ => false
def mLc (g : Scope → E F → Expr → Bool) (sc : Scope) (tg : Tg) (k : Sk) (es cond : List (E F)) (elt : E F) : Expr → Bool
  | .ListComp y [⟨t, it, ifs, 0⟩] scope _ =>
    (match k with
      | .keys => mKeys cm sc es it
      | _ => mIt cm (g sc) sc k es t it) &&
    ((blkC cm sc scope (ownOf cm tg) && decide ((ownOf cm tg).map (·.2) = tg.slots)) && (mTg cm scope tg t && ((decide (cond.length ≤ 1) && all2 (g (relS scope sc)) cond ifs) && g (relS scope sc) elt y)))
  | _ => false
def mE : Nat → Scope → E F → Expr → Bool
  | 0, _, _, _ => false
  | n + 1, sc, e, x => shape x && (match e with
    | .var i => mVar cm sc i x
    | .kst d => mKst cm sc d x
    | .tup es => mTup (mE n sc) es x
    | .lst es => mLst (mE n sc) es x
    | .dnew => mDnew x
    | .bin op a b => mBin (mE n sc) op a b x
    | .neg a => mNeg (mE n sc) a x
    | .cmp op a b => mCmp (mE n sc) op a b x
    | .chain op op' a b c => mChain (mE n sc) op op' a b c x
    | .and a b => mAnd (mE n sc) a b x
    | .or a b => mOr (mE n sc) a b x
    | .not a => mNot (mE n sc) a x
    | .idx a b => mIdx (mE n sc) a b x
    | .slc a lo hi => mSlc (mE n sc) a lo hi x
    | .rev a => mRev (mE n sc) a x
    | .isa a t => mIsa cm (mE n sc) sc a t x
    | .call k es => mCall cm (mE n sc) sc k es x
    | .blt b es => mBlt cm (mE n sc) sc b es x
    | .mth m o es => mMth cm (mE n sc) sc m o es x
    | .lc tg k es cond elt => mLc cm (mE n) sc tg k es cond elt x
    | .told k es => mTold cm sc k es x)
end

structure XOk {F : Type} (cm : Cm F) (L : Law) (t : Tb F) (m : Nat) (X : Cx) (W : XK) : Prop where
  K : L.K = X.K
  N : X.N = cm.N
  nd : X.N.Nodup
  calm : X.calm = true
  room : Room m X.A
  gl : ∀ y d, cm.gl y = some d → ∃ v u, X.mg y = some u ∧ RelV v u ∧ ∀ Z, Rep L.K Z v d
  no : ∀ y, cm.no y = true → X.mg y = none
  fn : ∀ y k, cm.fn y = some k → ∃ a fd ps, FnOk X.prog X.w X.K X.mg X.base (L2.CX X.prog X.w) m a fd ps (spOf L (cm.np k) (t.c k)) ∧ X.mg y = some (.ref a) ∧ PySem.W.keepIn X.K (.ref a) = true ∧ Binds X.K fd ps []
  len : ∀ k ds, ds.length ≠ cm.np k → t.c k ds = .no
  tk : Takes X fun c d _ H => W c d H
  tl : cm.tl = true → TlOk L X.K X.mg ∧ ∃ c P, X.env.code = .ref c ∧ LamX.TabB X.base X.mg c P ∧ (P, X.env.qual ++ "<lambda>") ∈ L.T ∧ ∀ p ∈ L.T, p.1 = P → p.2 = X.env.qual ++ "<lambda>"
  fn2 : (∃ m', m = m' + 2 ∧ (∀ y k, cm.fn y = some k → ∃ a fd ps, FnOk X.prog X.w X.K X.mg X.base (L2.CX X.prog X.w) m' a fd ps (spOf L (cm.np k) (t.c2 k)) ∧ X.mg y = some (.ref a) ∧ PySem.W.keepIn X.K (.ref a) = true ∧ Binds X.K fd ps []) ∧ ∀ k ds, ds.length ≠ cm.np k → t.c2 k ds = .no) ∨ ∀ k ds, t.c2 k ds = .no
  rai : ∀ y x, cm.exn y = some x → ∃ C, X.mg y = some (.ref C) ∧ (∀ H, ExR L.ca x (.ref C) none H) ∧ PySem.W.excIn X.K C [.type "ValueError", .type "Exception", .type "BaseException", .type "object"] "ValueError.__new__" = true ∧ PySem.W.keepIn X.K (.ref C) = true ∧
    PySem.W.subIn X.K (.ref C) (.type "BaseException") = some true ∧ PySem.W.typeIn X.K (.ref C) = some (.type "type")
theorem XOk.blk {F : Type} {cm : Cm F} {L : Law} {t : Tb F} {m : Nat} {X : Cx} {W : XK} (o : XOk cm L t m X W) (s : Shared) (H : Hp) (scope : Scope) (C : Addr) (cl : List (Str × Addr)) (fp : List Addr) : XOk cm L t m (X.blk s H scope (compEnvC scope cl C X.env) fp) E0 :=
  ⟨o.K, o.N, o.nd, o.calm, o.room, o.gl, o.no, o.fn, o.len, takes0, o.tl, o.fn2, o.rai⟩

/-- an expression and its small form -/
structure Snd {F : Type} (L : Law) (t : Tb F) (X : Cx) (W : XK) (e : E F) (x : Expr) : Prop where
  sh : shape x = true
  pe : ∀ pk, PE X x (tE L W pk fun r => ev t e pk r)
  pf : fresh e = true → PE X x (tF L W fun r => ev t e false r)
  pt : PT X x (tT L W fun r => do let d ← ev t e false r; truth d)

section
variable {F : Type} {L : Law} {t : Tb F} {X : Cx} {W : XK}
theorem Snd.ofF {e : E F} {x : Expr} {mm : List Slot → R D} (sh : shape x = true) (h : PE X x (tF L W mm)) (hm : ∀ pk r, ev t e pk r = mm r) (pl : ∀ whole, isTrue x X.env whole = (do let v ← whole; standAt x.pos; holding [v] (truthy v))) : Snd L t X W e x := by
  have pe : ∀ pk, PE X x (tE L W pk fun r => ev t e pk r) := fun pk => by
    rw [show (fun r => ev t e pk r) = mm from funext (hm pk)]
    exact pe_of_fresh pk h
  exact ⟨sh, pe, fun _ => by rw [show (fun r => ev t e false r) = mm from funext (hm false)]; exact h, d_val (pe false) pl⟩
theorem Snd.ofE {e : E F} {x : Expr} (sh : shape x = true) (h : ∀ pk, PE X x (tE L W pk fun r => ev t e pk r)) (hf : fresh e = false) (pl : ∀ whole, isTrue x X.env whole = (do let v ← whole; standAt x.pos; holding [v] (truthy v))) : Snd L t X W e x :=
  ⟨sh, h, (fun z => by rw [hf] at z; cases z), d_val (h false) pl⟩
theorem evs_nil (pk : Bool) (r : List Slot) : evs t ([] : List (E F)) pk r = .ok [] := by rw [evs]
theorem evs_cons (e : E F) (es : List (E F)) (pk : Bool) (r : List Slot) : evs t (e :: es) pk r = (do let d ← ev t e pk r; let ds ← evs t es pk r; .ok (d :: ds)) := by rw [evs]
theorem evs_len : ∀ (es : List (E F)) (pk : Bool) (r : List Slot) (ds : List D), evs t es pk r = .ok ds → ds.length = es.length
  | [], _, _, _, h => by rw [evs_nil] at h; cases h; rfl
  | e :: es, pk, r, ds, h => by
    rw [evs_cons] at h
    cases h1 : ev t e pk r with
    | ok d =>
      rw [h1] at h
      cases h2 : evs t es pk r with
      | ok ds' =>
        rw [h2] at h
        cases h
        simp [evs_len es pk r ds' h2]
      | ex x => rw [h2] at h; cases h
      | no => rw [h2] at h; cases h
    | ex x => rw [h1] at h; cases h
    | no => rw [h1] at h; cases h
theorem pa_all {g : E F → Expr → Bool} (hg : ∀ e x, g e x = true → Snd L t X W e x) (pk : Bool) : ∀ {es : List (E F)} {xs : List Expr}, all2 g es xs = true → PA X xs (tA L W pk fun r => evs t es pk r) ∧ (∀ x ∈ xs, shape x = true) ∧ es.length = xs.length
  | [], [], _ => ⟨d_nil (fun r => evs_nil pk r), by simp, rfl⟩
  | e :: es, x :: xs, h => by
    rw [all2, Bool.and_eq_true] at h
    obtain ⟨i1, i2, i3⟩ := pa_all hg pk h.2
    have s := hg e x h.1
    refine ⟨?_, fun y hy => ?_, by simp [i3]⟩
    · have k := d_cons (s.pe pk) i1 (star_of s.sh xs X.env)
      rw [show (fun r => evs t (e :: es) pk r) = _ from funext fun r => evs_cons e es pk r]
      exact k
    · rcases List.mem_cons.mp hy with rfl | hy
      · exact s.sh
      · exact i2 y hy
  | [], _ :: _, h => by simp [all2] at h
  | _ :: _, [], h => by simp [all2] at h
theorem tF_of_tT {mm : List Slot → R D} {σ : L2.St} {H : Hp} {Q : Bool → Hp → Prop} (h : tT L W (fun r => do let d ← mm r; truth d) σ H Q) : tF L W mm σ H (fun x H' => ∃ k, x = .bl k ∧ Q k H') := by
  obtain ⟨Z, r, g, e, q⟩ := h
  refine ⟨Z, r, g, e, ?_⟩
  have q : Got L W Z H (mm r >>= fun d => truth d) relB Q := q
  cases h : mm r with
  | ok d =>
    rw [h] at q
    cases d with
    | bl b =>
      intro v H' Z' g' x' md
      have hv : v = .bl b := rep_bl (pk := false) (H := H') (.inl (by unfold relF Made at md; rw [if_neg (by simp [isMut])] at md; exact md))
      exact ⟨b, hv, q b H' Z' g' x' rfl⟩
    | _ => exact q.elim
  | ex e => rw [h] at q; exact q
  | no => rw [h] at q; exact q
variable {a b c : Expr} {ma mb mc : List Slot → R D} {pos : Pos}
theorem chain_read {op op' : Cop} {σ : L2.St} {H : Hp} {Q : VK} (h : tF L W (fun r => do let x ← ma r; let y ← mb r; let z ← cmpD op x y; match ← truth z with | true => do { let w ← mc r; cmpD op' y w } | false => .ok (.bl false)) σ H Q) :
    tChain (rCmp L op) (rCmp L op') (tE L W true ma) (tE L W true mb) (tE L W true mc) σ H Q := by
  obtain ⟨Z, r, g, e, q⟩ := h
  refine ⟨Z, r, g, e, (q.bind (rel := relV true L.K) (grows_f _)).mono fun x H1 ⟨Z1, dx, _, g1, x1, rx, q1⟩ => ?_⟩
  refine ⟨Z1, r, g1, e.ext x1, (q1.bind (rel := relV true L.K) (grows_f _)).mono fun y H2 ⟨Z2, dy, _, g2, x2, ry, q2⟩ => ?_⟩
  obtain ⟨d, e2, _⟩ := (q2.bind (rel := relF L.K) (grows_f _)).of (cmpD_ex _ _ _)
  rw [e2] at q2
  obtain ⟨k, rfl⟩ := fin_bool e2
  refine ⟨Z2, dx, dy, _, g2, rx.ext x2, ry, e2, fun v H3 Z3 g3 x3 md => ?_⟩
  have hv : v = .bl k := rep_bl (pk := false) (H := H3) (.inl (by unfold Made at md; rw [if_neg (by simp [isMut])] at md; exact md))
  refine ⟨k, hv, ?_⟩
  cases k with
  | true =>
    rw [if_pos rfl]
    have q3 : Got L W Z3 H3 (mc r >>= fun w => cmpD op' dy w) (relF L.K) Q := Got.weak (grows_f _) q2 x3
    refine ⟨Z3, r, g3, ((e.ext x1).ext x2).ext x3, (q3.bind (rel := relV true L.K) (grows_f _)).mono fun w H4 ⟨Z4, dw, _, g4, x4, rw', q4⟩ => ?_⟩
    obtain ⟨d, e4, q4⟩ := q4.of (cmpD_ex _ _ _)
    exact ⟨Z4, dy, dw, d, g4, (ry.ext x3).ext x4, rw', e4, q4⟩
  | false =>
    rw [if_neg (by decide)]
    exact Fin.bl (L := L) (Got.weak (x := R.ok (D.bl false)) (grows_f _) q2 x3) g3
end

section
variable {F : Type} [DecidableEq F] {cm : Cm F} {L : Law} {t : Tb F} {m : Nat} {X : Cx} {W : XK}
theorem nm_of {sc : Scope} {i : Nat} {x : Expr} (h : mNm cm sc i x = true) : ∃ y p, x = .Name y p ∧ cm.N[i]? = some y ∧ (sc.names.lookup y = some .local ∨ sc.names.lookup y = some .cell) := by
  unfold mNm at h
  split at h
  · rename_i y p
    rw [Bool.and_eq_true, decide_eq_true_eq] at h
    refine ⟨y, p, rfl, h.1, ?_⟩
    have k := h.2
    split at k
    · exact .inl (by assumption)
    · exact .inr (by assumption)
    · cases k
  · cases h
def Stores (X : Cx) (sc : Scope) : Prop := ∀ y, sc.names.lookup y = some .local ∨ sc.names.lookup y = some .cell → Loc X.env.scope y ∧ (X.fn y = true ∨ X.env.scope.names.lookup y = some .local)
theorem pgs_all {sc : Scope} (hN : X.N = cm.N) (hd : X.N.Nodup) (st : Stores X sc) : ∀ {is : List Nat} {xs : List Expr}, all2 (mNm cm sc) is xs = true → PGs X xs (gNames is) ∧ (assignEach xs X.env).length = is.length ∧ (assignEach xs X.env).findIdx? (·.1) = none
  | [], [], _ => ⟨pgs_nil, rfl, rfl⟩
  | i :: is, x :: xs, h => by
    rw [all2, Bool.and_eq_true] at h
    obtain ⟨y, p, rfl, hi, hl⟩ := nm_of h.1
    obtain ⟨h1, h2, h3⟩ := pgs_all hN hd st h.2
    obtain ⟨l1, l2⟩ := st y hl
    refine ⟨pgs_cons (pg_name hd (by rw [hN]; exact hi) l1 l2) h1 rfl, ?_, ?_⟩
    · show (assignEach xs X.env).length + 1 = _
      rw [h2]; rfl
    · show ((false, assign (.Name y p) X.env) :: assignEach xs X.env).findIdx? (·.1) = none
      rw [List.findIdx?_cons, h3]; rfl
  | [], _ :: _, h => by simp [all2] at h
  | _ :: _, [], h => by simp [all2] at h
theorem tg_of {sc : Scope} {tg : Tg} {x : Expr} (hK : L.K = X.K) (hN : X.N = cm.N) (hd : X.N.Nodup) (hc : X.calm = true) (st : Stores X sc) (h : mTg cm sc tg x = true) : PG X x (gT L.K tg) := by
  cases tg with
  | nm i =>
    obtain ⟨y, p, rfl, hi, hl⟩ := nm_of (cm := cm) (sc := sc) (i := i) (x := x) (by unfold mTg at h; exact h)
    obtain ⟨l1, l2⟩ := st y hl
    exact pg_name hd (by rw [hN]; exact hi) l1 l2
  | tp is =>
    cases x with
    | Tuple xs k p =>
      have h : all2 (mNm cm sc) is xs = true := h
      obtain ⟨h1, h2, h3⟩ := pgs_all hN hd st h
      rw [hK]
      exact pg_tup hc h1 h2 h3
    | _ => cases h
end
end Mk
end
section
set_option Elab.async false
set_option linter.all false
set_option maxRecDepth 100000
set_option maxHeartbeats 4000000
namespace Mk
open PySem PySem.Spec PyProof.Rows L2
theorem base_of {x : Expr} (h : noBare x = true) (a : Str) (env : Env) (w : Sem Value) : attributeBase x a env w = w := by
  unfold attributeBase
  split
  · simp [noBare] at h
  · rfl

section
variable {F : Type} [DecidableEq F] {cm : Cm F} {L : Law} {t : Tb F} {m : Nat} {X : Cx} {W : XK}
theorem XOk.units (o : XOk cm L t m X W) : X.A.units + 65 < cLine := by have := o.room.un; omega
theorem and2 {a b : Bool} (h : (a && b) = true) : a = true ∧ b = true := by simpa using h
theorem str_of {s : Str} {x : List Nat} (h : (s.cps.toList == x) = true) : s = toS x := by
  rw [← beq_iff_eq.mp h]; exact (toS_of s).symm
theorem pe_eq {x : Expr} {pk : Bool} {m m' : List Slot → R D} (h : PE X x (tE L W pk m)) (e : ∀ r, m' r = m r) : PE X x (tE L W pk m') := by rw [show m' = m from funext e]; exact h
theorem pf_eq {x : Expr} {m m' : List Slot → R D} (h : PE X x (tF L W m)) (e : ∀ r, m' r = m r) : PE X x (tF L W m') := by rw [show m' = m from funext e]; exact h
theorem pt_eq {x : Expr} {m m' : List Slot → R Bool} (h : PT X x (tT L W m)) (e : ∀ r, m' r = m r) : PT X x (tT L W m') := by rw [show m' = m from funext e]; exact h
theorem pe_pk {x : Expr} {m : List Slot → R D} (pk : Bool) (h : PE X x (tE L W false m)) : PE X x (tE L W pk m) := by
  refine PE.mono h fun σ H Q ⟨Z, r, g, e, q⟩ => ⟨Z, r, g, e, ?_⟩
  cases hm : m r with
  | ok d => rw [hm] at q; exact fun v H' Z' g' x' rv => q v H' Z' g' x' (.inl (RepM.val rv))
  | ex e => rw [hm] at q; exact q
  | no => rw [hm] at q; exact q
variable (g : E F → Expr → Bool)

theorem s_var {i : Nat} {x : Expr} (o : XOk cm L t m X W) (sh : shape x = true) (h : mVar cm X.env.scope i x = true) : Snd L t X W (.var i) x := by
  unfold mVar at h
  split at h
  · rename_i y p
    obtain ⟨h1, h2⟩ := and2 h
    obtain ⟨h2, h3⟩ := and2 h2
    obtain ⟨h4, h5⟩ := okN_of h3
    exact .ofE sh (fun pk => d_var pk (by rw [o.N]; exact of_decide_eq_true h1) (vis_of h2) h4 h5 fun r => by rw [ev] <;> rfl) rfl (fun _ => rfl)
  · cases h
theorem s_kst {d : D} {x : Expr} (o : XOk cm L t m X W) (sh : shape x = true) (h : mKst cm X.env.scope d x = true) : Snd L t X W (.kst d) x := by
  unfold mKst at h
  split at h
  · split at h
    · cases beq_iff_eq.mp h
      exact .ofE sh (fun pk => d_kst pk pe_int (fun Z => .int _) fun r => by rw [ev]) rfl (fun _ => rfl)
    · cases h
  · split at h
    · obtain ⟨h1, h2⟩ := and2 h
      obtain ⟨h2, h3⟩ := and2 h2
      cases str_of h1
      exact .ofE sh (fun pk => d_kst pk pe_str (fun Z => .str (of_decide_eq_true h2) h3) fun r => by rw [ev]) rfl (fun _ => rfl)
    · cases h
  · split at h
    · cases beq_iff_eq.mp h
      exact .ofE sh (fun pk => d_kst pk pe_bl (fun Z => .bl _) fun r => by rw [ev]) rfl (fun _ => rfl)
    · cases h
  · split at h
    · exact .ofE sh (fun pk => d_kst pk pe_non (fun Z => .non) fun r => by rw [ev]) rfl (fun _ => rfl)
    · cases h
  · rename_i y p
    split at h
    · rename_i d' e
      obtain ⟨h1, h2⟩ := and2 h
      obtain ⟨h2, h3⟩ := and2 h2
      have ed : d = d' := by
        cases d <;> cases d' <;> first | (simp [eqK] at h1; done) | (rw [eqK] at h1; cases beq_iff_eq.mp h1; rfl)
      subst ed
      obtain ⟨v, u, m1, m2, m3⟩ := o.gl y d e
      exact .ofE sh (fun pk => d_kst pk (pe_glob (glb_of h2) m1 m2 (okN_of h3).1) m3 fun r => by rw [ev]) rfl (fun _ => rfl)
    · cases h
  · cases h
theorem s_tup {es : List (E F)} {x : Expr} (sh : shape x = true) (hg : ∀ e y, g e y = true → Snd L t X W e y) (h : mTup g es x = true) : Snd L t X W (.tup es) x := by
  unfold mTup at h
  split at h
  · obtain ⟨h1, h2⟩ := and2 h
    obtain ⟨p1, p2, p3⟩ := pa_all hg false h2
    exact .ofF sh (d_tup p1 fun r ds hr => by rw [evs_len _ _ _ _ hr]; have := of_decide_eq_true h1; unfold LIM; omega) (fun pk r => by rw [ev]) (fun _ => rfl)
  · cases h
theorem s_lst {es : List (E F)} {x : Expr} (sh : shape x = true) (hg : ∀ e y, g e y = true → Snd L t X W e y) (h : mLst g es x = true) : Snd L t X W (.lst es) x := by
  unfold mLst at h
  split at h
  · obtain ⟨h1, h2⟩ := and2 h
    obtain ⟨p1, p2, p3⟩ := pa_all hg false h2
    exact .ofF sh (d_lst p1 fun r ds hr => by rw [evs_len _ _ _ _ hr]; have := of_decide_eq_true h1; unfold LIM; omega) (fun pk r => by rw [ev]) (fun _ => rfl)
  · cases h
theorem s_dnew {x : Expr} (sh : shape x = true) (h : mDnew x = true) : Snd L t X W (.dnew : E F) x := by
  unfold mDnew at h
  split at h
  · exact .ofF sh (d_dnew fun r => rfl) (fun pk r => by rw [ev]) (fun _ => rfl)
  · cases h
theorem s_bin {op : Bop} {a b : E F} {x : Expr} (o : XOk cm L t m X W) (sh : shape x = true) (hg : ∀ e y, g e y = true → Snd L t X W e y) (h : mBin g op a b x = true) : Snd L t X W (.bin op a b) x := by
  unfold mBin at h
  split at h
  · obtain ⟨h1, h2⟩ := and2 h
    obtain ⟨h2, h3⟩ := and2 h2
    cases isBop_of h1
    exact .ofF sh (d_bin o.K op ((hg _ _ h2).pe true) ((hg _ _ h3).pe true)) (fun pk r => by rw [ev]) (fun _ => rfl)
  · cases h
theorem s_neg {a : E F} {x : Expr} (sh : shape x = true) (hg : ∀ e y, g e y = true → Snd L t X W e y) (h : mNeg g a x = true) : Snd L t X W (.neg a) x := by
  unfold mNeg at h
  split at h
  · exact .ofF sh (d_neg ((hg _ _ h).pe false)) (fun pk r => by rw [ev] <;> rfl) (fun _ => rfl)
  · cases h
theorem s_cmp {op : Cop} {a b : E F} {x : Expr} (o : XOk cm L t m X W) (sh : shape x = true) (hg : ∀ e y, g e y = true → Snd L t X W e y) (h : mCmp g op a b x = true) : Snd L t X W (.cmp op a b) x := by
  unfold mCmp at h
  split at h
  · obtain ⟨h1, h2⟩ := and2 h
    obtain ⟨h2, h3⟩ := and2 h2
    cases isCop_of h1
    have sa := hg _ _ h2
    have sb := hg _ _ h3
    have k := d_cmp (pos := by assumption) o.K o.units op (sa.pe true) (sb.pe true) (mark_of sb.sh _)
    have e1 : ∀ pk r, ev t (.cmp op a b) pk r = (do let x ← ev t a true r; let y ← ev t b true r; cmpD op x y) := fun pk r => by rw [ev]
    have pe : ∀ pk, PE X _ (tE L W pk fun r => ev t (.cmp op a b) pk r) := fun pk => by
      rw [show (fun r => ev t (.cmp op a b) pk r) = _ from funext (e1 pk)]
      exact pe_of_fresh pk k
    refine ⟨sh, pe, (fun z => by cases z), ?_⟩
    have k2 := d_cmpT (pos := by assumption) o.K o.units op (sa.pe true) (sb.pe true) (mark_of sb.sh _)
    refine pt_eq k2 fun r => ?_
    rw [e1]
    cases ev t a true r with
    | ok d1 => cases ev t b true r <;> rfl
    | ex e => rfl
    | no => rfl
  · cases h
theorem s_chain {op op' : Cop} {a b c : E F} {x : Expr} (o : XOk cm L t m X W) (sh : shape x = true) (hg : ∀ e y, g e y = true → Snd L t X W e y) (h : mChain g op op' a b c x = true) : Snd L t X W (.chain op op' a b c) x := by
  unfold mChain at h
  split at h
  · obtain ⟨h1, h2⟩ := and2 h
    obtain ⟨h2, h3⟩ := and2 h2
    obtain ⟨h3, h4⟩ := and2 h3
    obtain ⟨h4, h5⟩ := and2 h4
    cases isCop_of h1
    cases isCop_of h2
    have sa := hg _ _ h3
    have sb := hg _ _ h4
    have sc := hg _ _ h5
    have k := pe_chain (pos := by assumption) (opr_cmp o.K o.units op) (opr_cmp o.K o.units op') (sa.pe true) (sb.pe true) (sc.pe true) (mark_of sc.sh _)
    have k2 := pt_chain (pos := by assumption) (opr_cmp o.K o.units op) (opr_cmp o.K o.units op') (sa.pe true) (sb.pe true) (sc.pe true) (mark_of sc.sh _)
    have e1 : ∀ pk r, ev t (.chain op op' a b c) pk r = (do let x ← ev t a true r; let y ← ev t b true r; let z ← cmpD op x y; match ← truth z with | true => do { let w ← ev t c true r; cmpD op' y w } | false => .ok (.bl false)) := fun pk r => by rw [ev] <;> rfl
    have pf := pf_eq (PE.mono k fun σ H Q hh => chain_read hh) (e1 false)
    refine ⟨sh, fun pk => ?_, (fun z => by cases z), ?_⟩
    · have e2 : (fun r => ev t (.chain op op' a b c) pk r) = fun r => ev t (.chain op op' a b c) false r := funext fun r => by rw [e1, e1]
      rw [e2]
      exact pe_of_fresh pk pf
    · refine PT.mono k2 fun σ H Q hh => ?_
      have hh := tF_of_tT hh
      rw [show ev t (.chain op op' a b c) false = _ from funext (e1 false)] at hh
      exact chain_read hh
  · cases h
theorem s_not {a : E F} {x : Expr} (sh : shape x = true) (hg : ∀ e y, g e y = true → Snd L t X W e y) (h : mNot g a x = true) : Snd L t X W (.not a) x := by
  unfold mNot at h
  split at h
  · have sa := hg _ _ h
    have e1 : ∀ pk r, ev t (.not a) pk r = (do let x ← truth (← ev t a false r); .ok (.bl (!x))) := fun pk r => by rw [ev]
    refine ⟨sh, fun pk => pe_pk pk (pe_eq (d_not (sa.pe false)) (e1 pk)), (fun z => by cases z), ?_⟩
    refine pt_eq (d_notT sa.pt) fun r => ?_
    rw [e1]
    cases ev t a false r with
    | ok d1 => cases d1 <;> rfl
    | ex e => rfl
    | no => rfl
  · cases h
theorem and_read {a b : E F} (pk : Bool) (r : List Slot) : ev t (.and a b) pk r = (do match ← truth (← ev t a false r) with | true => ev t b false r | false => .ok (.bl false)) := by rw [ev] <;> rfl
theorem or_read {a b : E F} (pk : Bool) (r : List Slot) : ev t (.or a b) pk r = (do match ← truth (← ev t a false r) with | true => .ok (.bl true) | false => ev t b false r) := by rw [ev] <;> rfl
theorem one_and {y : Expr} {p : Pos} {mm : List Slot → R D} (h : PE X y (tE L W false mm)) : PE X (.BoolOp .And [y] p) (tE L W false mm) := ⟨fun pins s σ H Q I hw => h.run pins s σ H Q I hw⟩
theorem one_or {y : Expr} {p : Pos} {mm : List Slot → R D} (h : PE X y (tE L W false mm)) : PE X (.BoolOp .Or [y] p) (tE L W false mm) := ⟨fun pins s σ H Q I hw => h.run pins s σ H Q I hw⟩
theorem s_and {a b : E F} {x : Expr} (sh : shape x = true) (hg : ∀ e y, g e y = true → Snd L t X W e y) (h : mAnd g a b x = true) : Snd L t X W (.and a b) x := by
  have fin : ∀ {y z : Expr} {r : List Expr} {p : Pos}, Snd L t X W a y → PE X (.BoolOp .And (z :: r) p) (tE L W false fun r => ev t b false r) → PT X (.BoolOp .And (z :: r) p) (tT L W fun r => do let d ← ev t b false r; truth d) → shape (.BoolOp .And (y :: z :: r) p) = true → Snd L t X W (.and a b) (.BoolOp .And (y :: z :: r) p) := by
    intro y z r p sa hb ht sh
    refine ⟨sh, fun pk => pe_pk pk (pe_eq (d_and (sa.pe false) hb) (and_read pk)), (fun z => by cases z), ?_⟩
    refine pt_eq (d_andT sa.pt ht) fun r => ?_
    rw [and_read]
    cases ev t a false r with
    | ok d1 =>
      cases d1 with
      | bl k => cases k <;> rfl
      | _ => rfl
    | ex e => rfl
    | no => rfl
  unfold mAnd at h
  split at h
  · obtain ⟨h1, h2⟩ := and2 h
    have sb := hg _ _ h2
    exact fin (hg _ _ h1) (one_and (sb.pe false)) (pw_and1 sb.pt).pt sh
  · obtain ⟨h1, h2⟩ := and2 h
    have sb := hg _ _ h2
    exact fin (hg _ _ h1) (sb.pe false) sb.pt sh
  · cases h
theorem s_or {a b : E F} {x : Expr} (sh : shape x = true) (hg : ∀ e y, g e y = true → Snd L t X W e y) (h : mOr g a b x = true) : Snd L t X W (.or a b) x := by
  have fin : ∀ {y z : Expr} {r : List Expr} {p : Pos}, Snd L t X W a y → PE X (.BoolOp .Or (z :: r) p) (tE L W false fun r => ev t b false r) → PT X (.BoolOp .Or (z :: r) p) (tT L W fun r => do let d ← ev t b false r; truth d) → shape (.BoolOp .Or (y :: z :: r) p) = true → Snd L t X W (.or a b) (.BoolOp .Or (y :: z :: r) p) := by
    intro y z r p sa hb ht sh
    refine ⟨sh, fun pk => pe_pk pk (pe_eq (d_or (sa.pe false) hb) (or_read pk)), (fun z => by cases z), ?_⟩
    refine pt_eq (d_orT sa.pt ht) fun r => ?_
    rw [or_read]
    cases ev t a false r with
    | ok d1 =>
      cases d1 with
      | bl k => cases k <;> rfl
      | _ => rfl
    | ex e => rfl
    | no => rfl
  unfold mOr at h
  split at h
  · obtain ⟨h1, h2⟩ := and2 h
    have sb := hg _ _ h2
    exact fin (hg _ _ h1) (one_or (sb.pe false)) (pw_or1 sb.pt).pt sh
  · obtain ⟨h1, h2⟩ := and2 h
    have sb := hg _ _ h2
    exact fin (hg _ _ h1) (sb.pe false) sb.pt sh
  · cases h
theorem s_idx {a b : E F} {x : Expr} (o : XOk cm L t m X W) (sh : shape x = true) (hg : ∀ e y, g e y = true → Snd L t X W e y) (h : mIdx g a b x = true) : Snd L t X W (.idx a b) x := by
  unfold mIdx at h
  split at h
  · obtain ⟨h1, h2⟩ := and2 h
    have sb := hg _ _ h2
    exact .ofE sh (fun pk => pe_eq (d_idx o.K o.units ((hg _ _ h1).pe true) (sb.pe false) (ix_of sb.sh) pk) fun r => by rw [ev]) rfl (fun _ => rfl)
  · cases h
theorem po_of {lo : List (E F)} {l : Option Expr} (hg : ∀ e y, g e y = true → Snd L t X W e y) (h : mO g lo l = true) : PO X l (tO L W fun r => do let d ← evs t lo false r; part1 d) := by
  unfold mO at h
  split at h
  · exact d_po0 fun r => by rw [evs_nil]; rfl
  · refine d_po1 ((hg _ _ h).pe false) fun r => ?_
    rw [evs_cons, evs_nil]
    cases ev t _ false r <;> rfl
  · cases h
theorem s_slc {a : E F} {lo hi : List (E F)} {x : Expr} (o : XOk cm L t m X W) (sh : shape x = true) (hg : ∀ e y, g e y = true → Snd L t X W e y) (h : mSlc g a lo hi x = true) : Snd L t X W (.slc a lo hi) x := by
  unfold mSlc at h
  split at h
  · obtain ⟨h1, h2⟩ := and2 h
    obtain ⟨h2, h3⟩ := and2 h2
    refine .ofF sh (d_slc o.K ((hg _ _ h1).pe true) (po_of g hg h2) (po_of g hg h3)) (fun pk r => ?_) (fun _ => rfl)
    rw [ev]
    cases ev t a true r with
    | ok d =>
      simp only [R.ok_bind]
      cases evs t lo false r with
      | ok ds =>
        simp only [R.ok_bind]
        cases part1 ds with
        | ok p =>
          simp only [R.ok_bind]
          cases evs t hi false r <;> rfl
        | ex e => rfl
        | no => rfl
      | ex e => rfl
      | no => rfl
    | ex e => rfl
    | no => rfl
  · cases h
theorem s_isa {a : E F} {ty : Ty} {x : Expr} (o : XOk cm L t m X W) (sh : shape x = true) (hg : ∀ e y, g e y = true → Snd L t X W e y) (h : mIsa cm g X.env.scope a ty x = true) : Snd L t X W (.isa a ty) x := by
  unfold mIsa at h
  split at h
  · obtain ⟨h1, h2⟩ := and2 h
    obtain ⟨h1, h1'⟩ := and2 h1
    obtain ⟨h2, h3⟩ := and2 h2
    obtain ⟨h2, h2'⟩ := and2 h2
    obtain ⟨h3, h4⟩ := and2 h3
    obtain ⟨h3, h3'⟩ := and2 h3
    have sa := hg _ _ h4
    exact .ofE sh (fun pk => pe_eq (d_isa o.K ty (sa.pe true) (star_of sa.sh _ _) (beq_iff_eq.mp h1) (beq_iff_eq.mp h1') (glb_of h2) (o.no _ h2') (glb_of h3) (o.no _ h3') pk) fun r => by rw [ev] <;> rfl) rfl (fun _ => rfl)
  · cases h
theorem s_call {k : F} {es : List (E F)} {x : Expr} (o : XOk cm L t m X W) (sh : shape x = true) (hg : ∀ e y, g e y = true → Snd L t X W e y) (h : mCall cm g X.env.scope k es x = true) : Snd L t X W (.call k es) x := by
  unfold mCall at h
  split at h
  · rename_i y p xs pos
    obtain ⟨h1, h2⟩ := and2 h
    obtain ⟨h2, h3⟩ := and2 h2
    obtain ⟨hgl, hok⟩ := and2 h2
    unfold isF at h1
    split at h1
    · rename_i j e
      cases of_decide_eq_true h1
      obtain ⟨fa, fd, ps, F1, F2, F3, F4⟩ := o.fn y _ e
      obtain ⟨p1, p2, p3⟩ := pa_all hg false h3
      cases xs with
      | nil =>
        cases es with
        | cons _ _ => cases p3
        | nil => exact .ofE sh (fun pk => d_call0 F1 o.room (glb_of hgl) F2 F3 F4 o.tk (o.len _) (okN_of hok).1 (fun r => by rw [ev, evs_nil]; rfl) pk) rfl (fun _ => rfl)
      | cons z zs =>
        exact .ofE sh (fun pk => pe_eq (d_call F1 o.room (glb_of hgl) F2 F3 F4 o.tk p1 (o.len _) (okN_of hok).1 (star_of (p2 z List.mem_cons_self) zs _) (any_of _ (fun w hw => p2 w (List.mem_cons_of_mem _ hw)) _) pk) fun r => by rw [ev]) rfl (fun _ => rfl)
    · cases h1
  · cases h
theorem s_blt0 {bl : Blt} {es : List (E F)} {x : Expr} (o : XOk cm L t m X W) (sh : shape x = true) (hg : ∀ e y, g e y = true → Snd L t X W e y) (h : mBlt0 cm g X.env.scope bl es x = true) : Snd L t X W (.blt bl es) x := by
  unfold mBlt0 at h
  split at h
  · rename_i y p xs pos
    obtain ⟨h1, h2⟩ := and2 h
    obtain ⟨h1, h3⟩ := and2 h1
    obtain ⟨h3, h4⟩ := and2 h3
    obtain ⟨h4, h5⟩ := and2 h4
    obtain ⟨h2, h6⟩ := and2 h2
    obtain ⟨p1, p2, p3⟩ := pa_all hg true h6
    cases xs with
    | nil => simp at h2
    | cons z zs =>
      exact .ofF sh (d_blt o.K o.calm o.units bl (of_decide_eq_true h1).1 (of_decide_eq_true h1).2 (beq_iff_eq.mp h3) (glb_of h4) (o.no _ h5) p1 (star_of (p2 z List.mem_cons_self) zs _) (any_of _ (fun w hw => p2 w (List.mem_cons_of_mem _ hw)) _)) (fun pk r => by rw [ev]) (fun _ => rfl)
  · cases h
theorem s_rev {a : E F} {x : Expr} (o : XOk cm L t m X W) (sh : shape x = true) (hg : ∀ e y, g e y = true → Snd L t X W e y) (h : mRev g a x = true) : Snd L t X W (.rev a) x := by
  unfold mRev at h
  split at h
  · obtain ⟨h1, h2⟩ := and2 h
    cases beq_iff_eq.mp h1
    refine .ofF sh (d_rev o.K ((hg _ _ h2).pe true)) (fun pk r => ?_) (fun _ => rfl)
    rw [ev] <;> (cases ev t a true r with
      | ok d => cases d <;> rfl
      | ex e => rfl
      | no => rfl)
  · cases h
theorem s_lens {es : List (E F)} {x : Expr} (o : XOk cm L t m X W) (sh : shape x = true) (hg : ∀ e y, g e y = true → Snd L t X W e y) (h : mLens cm g X.env.scope es x = true) : Snd L t X W (.blt .lenset es) x := by
  unfold mLens at h
  split at h
  · rename_i y p1 z p2 x' p3 p4
    obtain ⟨h1, h2⟩ := and2 h
    obtain ⟨h1, h3⟩ := and2 h1
    obtain ⟨h1, h4⟩ := and2 h1
    obtain ⟨h4, h5⟩ := and2 h4
    obtain ⟨h3, h6⟩ := and2 h3
    obtain ⟨h6, h7⟩ := and2 h6
    cases beq_iff_eq.mp h1
    cases beq_iff_eq.mp h3
    match es, h2 with
    | [], h2 => simp [all2] at h2
    | _ :: _ :: _, h2 => simp [all2] at h2
    | [e], h2 =>
      have he : g e x' = true := by simpa [all2] using h2
      obtain ⟨_, q2, _⟩ := pa_all hg true h2
      refine .ofF sh (d_lenset o.K o.calm o.units (glb_of h4) (o.no _ h5) (glb_of h6) (o.no _ h7) ((hg _ _ he).pe true) (star_of (q2 x' List.mem_cons_self) [] _)) (fun pk r => ?_) (fun _ => rfl)
      rw [ev, evs_cons, evs_nil]
      cases ev t e true r <;> rfl
  · cases h
theorem s_sit {es : List (E F)} {x : Expr} (o : XOk cm L t m X W) (sh : shape x = true) (hg : ∀ e y, g e y = true → Snd L t X W e y) (h : mSit cm g X.env.scope es x = true) : Snd L t X W (.blt .sitems es) x := by
  unfold mSit at h
  split at h
  · rename_i y p1 x' mm ap q p4
    obtain ⟨h1, h2⟩ := and2 h
    obtain ⟨h1, h4⟩ := and2 h1
    obtain ⟨h4, h5⟩ := and2 h4
    obtain ⟨h2, h6⟩ := and2 h2
    obtain ⟨h2, h7⟩ := and2 h2
    obtain ⟨h7, h8⟩ := and2 h7
    cases beq_iff_eq.mp h1
    cases beq_iff_eq.mp h2
    match es, h6 with
    | [], h6 => simp [all2] at h6
    | _ :: _ :: _, h6 => simp [all2] at h6
    | [e], h6 =>
      have he : g e x' = true := by simpa [all2] using h6
      refine .ofF sh (d_sitems o.K o.calm o.units (glb_of h4) (o.no _ h5) ((hg _ _ he).pe true) (base_of h7 _ _ _) h8) (fun pk r => ?_) (fun _ => rfl)
      rw [ev, evs_cons, evs_nil]
      cases ev t e true r <;> rfl
  · cases h
theorem s_blt {bl : Blt} {es : List (E F)} {x : Expr} (o : XOk cm L t m X W) (sh : shape x = true) (hg : ∀ e y, g e y = true → Snd L t X W e y) (h : mBlt cm g X.env.scope bl es x = true) : Snd L t X W (.blt bl es) x := by
  unfold mBlt at h
  split at h
  · exact s_lens g o sh hg h
  · exact s_sit g o sh hg h
  · exact s_blt0 g o sh hg h
end
end Mk
end
section
set_option Elab.async false
set_option linter.all false
set_option maxRecDepth 100000
set_option maxHeartbeats 4000000
namespace Mk
open PySem PySem.Spec PyProof.Rows L2

section
variable {F : Type} [DecidableEq F] {cm : Cm F} {L : Law} {t : Tb F} {m : Nat} {X : Cx} {W : XK} (g : E F → Expr → Bool)
theorem one_of {es : List (E F)} {y : Expr} (h : all2 g es [y] = true) : ∃ e, es = [e] ∧ g e y = true := by
  match es, h with
  | [], h => simp [all2] at h
  | [e], h => exact ⟨e, rfl, by simpa [all2] using h⟩
  | _ :: _ :: _, h => simp [all2] at h
theorem two_of {es : List (E F)} {y z : Expr} (h : all2 g es [y, z] = true) : ∃ e e', es = [e, e'] ∧ g e y = true ∧ g e' z = true := by
  match es, h with
  | [], h => simp [all2] at h
  | [e], h => simp [all2] at h
  | [e, e'], h => exact ⟨e, e', rfl, by simpa [all2] using h⟩
  | _ :: _ :: _ :: _, h => simp [all2] at h
theorem s_mth {me : Mth} {o' : E F} {es : List (E F)} {x : Expr} (o : XOk cm L t m X W) (sh : shape x = true) (hg : ∀ e y, g e y = true → Snd L t X W e y) (h : mMth cm g X.env.scope me o' es x = true) : Snd L t X W (.mth me o' es) x := by
  unfold mMth at h
  split at h
  · unfold mSplit at h
    split at h
    · obtain ⟨h1, h2⟩ := and2 h
      obtain ⟨h2, h3⟩ := and2 h2
      obtain ⟨h2, h4⟩ := and2 h2
      obtain ⟨h3, h5⟩ := and2 h3
      obtain ⟨h3, h6⟩ := and2 h3
      cases beq_iff_eq.mp h1
      obtain ⟨p1, p2, p3⟩ := pa_all hg false h5
      refine .ofF sh (d_split ((hg _ _ h6).pe true) p1 (base_of h2 _ _ _) h4 (star_of (p2 _ List.mem_cons_self) [] _) fun r ds hr c hc => ?_) (fun pk r => by rw [ev]) (fun _ => rfl)
      unfold one256 at h3
      split at h3
      · rename_i c'
        rw [evs_cons, evs_nil, ev] at hr
        subst hc
        cases hr
        exact of_decide_eq_true h3
      · cases h3
    · cases h
  · unfold mJoin at h
    split at h
    · obtain ⟨h1, h2⟩ := and2 h
      obtain ⟨h2, h3⟩ := and2 h2
      obtain ⟨h2, h4⟩ := and2 h2
      obtain ⟨h6, h5⟩ := and2 h3
      cases beq_iff_eq.mp h1
      obtain ⟨p1, p2, p3⟩ := pa_all hg false h5
      exact .ofF sh (d_join ((hg _ _ h6).pe true) p1 (base_of h2 _ _ _) h4 (star_of (p2 _ List.mem_cons_self) [] _)) (fun pk r => by rw [ev]) (fun _ => rfl)
    · cases h
  · unfold mGet at h
    split at h
    · obtain ⟨h1, h2⟩ := and2 h
      obtain ⟨h2, h3⟩ := and2 h2
      obtain ⟨hb, hl⟩ := and2 h2
      obtain ⟨h6, h5⟩ := and2 h3
      cases beq_iff_eq.mp h1
      obtain ⟨e1, e2, rfl, g1, g2⟩ := two_of g h5
      have s1 := hg _ _ g1
      have s2 := hg _ _ g2
      refine .ofE sh (fun pk => pe_eq (d_get o.units ((hg _ _ h6).pe true) (s1.pe false) (s2.pe false) ?_ pk) fun r => ?_) rfl (fun _ => rfl)
      · exact ⟨base_of hb _ _ _, by rw [star_of s1.sh, star_of s2.sh]; rfl, hl, by rw [star_of s1.sh, star_of s2.sh]; rfl⟩
      · rw [ev, evs_cons, evs_cons, evs_nil]
    · cases h
  · unfold mRepl at h
    split at h
    · split at h
      · rename_i y p0 x' i _ _ _ mm ap s _ _ s' _ _ p2 _ _ k e j c z
        obtain ⟨h1, h2⟩ := and2 h
        obtain ⟨h1, h1'⟩ := and2 h1
        obtain ⟨h2, h3⟩ := and2 h2
        obtain ⟨hF, h4⟩ := and2 h2
        obtain ⟨hgl, hok⟩ := and2 h4
        obtain ⟨h3, h5⟩ := and2 h3
        obtain ⟨hex, h6⟩ := and2 h3
        obtain ⟨h5, h7⟩ := and2 h5
        obtain ⟨h5, h8⟩ := and2 h5
        obtain ⟨h7, h9⟩ := and2 h7
        obtain ⟨h9, h10⟩ := and2 h9
        cases beq_iff_eq.mp h1
        cases beq_iff_eq.mp h6
        have se := hg _ _ hex
        unfold isF at hF
        split at hF
        · rename_i j' ej
          cases of_decide_eq_true hF
          obtain ⟨fa, fd, ps, F1, F2, F3, F4⟩ := o.fn y _ ej
          refine .ofE sh (fun pk => pe_eq (d_repl F1 o.room (glb_of hgl) F2 F3 F4 o.tk (se.pe false) (o.len _) (okN_of hok).1 (star_of se.sh _ _) h7 (fun hz => by rw [hz] at h9; simp at h9) (of_decide_eq_true h10) rfl h1' (str_of h5) (str_of h8) pk) fun r => ?_) rfl (fun _ => rfl)
          rw [ev, ev, evs_cons, evs_cons, evs_nil, ev]
          cases ev t e false r with
          | ok d =>
            simp only [R.ok_bind]
            cases t.c k [d, .int i] with
            | ok d2 =>
              simp only [R.ok_bind]
              split
              · rw [evs_cons, evs_cons, evs_nil, ev, ev]; rfl
              · rfl
            | ex e => rfl
            | no => rfl
          | ex e => rfl
          | no => rfl
        · cases hF
      · cases h
    · cases h
  · unfold mIndex at h
    split at h
    · obtain ⟨h1, h2⟩ := and2 h
      obtain ⟨h2, h3⟩ := and2 h2
      obtain ⟨h2, h4⟩ := and2 h2
      obtain ⟨h6, h5⟩ := and2 h3
      cases beq_iff_eq.mp h1
      obtain ⟨p1, p2, p3⟩ := pa_all hg false h5
      exact .ofF sh (d_index o.K o.units ((hg _ _ h6).pe true) p1 (base_of h2 _ _ _) h4 (star_of (p2 _ List.mem_cons_self) [] _)) (fun pk r => by rw [ev]) (fun _ => rfl)
    · cases h
  · cases h

theorem pi_of {k : Sk} {es : List (E F)} {tg it : Expr} (o : XOk cm L t m X W) (hg : ∀ e y, g e y = true → Snd L t X W e y) (pk : Bool) (h : mIt cm g X.env.scope k es tg it = true) :
    PI X tg it (tI pk L W fun r => do let ds ← evs t es pk r; srcD k ds) ∧ shape it = true := by
  have pi_eq : ∀ {mm mm' : List Slot → R (List D)}, PI X tg it (tI pk L W mm) → (∀ r, mm' r = mm r) → PI X tg it (tI pk L W mm') := fun {mm mm'} h e => by rw [show mm' = mm from funext e]; exact h
  unfold mIt at h
  split at h
  · split at h
    · rename_i e
      have s := hg _ _ h
      refine ⟨pi_eq (d_it o.K (s.pe pk)) fun r => ?_, s.sh⟩
      rw [evs_cons, evs_nil]
      cases ev t e pk r <;> rfl
    · cases h
  · unfold mRange at h
    split at h
    · split at h
      · rename_i e
        obtain ⟨h1, h2⟩ := and2 h
        obtain ⟨h1, h3⟩ := and2 h1
        obtain ⟨hgl, hno⟩ := and2 h3
        cases beq_iff_eq.mp h1
        obtain ⟨p1, p2, p3⟩ := pa_all hg pk (es := [e]) (xs := [_]) (by rw [all2, h2]; rfl)
        refine ⟨pi_eq (d_range1 (glb_of hgl) (o.no _ hno) p1 (star_of (p2 _ List.mem_cons_self) [] _)) fun r => ?_, rfl⟩
        rw [evs_cons, evs_nil]
        cases ev t e pk r <;> rfl
      · cases h
    · split at h
      · rename_i z z' _ _ e e'
        obtain ⟨h1, h2⟩ := and2 h
        obtain ⟨h1, h3⟩ := and2 h1
        obtain ⟨hgl, hno⟩ := and2 h3
        cases beq_iff_eq.mp h1
        obtain ⟨h4, h5⟩ := and2 h2
        obtain ⟨p1, p2, p3⟩ := pa_all hg pk (es := [e, e']) (xs := [z, z']) (by rw [all2, all2, h4, h5]; rfl)
        have sz : starEach [z'] X.env = [(false, eval z' X.env)] := star_of (p2 z' (by simp)) [] _
        refine ⟨pi_eq (d_range2 (glb_of hgl) (o.no _ hno) p1 (by rw [star_of (p2 z (by simp)), sz]) sz) fun r => ?_, rfl⟩
        rw [evs_cons, evs_cons, evs_nil]
        cases ev t e pk r with
        | ok d => cases ev t e' pk r <;> rfl
        | ex e => rfl
        | no => rfl
      · cases h
    · cases h
  · unfold mZip at h
    split at h
    · split at h
      · rename_i z z' _ _ e e'
        obtain ⟨h1, h2⟩ := and2 h
        obtain ⟨ht, h1⟩ := and2 h1
        obtain ⟨h1, h3⟩ := and2 h1
        obtain ⟨hgl, hno⟩ := and2 h3
        cases beq_iff_eq.mp h1
        obtain ⟨h4, h5⟩ := and2 h2
        obtain ⟨p1, p2, p3⟩ := pa_all hg pk (es := [e, e']) (xs := [z, z']) (by rw [all2, all2, h4, h5]; rfl)
        cases tg with
        | Tuple elts kk tpos =>
          refine ⟨pi_eq (d_zip o.K (glb_of hgl) (o.no _ hno) p1 (star_of (p2 z (by simp)) _ _) (any_of _ (fun w hw => p2 w (List.mem_cons_of_mem _ hw)) _)) fun r => ?_, rfl⟩
          rw [evs_cons, evs_cons, evs_nil]
          cases ev t e pk r with
          | ok d => cases ev t e' pk r <;> rfl
          | ex e => rfl
          | no => rfl
        | _ => cases ht
      · cases h
    · cases h
  · unfold mEnum at h
    split at h
    · split at h
      · rename_i z _ _ e
        obtain ⟨h1, h2⟩ := and2 h
        obtain ⟨ht, h1⟩ := and2 h1
        obtain ⟨h1, h3⟩ := and2 h1
        obtain ⟨hgl, hno⟩ := and2 h3
        cases beq_iff_eq.mp h1
        obtain ⟨p1, p2, p3⟩ := pa_all hg pk (es := [e]) (xs := [z]) (by rw [all2, h2]; rfl)
        cases tg with
        | Tuple elts kk tpos =>
          refine ⟨pi_eq (d_enum o.K (glb_of hgl) (o.no _ hno) p1 (star_of (p2 _ List.mem_cons_self) [] _)) fun r => ?_, rfl⟩
          rw [evs_cons, evs_nil]
          cases ev t e pk r <;> rfl
        | _ => cases ht
      · cases h
    · cases h
  · cases h
end
end Mk
end
section
set_option Elab.async false
set_option linter.all false
set_option maxRecDepth 100000
set_option maxHeartbeats 4000000
namespace Mk
open PySem PySem.Spec PyProof.Rows L2

section
variable {F : Type} [DecidableEq F] {cm : Cm F} {L : Law} {t : Tb F} {m : Nat} {X : Cx} {W : XK}
def mcOf (t : Tb F) : List (E F) → List Slot → R Bool
  | [], _ => .ok true
  | c :: _, r => do let d ← ev t c false r; truth d
theorem lcF_eq (t : Tb F) (tg : Tg) (cond : List (E F)) (elt : E F) (r : List Slot) (hc : cond.length ≤ 1) : (fun x => do
      let r' ← asg tg x r
      let cs ← evs t cond false r'
      match cs with
      | [] => do
        let y ← ev t elt false r'
        .ok (some y)
      | [c] => do
        match ← truth c with
        | true => do
          let y ← ev t elt false r'
          .ok (some y)
        | false => .ok none
      | _ => .no) = lcF tg (mcOf t cond) (fun r => ev t elt false r) r := by
  funext x
  unfold lcF
  cases asg tg x r with
  | ok r' =>
    simp only [R.ok_bind]
    match cond, hc with
    | [], _ => rw [evs_nil]; rfl
    | [c], _ =>
      rw [evs_cons, evs_nil]
      show _ = (do let b ← (do let d ← ev t c false r'; truth d); _)
      cases ev t c false r' with
      | ok d =>
        simp only [R.ok_bind] <;> cases truth d <;> rfl
      | ex e => rfl
      | no => rfl
    | _ :: _ :: _, h => simp at h
  | ex e => rfl
  | no => rfl
theorem lc_read (t : Tb F) (tg : Tg) (k : Sk) (es cond : List (E F)) (elt : E F) (hc : cond.length ≤ 1) (pk : Bool) (r : List Slot) :
    ev t (.lc tg k es cond elt) pk r = (do let items ← (do let ds ← evs t es true r; srcD k ds); let ys ← lcL (lcF tg (mcOf t cond) (fun r => ev t elt false r) r) items; .ok (.lst ys)) := by
  rw [← lcF_eq t tg cond elt r hc, ev]
  cases evs t es true r <;> rfl
theorem stores_blk (s : Shared) (H : Hp) (scope : Scope) (cl : List (Str × Addr)) (C : Addr) (fp : List Addr) : Stores (X.blk s H scope (compEnvC scope cl C X.env) fp) scope := by
  intro y hy
  rcases hy with hy | hy
  · have k := lookup_relS_keep (sc := X.env.scope) (k := .local) (by decide) hy
    exact ⟨.inl k, .inr k⟩
  · have k := lookup_relS_keep (sc := X.env.scope) (k := .cell) (by decide) hy
    refine ⟨.inr k, .inl ?_⟩
    show (scope.names.lookup y == some .cell) = true
    rw [hy]; decide
/-- what is right of all forms below -/
def AllOk (cm : Cm F) (L : Law) (t : Tb F) (m : Nat) (G : Scope → E F → Expr → Bool) : Prop := ∀ sc e x, G sc e x = true → ∀ X W, XOk cm L t m X W → X.env.scope = sc → Snd L t X W e x
theorem pts_of {G : E F → Expr → Bool} {cond : List (E F)} {ifs : List Expr} (hc : cond.length ≤ 1) (hg : ∀ e y, G e y = true → Snd L t X W e y) (h : all2 G cond ifs = true) : PTs X ifs (tT L W (mcOf t cond)) := by
  match cond, ifs, h, hc with
  | [], [], _, _ => exact PTs.mono pts_nil fun σ H Q ⟨Z, r, g, e, q⟩ => Got.now (rel := relB) (v := true) q g rfl
  | [c], [x], h, _ =>
    have h1 : G c x = true := by simpa [all2] using h
    exact pts_one (hg _ _ h1).pt
  | [], _ :: _, h, _ => simp [all2] at h
  | _ :: _, [], h, _ => simp [all2] at h
  | [_], _ :: _ :: _, h, _ => simp [all2] at h
  | _ :: _ :: _, _, _, hc => simp at hc
theorem s_lc {G : Scope → E F → Expr → Bool} {tg : Tg} {k : Sk} {es cond : List (E F)} {elt : E F} {x : Expr} (ih : AllOk cm L t m G) (o : XOk cm L t m X W) (sh : shape x = true) (h : mLc cm G X.env.scope tg k es cond elt x = true) : Snd L t X W (.lc tg k es cond elt) x := by
  unfold mLc at h
  split at h
  · rename_i y t' it ifs scope p
    obtain ⟨h1, h2⟩ := and2 h
    obtain ⟨h2, h3⟩ := and2 h2
    obtain ⟨hb, hs⟩ := and2 h2
    obtain ⟨ht, h4⟩ := and2 h3
    obtain ⟨h5, he⟩ := and2 h4
    obtain ⟨hc, hi⟩ := and2 h5
    have hc := of_decide_eq_true hc
    have hs := of_decide_eq_true hs
    have ok : BlkOk X.N X.env.scope scope (ownOf cm tg) := by rw [o.N]; exact blk_of hb
    have hgB : ∀ (s : Shared) (H : Hp) (C : Addr) (cl : List (Str × Addr)) (fp : List Addr), PG (X.blk s H scope (compEnvC scope cl C X.env) fp) t' (gT L.K tg) := fun s H C cl fp =>
      tg_of (X := X.blk s H scope (compEnvC scope cl C X.env) fp) o.K o.N o.nd o.calm (stores_blk s H scope cl C fp) ht
    have inn : ∀ (s : Shared) (H : Hp) (C : Addr) (cl : List (Str × Addr)) (fp : List Addr) (e : E F) (z : Expr), G (relS scope X.env.scope) e z = true → Snd L t (X.blk s H scope (compEnvC scope cl C X.env) fp) E0 e z := fun s H C cl fp e z hz =>
      ih _ e z hz _ _ (o.blk s H scope C cl fp) rfl
    have htB : ∀ (s : Shared) (H : Hp) (C : Addr) (cl : List (Str × Addr)) (fp : List Addr), PTs (X.blk s H scope (compEnvC scope cl C X.env) fp) ifs (tT L E0 (mcOf t cond)) := fun s H C cl fp => pts_of hc (inn s H C cl fp) hi
    have heB : ∀ (s : Shared) (H : Hp) (C : Addr) (cl : List (Str × Addr)) (fp : List Addr), PE (X.blk s H scope (compEnvC scope cl C X.env) fp) y (tE L E0 false fun r => ev t elt false r) := fun s H C cl fp => (inn s H C cl fp _ _ he).pe false
    split at h1
    · unfold mKeys at h1
      split at h1
      · rename_i i
        unfold mVar at h1
        split at h1
        · rename_i z pz
          obtain ⟨k1, k2⟩ := and2 h1
          obtain ⟨k2, k3⟩ := and2 k2
          obtain ⟨k4, k5⟩ := okN_of k3
          refine .ofF sh (d_lcKeys o.K o.calm o.nd (pe_var (by rw [o.N]; exact of_decide_eq_true k1) (vis_of k2) k4 k5) ok hgB htB heB hs (fun _ => rfl)) (fun pk r => ?_) (fun _ => rfl)
          rw [lc_read _ _ _ _ _ _ hc, evs_cons, evs_nil, ev]
          cases r[i]? with
          | none => rfl
          | some q => cases q <;> rfl
        · cases h1
      · cases h1
    · obtain ⟨p1, p2⟩ := pi_of (G X.env.scope) o (fun e z hz => ih _ e z hz X W o rfl) true h1
      exact .ofF sh (d_lc o.K o.calm o.nd p1 ok hgB htB heB hs (fun z => fold_of p2 _ z)) (fun pk r => lc_read _ _ _ _ _ _ hc pk r) (fun _ => rfl)
  · cases h
theorem arg_ok {sc : Scope} {e : E F} {x : Expr} (o : XOk cm L t m X W) (hs : X.env.scope = sc) (h : mArg cm sc e x = true) : Snd L t X W e x := by
  subst hs
  unfold mArg at h
  obtain ⟨sh, h⟩ := and2 h
  cases e with
  | var i => exact s_var o sh h
  | kst d => exact s_kst o sh h
  | _ => cases h
/-- variables and constants ask no def -/
theorem arg_ev {sc : Scope} {t' : Tb F} : ∀ {es : List (E F)} {xs : List Expr} (r : List Slot), all2 (mArg cm sc) es xs = true → evs t' es false r = evs t es false r ∧ ∀ ex, evs t es false r ≠ .ex ex
  | [], [], r, _ => ⟨by rw [evs_nil, evs_nil], fun ex z => by rw [evs_nil] at z; cases z⟩
  | e :: es, x :: xs, r, h => by
    rw [all2, Bool.and_eq_true] at h
    obtain ⟨i1, i2⟩ := arg_ev r h.2
    have h1 := h.1
    unfold mArg at h1
    obtain ⟨_, h1⟩ := and2 h1
    have key : ev t' e false r = ev t e false r ∧ ∀ ex, ev t e false r ≠ .ex ex := by
      cases e with
      | var i =>
        refine ⟨by rw [ev, ev], fun ex z => ?_⟩
        rw [ev] at z
        cases hr : r[i]? with
        | none => rw [hr] at z; cases z
        | some q => rw [hr] at z; cases q <;> cases z
      | kst d => exact ⟨by rw [ev, ev], fun ex z => by rw [ev] at z; cases z⟩
      | _ => cases h1
    rw [evs_cons, evs_cons, key.1, i1]
    refine ⟨rfl, fun ex z => ?_⟩
    cases h2 : ev t e false r with
    | ok d =>
      rw [h2] at z
      cases h3 : evs t es false r with
      | ok ds => rw [h3] at z; cases z
      | ex e2 => exact i2 e2 h3
      | no => rw [h3] at z; cases z
    | ex e2 => exact key.2 e2 h2
    | no => rw [h2] at z; cases z
  | [], _ :: _, _, h => by simp [all2] at h
  | _ :: _, [], _, h => by simp [all2] at h
theorem s_told {k : F} {es : List (E F)} {x : Expr} (o : XOk cm L t m X W) (sh : shape x = true) (h : mTold cm X.env.scope k es x = true) : Snd L t X W (.told k es) x := by
  unfold mTold at h
  split at h
  · rename_i y p params body scope lp pos
    obtain ⟨h1, h2⟩ := and2 h
    obtain ⟨htl, h1⟩ := and2 h1
    obtain ⟨hy, hg⟩ := and2 h1
    obtain ⟨h2, h3⟩ := and2 h2
    obtain ⟨hls, hna⟩ := and2 h2
    obtain ⟨hsh, hcl⟩ := and2 h3
    cases beq_iff_eq.mp hy
    obtain ⟨T, c, P, e1, e2, e3, e4⟩ := o.tl htl
    obtain ⟨xs, hxs⟩ : ∃ xs, all2 (mArg cm scope) es xs = true := by
      have hcl := hcl
      unfold mCall at hcl
      split at hcl
      · exact ⟨_, (and2 (and2 hcl).2).2⟩
      · cases hcl
    have eqq : ∀ r, ev t (.told k es) false r = toldR (do let ds ← evs t es false r; t.c2 k ds) := fun r => by
      rw [ev]
      obtain ⟨_, i2⟩ := arg_ev (t := t) (t' := t) r hxs
      cases h2 : evs t es false r with
      | ok ds => rfl
      | ex e => exact absurd h2 (i2 e)
      | no => rfl
    have pkq : ∀ pk r, ev t (.told k es) pk r = ev t (.told k es) false r := fun pk r => by rw [ev, ev]
    refine .ofE sh (fun pk => ?_) rfl (fun _ => rfl)
    refine pe_eq (m := fun r => toldR (do let ds ← evs t es false r; t.c2 k ds)) ?_ (fun r => (pkq pk r).trans (eqq r))
    rcases o.fn2 with ⟨m', rfl, f2, l2⟩ | f2
    · refine d_told T (glb_of hg) e2 e1 e3 e4 o.room (LamX.lamS_by hls) hna (fun A outer s H E f c' hr => ?_) pk
      have o' : XOk { cm with tl := false } L ⟨t.c2, fun _ _ => .no⟩ m' (LamX.lamCx X A outer s H E scope f c') E :=
        ⟨o.K, o.N, o.nd, rfl, hr, o.gl, o.no, f2, l2, takes_of rfl rfl rfl rfl, (fun z => by cases z), .inr fun _ _ => rfl, o.rai⟩
      have hcl' : mCall { cm with tl := false } (mArg { cm with tl := false } scope) scope k es body = true := hcl
      have sc := s_call (cm := { cm with tl := false }) (X := LamX.lamCx X A outer s H E scope f c') (W := E) _ o' hsh (fun e y hy => arg_ok o' rfl hy) hcl'
      refine pe_eq (sc.pe false) fun r => ?_
      rw [ev, (arg_ev (t := t) (t' := ⟨t.c2, fun _ _ => .no⟩) r hxs).1]
    · refine ⟨fun pins s σ H Q I ⟨Z, r, g, e, q⟩ => ?_⟩
      cases h2 : evs t es false r with
      | ok ds =>
        have q : Got L W Z H (toldR (evs t es false r >>= fun ds => t.c2 k ds)) (relV pk L.K) Q := q
        rw [h2, R.ok_bind, f2] at q
        exact q.elim
      | ex e => exact absurd h2 ((arg_ev (t := t) (t' := t) r hxs).2 e)
      | no =>
        have q : Got L W Z H (toldR (evs t es false r >>= fun ds => t.c2 k ds)) (relV pk L.K) Q := q
        rw [h2, R.no_bind] at q
        exact q.elim
  · cases h
theorem mE_ok : ∀ n, AllOk cm L t m (mE cm n)
  | 0 => fun sc e x h => by cases h
  | n + 1 => by
    intro sc e x h X W o hsc
    subst hsc
    have ih := mE_ok n
    have hg : ∀ e y, mE cm n X.env.scope e y = true → Snd L t X W e y := fun e y hy => ih _ e y hy X W o rfl
    unfold mE at h
    obtain ⟨sh, h⟩ := and2 h
    cases e with
    | var i => exact s_var o sh h
    | kst d => exact s_kst o sh h
    | tup es => exact s_tup _ sh hg h
    | lst es => exact s_lst _ sh hg h
    | dnew => exact s_dnew sh h
    | bin op a b => exact s_bin _ o sh hg h
    | neg a => exact s_neg _ sh hg h
    | cmp op a b => exact s_cmp _ o sh hg h
    | chain op op' a b c => exact s_chain _ o sh hg h
    | and a b => exact s_and _ sh hg h
    | or a b => exact s_or _ sh hg h
    | not a => exact s_not _ sh hg h
    | idx a b => exact s_idx _ o sh hg h
    | slc a lo hi => exact s_slc _ o sh hg h
    | rev a => exact s_rev _ o sh hg h
    | isa a t => exact s_isa _ o sh hg h
    | call k es => exact s_call _ o sh hg h
    | blt b es => exact s_blt _ o sh hg h
    | mth m o' es => exact s_mth _ o sh hg h
    | lc tg k es cond elt => exact s_lc ih o sh h
    | told k es => exact s_told o sh h
end
end Mk
end
section
set_option Elab.async false
set_option linter.all false
set_option maxRecDepth 100000
set_option maxHeartbeats 4000000
namespace Mk
open PySem PySem.Spec PyProof.Rows L2

section
variable {F : Type} [DecidableEq F] (cm : Cm F)
def isLc : Expr → Bool
  | .ListComp _ _ _ _ => true
  | _ => false
def sto (sc : Scope) (i : Nat) (y : Str) : Bool := decide (cm.N[i]? = some y) && ((match sc.names.lookup y with | some .local => true | some .cell => true | _ => false) && okN y)
/-- name = [..]: made in place -/
def swp (sc : Scope) (y : Str) (l : Nat) : Expr → Bool
  | .ListComp _ _ scope p => (decide (sc.names.lookup y = some .local) && l == p.line) && !(scope.names.any fun (n, k) => n == y && (k == .local || k == .cell))
  | _ => false
def isKeys : E F → Bool
  | .lc _ .keys _ _ _ => true
  | _ => false
def mSet (g : E F → Expr → Bool) (sc : Scope) (i : Nat) (e : E F) : Stmt → Bool
  | .Assign [.Name y p] x _ => (sto cm sc i y && g e x) && !(swp sc y p.line x && isKeys e)
  | _ => false
def mUnp (g : E F → Expr → Bool) (sc : Scope) (is : List Nat) (e : E F) : Stmt → Bool
  | .Assign [.Tuple xs k p] x _ => (mTg cm sc (.tp is) (.Tuple xs k p) && !isTup x) && g e x
  | _ => false
def mMeth (g : E F → Expr → Bool) (sc : Scope) (nm : Str) (i : Nat) (e : E F) : Stmt → Bool
  | .Expr (.Call (.Attribute (.Name y _) m ap) [x] [] p) _ => ((m == nm && ap.endLine == p.line) && (decide (cm.N[i]? = some y) && (vis sc y && okN y))) && g e x
  | _ => false
def mPut (g : E F → Expr → Bool) (sc : Scope) (i : Nat) (k e : E F) : Stmt → Bool
  | .Assign [.Subscript (.Name y _) z _] x _ => (decide (cm.N[i]? = some y) && (vis sc y && okN y)) && (g k z && g e x)
  | _ => false
def mIf (g : E F → Expr → Bool) (h : S F → Stmt → Bool) (c : E F) (a b : List (S F)) : Stmt → Bool
  | .If x st st' _ => g c x && (all2 h a st && all2 h b st')
  | _ => false
def mFor (g : E F → Expr → Bool) (h : S F → Stmt → Bool) (sc : Scope) (tg : Tg) (k : Sk) (es : List (E F)) (body : List (S F)) : Stmt → Bool
  | .For t it st [] _ => (mTg cm sc tg t && mIt cm g sc k es t it) && all2 h body st
  | _ => false
def mWh (g : E F → Expr → Bool) (h : S F → Stmt → Bool) (c : E F) (body : List (S F)) : Stmt → Bool
  | .While x st [] _ => g c x && all2 h body st
  | _ => false
def mRet (g : E F → Expr → Bool) (e : E F) : Stmt → Bool
  | .Return (some x) _ => g e x
  | _ => false
def mExpr (g : E F → Expr → Bool) (e : E F) : Stmt → Bool
  | .Expr x _ => !isLc x && g e x
  | _ => false
def mRai (sc : Scope) (x : Ex) : Stmt → Bool
  | .Raise (some (.Call (.Name y _) [.Constant (.str _) _ _] [] _)) none _ => decide (cm.exn y = some x) && (glb sc y && okN y)
  | _ => false
def mS : Nat → Scope → S F → Stmt → Bool
  | 0, _, _, _ => false
  | n + 1, sc, s, st => match s with
    | .set i e => mSet cm (mE cm n sc) sc i e st
    | .unp is e => mUnp cm (mE cm n sc) sc is e st
    | .app i e => mMeth cm (mE cm n sc) sc "append" i e st
    | .ext i e => mMeth cm (mE cm n sc) sc "extend" i e st
    | .put i k e => mPut cm (mE cm n sc) sc i k e st
    | .ife c a b => mIf (mE cm n sc) (mS n sc) c a b st
    | .forr tg k es body => mFor cm (mE cm n sc) (mS n sc) sc tg k es body st
    | .ret e => mRet (mE cm n sc) e st
    | .retF e => mRet (mE cm n sc) e st
    | .expr e => mExpr (mE cm n sc) e st
    | .rai x => mRai cm sc x st
    | .wh _ c body => mWh (mE cm n sc) (mS n sc) c body st
    | .frz s => mS n sc s st
    | .bad => true
end
structure SOk (X : Cx) : Prop where
  fn : ∀ y, X.fn y = true
  own : PassesOwn (model X.prog X.w) X.A X.env X.xe
  kind : X.env.scope.kind = .function
section
variable {F : Type} [DecidableEq F] {cm : Cm F} {L : Law} {t : Tb F} {m : Nat} {X : Cx} {W : XK} {Z0 H0 : Hp}
theorem ps_eq {st : Stmt} {m m' : List Slot → R Out} (h : PS X st (tS L W Z0 H0 m)) (e : ∀ r, m' r = m r) : PS X st (tS L W Z0 H0 m') := by rw [show m' = m from funext e]; exact h
theorem SOk.stores (s : SOk X) : Stores X X.env.scope := fun y h => ⟨h, .inl (s.fn y)⟩
theorem sw_no {x : Expr} (h : isLc x = false) (sh : shape x = true) (tg : Option Expr) (l : Nat) (env : Env) : swapsWith x tg l env = pure false := by
  cases x <;> first | rfl | (simp [isLc] at h; done) | simp [shape] at sh
theorem sw_other {x tg : Expr} (sh : shape x = true) (h : ∀ y p, tg ≠ .Name y p) (l : Nat) (env : Env) : swapsWith x (some tg) l env = pure false := by
  cases x <;> try (first | rfl | (simp [shape] at sh; done))
  cases tg <;> first | rfl | exact absurd rfl (h _ _)
theorem sw_is {e : Expr} {gs : List Comprehension} {scope : Scope} {pos p : Pos} {y : Str} {l l' : Nat} (k : SOk X) : swapsWith (.ListComp e gs scope pos) (some (.Name y p)) l' X.env = pure (swp X.env.scope y p.line (.ListComp e gs scope pos)) := by
  have hb : X.env.blockKind = .function := by
    unfold Env.blockKind
    rw [k.kind]; rfl
  show (pure (X.env.blockKind == .function && X.env.kindOf y == some .local && p.line == pos.line && !(scope.names.any fun (n, k) => n == y && (k == .local || k == .cell))) : Sem Bool) = _
  rw [hb]
  have : (X.env.kindOf y == some NameKind.local) = decide (X.env.scope.names.lookup y = some .local) := by
    unfold Env.kindOf
    cases X.env.scope.names.lookup y with
    | none => rfl
    | some q => cases q <;> rfl
  rw [this]
  unfold swp
  rfl
theorem meth_of {g : E F → Expr → Bool} {nm : Str} {i : Nat} {e : E F} {st : Stmt} (o : XOk cm L t m X W) (h : mMeth cm g X.env.scope nm i e st = true) : ∃ y p ap x p2 sp, st = .Expr (.Call (.Attribute (.Name y p) nm ap) [x] [] p2) sp ∧ (ap.endLine == p2.line) = true ∧ PE X (.Name y p) (tVar i) ∧ g e x = true := by
  unfold mMeth at h
  split at h
  · obtain ⟨h1, h2⟩ := and2 h
    obtain ⟨h1, h3⟩ := and2 h1
    obtain ⟨h1, h4⟩ := and2 h1
    obtain ⟨h3, h5⟩ := and2 h3
    obtain ⟨h5, h6⟩ := and2 h5
    obtain ⟨h6, h7⟩ := okN_of h6
    cases beq_iff_eq.mp h1
    exact ⟨_, _, _, _, _, _, rfl, h4, pe_var (by rw [o.N]; exact of_decide_eq_true h3) (vis_of h5) h6 h7, h2⟩
  · cases h
theorem pss_all {h : S F → Stmt → Bool} (hh : ∀ s st, h s st = true → PS X st (tS L W Z0 H0 fun r => ex t s r)) : ∀ {ss : List (S F)} {sts : List Stmt}, all2 h ss sts = true → PSs X sts (tS L W Z0 H0 fun r => exs t ss r)
  | [], [], _ => d_skip fun r => by rw [exs]
  | s :: ss, st :: sts, hq => by
    rw [all2, Bool.and_eq_true] at hq
    have k := d_seq (hh s st hq.1) (pss_all hh hq.2)
    rw [show (fun r => exs t (s :: ss) r) = _ from funext fun r => by rw [exs]]
    exact k
  | [], _ :: _, h => by simp [all2] at h
  | _ :: _, [], h => by simp [all2] at h
theorem ev_pk {e : E F} (h : ∀ i, e ≠ .var i) (r : List Slot) : ev t e true r = ev t e false r := by
  cases e <;> first | (rw [ev, ev]; done) | exact absurd rfl (h _)
/-- name = a comprehension, made in place -/
theorem set_lc {G : Scope → E F → Expr → Bool} {i : Nat} {e : E F} {x : Expr} {y : Str} {p pos : Pos} (ih : AllOk cm L t m G) (o : XOk cm L t m X W) (k : SOk X) (hi : X.N[i]? = some y) (hsw : swp X.env.scope y p.line x = true) (hk : isKeys e = false)
    {tg : Tg} {sk : Sk} {es cond : List (E F)} {elt : E F} (he : e = .lc tg sk es cond elt) (h : mLc cm G X.env.scope tg sk es cond elt x = true) :
    PS X (.Assign [.Name y p] x pos) (tAsg (tF L W fun r => ev t e false r) (gName i)) := by
  subst he
  unfold mLc at h
  split at h
  · rename_i y' t' it ifs scope p'
    obtain ⟨h1, h2⟩ := and2 h
    obtain ⟨h2, h3⟩ := and2 h2
    obtain ⟨hb, hs⟩ := and2 h2
    obtain ⟨ht, h4⟩ := and2 h3
    obtain ⟨h5, he⟩ := and2 h4
    obtain ⟨hc, hi'⟩ := and2 h5
    have hc := of_decide_eq_true hc
    have hs := of_decide_eq_true hs
    have ok : BlkOk X.N X.env.scope scope (ownOf cm tg) := by rw [o.N]; exact blk_of hb
    have hgB : ∀ (s : Shared) (H : Hp) (C : Addr) (cl : List (Str × Addr)) (fp : List Addr), PG (X.blk s H scope (compEnvC scope cl C X.env) fp) t' (gT L.K tg) := fun s H C cl fp =>
      tg_of (X := X.blk s H scope (compEnvC scope cl C X.env) fp) o.K o.N o.nd o.calm (stores_blk s H scope cl C fp) ht
    have inn : ∀ (s : Shared) (H : Hp) (C : Addr) (cl : List (Str × Addr)) (fp : List Addr) (e : E F) (z : Expr), G (relS scope X.env.scope) e z = true → Snd L t (X.blk s H scope (compEnvC scope cl C X.env) fp) E0 e z := fun s H C cl fp e z hz =>
      ih _ e z hz _ _ (o.blk s H scope C cl fp) rfl
    have htB : ∀ (s : Shared) (H : Hp) (C : Addr) (cl : List (Str × Addr)) (fp : List Addr), PTs (X.blk s H scope (compEnvC scope cl C X.env) fp) ifs (tT L E0 (mcOf t cond)) := fun s H C cl fp => pts_of hc (inn s H C cl fp) hi'
    have heB : ∀ (s : Shared) (H : Hp) (C : Addr) (cl : List (Str × Addr)) (fp : List Addr), PE (X.blk s H scope (compEnvC scope cl C X.env) fp) y' (tE L E0 false fun r => ev t elt false r) := fun s H C cl fp => (inn s H C cl fp _ _ he).pe false
    split at h1
    · cases hk
    · obtain ⟨p1, p2⟩ := pi_of (G X.env.scope) o (fun e z hz => ih _ e z hz X W o rfl) true h1
      have hl : X.env.scope.names.lookup y = some .local := by
        unfold swp at hsw
        obtain ⟨q1, _⟩ := and2 hsw
        obtain ⟨q1, _⟩ := and2 q1
        exact of_decide_eq_true q1
      have r := d_setLc (spos := pos) (L := L) (W := W) o.K o.calm o.nd hi hl (by rw [sw_is (l := 0) k, hsw]) p1 ok hgB htB heB hs (fun z => fold_of p2 _ z)
      rw [show (fun r => ev t (.lc tg sk es cond elt) false r) = _ from funext fun r => lc_read _ _ _ _ _ _ hc false r]
      exact r
  · cases h
theorem mE_lc {n : Nat} {sc : Scope} {e : E F} {x : Expr} (h : mE cm n sc e x = true) (hx : isLc x = true) : ∃ k tg sk es cond elt, n = k + 1 ∧ e = .lc tg sk es cond elt ∧ mLc cm (mE cm k) sc tg sk es cond elt x = true := by
  cases n with
  | zero => cases h
  | succ k =>
    unfold mE at h
    obtain ⟨sh, h⟩ := and2 h
    cases x <;> try (simp [isLc] at hx; done)
    cases e with
    | lc tg sk es cond elt => exact ⟨k, _, _, _, _, _, rfl, rfl, h⟩
    | mth me o' es => cases me <;> exact absurd h Bool.false_ne_true
    | blt b es => cases b <;> exact absurd h Bool.false_ne_true
    | _ => exact absurd h Bool.false_ne_true
end
end Mk
end
section
set_option Elab.async false
set_option linter.all false
set_option maxRecDepth 100000
set_option maxHeartbeats 4000000
namespace Mk
open PySem PySem.Spec PyProof.Rows L2

section
variable {F : Type} [DecidableEq F] {cm : Cm F} {L : Law} {t : Tb F} {m : Nat} {X : Cx} {W : XK} {Z0 H0 : Hp}
theorem t_set {n : Nat} {i : Nat} {e : E F} {st : Stmt} (o : XOk cm L t m X W) (k : SOk X) (h : mSet cm (mE cm n X.env.scope) X.env.scope i e st = true) : PS X st (tS L W Z0 H0 fun r => ex t (.set i e) r) := by
  unfold mSet at h
  split at h
  · rename_i y p x pos
    obtain ⟨h1, h2⟩ := and2 h
    obtain ⟨h1, h3⟩ := and2 h1
    obtain ⟨h1, h4⟩ := and2 h1
    obtain ⟨h4, h5⟩ := and2 h4
    have s := mE_ok (m := m) n _ e x h3 X W o rfl
    have hi : X.N[i]? = some y := by rw [o.N]; exact of_decide_eq_true h1
    have hl : Loc X.env.scope y := by
      split at h4
      · exact .inl (by assumption)
      · exact .inr (by assumption)
      · cases h4
    have fin : PS X (.Assign [.Name y p] x pos) (tAsg (tF L W fun r => ev t e false r) (gName i)) → fresh e = true → PS X (.Assign [.Name y p] x pos) (tS L W Z0 H0 fun r => ex t (.set i e) r) := fun rule hf => by
      refine ps_eq (d_setF rule) fun r => ?_
      rw [ex, hf]
      cases ev t e false r <;> rfl
    by_cases hx : isLc x = true
    · obtain ⟨k', tg, sk, es, cond, elt, rfl, rfl, hm⟩ := mE_lc h3 hx
      by_cases hs : swp X.env.scope y p.line x = true
      · refine fin (set_lc (mE_ok k') o k hi hs ?_ rfl hm) rfl
        rw [hs, Bool.true_and, Bool.not_eq_true'] at h2
        exact h2
      · refine fin (ps_set o.nd hi hl (s.pf rfl) ?_ (.inl (k.fn y))) rfl
        cases x <;> try (simp [isLc] at hx; done)
        rw [sw_is (l := 0) k]
        simp only [Bool.not_eq_true] at hs
        rw [hs]
    · have hx : isLc x = false := by simpa using hx
      by_cases hf : fresh e = true
      · exact fin (ps_set o.nd hi hl (s.pf hf) (sw_no hx s.sh _ _ _) (.inl (k.fn y))) hf
      · have hf : fresh e = false := by simpa using hf
        refine ps_eq (d_set (rule := ps_set o.nd hi hl (s.pe false) (sw_no hx s.sh _ _ _) (.inl (k.fn y)))) fun r => ?_
        rw [ex, hf]
        cases ev t e false r <;> rfl
  · cases h
theorem t_unp {n : Nat} {is : List Nat} {e : E F} {st : Stmt} (o : XOk cm L t m X W) (k : SOk X) (h : mUnp cm (mE cm n X.env.scope) X.env.scope is e st = true) : PS X st (tS L W Z0 H0 fun r => ex t (.unp is e) r) := by
  unfold mUnp at h
  split at h
  · rename_i xs kk p x pos
    obtain ⟨h1, h2⟩ := and2 h
    obtain ⟨h1, h3⟩ := and2 h1
    have s := mE_ok (m := m) n _ e _ h2 X W o rfl
    have hx : isTup x = false := by simpa using h3
    have h4 : swappedStores [.Tuple xs kk p] x X.env = pure none := by
      have sh := s.sh
      cases x <;> first | rfl | (simp [isTup] at hx; done) | (simp [shape] at sh; done)
    refine ps_eq (d_unp (ps_asg (s.pe false) (tg_of o.K o.N o.nd o.calm k.stores h1) (show swapsWith x (some (.Tuple xs kk p)) pos.line X.env = pure false from sw_other s.sh (fun _ _ hh => by cases hh) _ _) h4 rfl)) fun r => ?_
    rw [ex]
  · cases h
theorem t_put {n : Nat} {i : Nat} {kk e : E F} {st : Stmt} (o : XOk cm L t m X W) (h : mPut cm (mE cm n X.env.scope) X.env.scope i kk e st = true) : PS X st (tS L W Z0 H0 fun r => ex t (.put i kk e) r) := by
  unfold mPut at h
  split at h
  · rename_i y p z p' x pos
    obtain ⟨h1, h2⟩ := and2 h
    obtain ⟨h1, h3⟩ := and2 h1
    obtain ⟨h3, h4⟩ := and2 h3
    obtain ⟨h4, h5⟩ := okN_of h4
    obtain ⟨h6, h7⟩ := and2 h2
    have s1 := mE_ok (m := m) n _ _ _ h6 X W o rfl
    have s2 := mE_ok (m := m) n _ _ _ h7 X W o rfl
    refine ps_eq (d_put o.units (pe_var (by rw [o.N]; exact of_decide_eq_true h1) (vis_of h3) h4 h5) (s1.pe false) (s2.pe false) (sw_other s2.sh (fun _ _ hh => by cases hh) _ _) (fun v => ?_) ?_ rfl) fun r => ?_
    · have sh := s1.sh
      cases z <;> first | rfl | (simp [shape] at sh; done)
    · cases x <;> rfl
    · rw [ex] <;> rfl
  · cases h
theorem mS_ok : ∀ n sc s st, mS cm n sc s st = true → ∀ X W, XOk cm L t m X W → SOk X → X.env.scope = sc → ∀ Z0 H0, PS X st (tS L W Z0 H0 fun r => ex t s r)
  | 0, _, _, _, h => by cases h
  | n + 1, sc, s, st, h => by
    intro X W o k hsc Z0 H0
    subst hsc
    have ih : ∀ s st, mS cm n X.env.scope s st = true → PS X st (tS L W Z0 H0 fun r => ex t s r) := fun s st hs => mS_ok n _ s st hs X W o k rfl Z0 H0
    have ie := mE_ok (cm := cm) (L := L) (t := t) (m := m) n
    unfold mS at h
    cases s with
    | set i e => exact t_set o k h
    | unp is e => exact t_unp o k h
    | app i e =>
      obtain ⟨y, p, ap, x, p2, sp, rfl, hl, hv, hx⟩ := meth_of o h
      have s := ie _ e x hx X W o rfl
      refine ps_eq (d_app hv (s.pe false) (star_of s.sh [] _) hl) fun r => ?_
      rw [ex] <;> rfl
    | ext i e =>
      obtain ⟨y, p, ap, x, p2, sp, rfl, hl, hv, hx⟩ := meth_of o h
      have s := ie _ e x hx X W o rfl
      refine ps_eq (d_ext hv (s.pe false) (star_of s.sh [] _) hl) fun r => ?_
      rw [ex] <;> rfl
    | put i kk e => exact t_put o h
    | ife c a b =>
      replace h : mIf (mE cm n X.env.scope) (mS cm n X.env.scope) c a b st = true := h
      unfold mIf at h
      split at h
      · obtain ⟨h1, h2⟩ := and2 h
        obtain ⟨h2, h3⟩ := and2 h2
        refine ps_eq (d_if (ie _ c _ h1 X W o rfl).pt (pss_all ih h2) (pss_all ih h3)) fun r => ?_
        rw [ex]
        cases ev t c false r <;> rfl
      · cases h
    | forr tg sk es body =>
      replace h : mFor cm (mE cm n X.env.scope) (mS cm n X.env.scope) X.env.scope tg sk es body st = true := h
      unfold mFor at h
      split at h
      · obtain ⟨h1, h2⟩ := and2 h
        obtain ⟨h1, h3⟩ := and2 h1
        obtain ⟨p1, p2⟩ := pi_of (mE cm n X.env.scope) o (fun e z hz => ie _ e z hz X W o rfl) false h3
        refine ps_eq (d_for k.own o.calm p1 (tg_of o.K o.N o.nd o.calm k.stores h1) (pss_all ih h2) (fun z => fold_of p2 _ z)) fun r => ?_
        rw [ex]
        cases evs t es false r <;> rfl
      · cases h
    | ret e =>
      replace h : mRet (mE cm n X.env.scope) e st = true := h
      unfold mRet at h
      split at h
      · have s := ie _ e _ h X W o rfl
        by_cases hv : ∃ i, e = .var i
        · obtain ⟨i, rfl⟩ := hv
          cases n with
          | zero => cases h
          | succ n =>
            unfold mE at h
            obtain ⟨sh, h⟩ := and2 h
            replace h : mVar cm X.env.scope i _ = true := h
            unfold mVar at h
            split at h
            · obtain ⟨q1, q2⟩ := and2 h
              obtain ⟨q2, q3⟩ := and2 q2
              obtain ⟨q4, q5⟩ := okN_of q3
              refine d_retV (by rw [o.N]; exact of_decide_eq_true q1) (vis_of q2) q4 q5 fun r => ?_
              rw [ex, ev]
              cases r[i]? with
              | none => rfl
              | some q => cases q <;> rfl
            · cases h
        · refine ps_eq (d_ret (s.pe false)) fun r => ?_
          rw [ex, ev_pk (fun i hi => hv ⟨i, hi⟩)]
      · cases h
    | retF e =>
      replace h : mRet (mE cm n X.env.scope) e st = true := h
      unfold mRet at h
      split at h
      · refine ps_eq (d_retF ((ie _ e _ h X W o rfl).pe false)) fun r => ?_
        rw [ex]
      · cases h
    | expr e =>
      replace h : mExpr (mE cm n X.env.scope) e st = true := h
      unfold mExpr at h
      split at h
      · obtain ⟨h1, h2⟩ := and2 h
        have s := ie _ e _ h2 X W o rfl
        refine ps_eq (d_drop (ps_expr (s.pe false) (sw_no (by simpa using h1) s.sh _ _ _))) fun r => ?_
        rw [ex]
      · cases h
    | rai x =>
      replace h : mRai cm X.env.scope x st = true := h
      unfold mRai at h
      split at h
      · obtain ⟨h1, h2⟩ := and2 h
        obtain ⟨h2, h3⟩ := and2 h2
        obtain ⟨C, c1, c2, c3, c4, c5, c6⟩ := o.rai _ x (of_decide_eq_true h1)
        refine ps_eq (d_rai o.calm o.tk (glb_of h2) (okN_of h3).1 c1 c2 c3 c4 c5 c6) fun r => ?_
        rw [ex]
      · cases h
    | wh f c body =>
      replace h : mWh (mE cm n X.env.scope) (mS cm n X.env.scope) c body st = true := h
      unfold mWh at h
      split at h
      · obtain ⟨h1, h2⟩ := and2 h
        refine ps_eq (d_wh (n := f) k.own (ie _ c _ h1 X W o rfl).pt (pss_all ih h2)) fun r => ?_
        rw [ex]
      · cases h
    | frz s =>
      refine ps_eq (d_frz (ih s st h)) fun r => ?_
      rw [ex]
    | bad => exact d_bad fun r => by rw [ex]

/-- the slots at a body's entry -/
theorem start_env {K : PySem.W.Frag} {Z H : Hp} {N : List Str} {vs : List V} {ds : List D} (rl : RepL K Z vs ds) : EnvW K Z H (L2.start N vs) (start N.length ds) := by
  have hl := rl.length
  refine ⟨by simp [L2.start, start, hl], fun i => ?_⟩
  unfold start L2.start
  rcases Nat.lt_or_ge i ds.length with h | h
  · rw [List.getElem?_append_left (by simpa using h), List.getElem?_map, List.getElem?_eq_getElem h]
    obtain ⟨v, h1, h2⟩ := rl.get (List.getElem?_eq_getElem h)
    refine ⟨v, ?_, h2⟩
    rw [List.getElem?_append_left (by simpa [hl] using h), List.getElem?_map, h1]; rfl
  · rw [List.getElem?_append_right (by simpa using h)]
    cases hq : (List.replicate (N.length - ds.length) Slot.un)[i - (ds.map Slot.val).length]? with
    | none => trivial
    | some q =>
      have := List.mem_of_getElem? hq
      rw [List.mem_replicate] at this
      rw [this.2]; trivial
theorem start_own {n : Nat} {ds : List D} {i : Nat} {d : D} : (start n ds)[i]? ≠ some (.own d) := by
  intro h
  have := List.mem_of_getElem? h
  unfold start at this
  rw [List.mem_append] at this
  rcases this with h | h
  · obtain ⟨_, _, e⟩ := List.mem_map.mp h; cases e
  · rw [List.mem_replicate] at h; cases h.2
/-- a def is as its small form says -/
theorem fn_mk {P : Program} {w : World} {mg : Str → Option Value} {base : Heap} {x qual : Str} {st : Stmt} {f : Addr} {fd : FuncData} {ps : List Str} {kx : F} {p : F → Df F} {nf : Nat} (Fk : Fun L.K x qual st f fd) (Sc : FnScope cm.N ps (defScope st))
    (hnp : cm.np kx = ps.length) (hdp : (p kx).np = ps.length) (hns : (p kx).ns = cm.N.length) (hm : all2 (mS cm nf (defScope st)) (p kx).body (defBody st) = true)
    (gl : ∀ y d, cm.gl y = some d → ∃ v u, mg y = some u ∧ RelV v u ∧ ∀ Z, Rep L.K Z v d) (no : ∀ y, cm.no y = true → mg y = none)
    (fn : ∀ y k, cm.fn y = some k → ∃ a fd ps, FnOk P w L.K mg base (L2.CX P w) m a fd ps (spOf L (cm.np k) (run p m k)) ∧ mg y = some (.ref a) ∧ PySem.W.keepIn L.K (.ref a) = true ∧ Binds L.K fd ps [])
    (len : ∀ k ds, ds.length ≠ cm.np k → run p m k ds = .no)
    (tl : cm.tl = true → TlOk L L.K mg ∧ ∃ c P, fd.code = .ref c ∧ LamX.TabB base mg c P ∧ (P, (qual ++ ".<locals>.") ++ "<lambda>") ∈ L.T ∧ ∀ p ∈ L.T, p.1 = P → p.2 = (qual ++ ".<locals>.") ++ "<lambda>")
    (fn2 : (∃ m', m = m' + 2 ∧ (∀ y k, cm.fn y = some k → ∃ a fd ps, FnOk P w L.K mg base (L2.CX P w) m' a fd ps (spOf L (cm.np k) (run p m' k)) ∧ mg y = some (.ref a) ∧ PySem.W.keepIn L.K (.ref a) = true ∧ Binds L.K fd ps []) ∧ ∀ k ds, ds.length ≠ cm.np k → run p m' k ds = .no) ∨ m < 2)
    (rai : ∀ y x, cm.exn y = some x → ∃ C, mg y = some (.ref C) ∧ (∀ H, ExR L.ca x (.ref C) none H) ∧ PySem.W.excIn L.K C [.type "ValueError", .type "Exception", .type "BaseException", .type "object"] "ValueError.__new__" = true ∧ PySem.W.keepIn L.K (.ref C) = true ∧
      PySem.W.subIn L.K (.ref C) (.type "BaseException") = some true ∧ PySem.W.typeIn L.K (.ref C) = some (.type "type")) :
    FnOk P w L.K mg base (L2.CX P w) (m + 1) f fd ps (spOf L (cm.np kx) (run p (m + 1) kx)) := by
  obtain ⟨oc, od, kV, doc, pm, an, cdv, ct, osl, hfd, lk, hcd⟩ := Fk.ex
  subst hfd
  refine fn_of lk hcd Sc (fun vs H Q E h => by rw [h.1, hnp]) fun A outer s H vs Q E hr h => ?_
  obtain ⟨hl, Z, ds, g, rl, q⟩ := h
  let X : Cx := cxOf (L2.CX P w) P w L.K mg base cm.N qual (defScope st) f cdv A outer s H E
  have ecd : X.env.code = cdv := rfl
  have eq : X.env.qual = qual ++ ".<locals>." := rfl
  have o : XOk cm L (tbOf p m) m X E := by
    refine ⟨rfl, rfl, Sc.nd, rfl, hr, gl, no, fn, len, takes_of rfl rfl rfl rfl, fun h => ?_, ?_, rai⟩
    · obtain ⟨a, c, P, e1, e2, e3, e4⟩ := tl h
      rw [ecd, eq]
      exact ⟨a, c, P, e1, e2, e3, e4⟩
    rcases fn2 with ⟨m', rfl, f2, l2⟩ | h2
    · refine .inl ⟨m', rfl, ?_⟩
      rw [show (tbOf p (m' + 2)).c2 = run p m' from runs_two p m']
      exact ⟨f2, l2⟩
    · refine .inr fun k ds => ?_
      match m, h2 with
      | 0, _ => exact rfl
      | 1, _ => exact rfl
  have k : SOk X := ⟨fun _ => rfl, passes_of (K := fun e s'' => L2.CX P w outer H s E e s'') rfl, Sc.kind⟩
  refine ⟨_, pss_all (L := L) (W := E) (Z0 := Z) (H0 := H) (X := X) (t := tbOf p m) (fun s st hs => mS_ok nf _ s st hs X E o k rfl Z H) hm, ?_⟩
  have en : EnvW L.K Z H (L2.start cm.N vs) (start cm.N.length ds) := start_env rl
  refine ⟨Z, start cm.N.length ds, ⟨g, Ext.refl _ _, en, fun i d hd => absurd hd start_own, fun i j d d' q hd => absurd hd start_own⟩, ?_⟩
  rw [run_succ] at q
  unfold exe at q
  rw [if_pos (by rw [← rl.length, hl, hnp, hdp]), hns] at q
  show GotS L E Z H Z (exs (tbOf p m) (p kx).body (start cm.N.length ds)) _
  revert q
  cases exs (tbOf p m) (p kx).body (start cm.N.length ds) with
  | ok oo =>
    cases oo with
    | nx r => exact fun q σ H' Z' s' le => q _ H' Z' s'.g s'.x (.inl .non)
    | rt d => exact fun q v H' Z' g' x' rv => q v H' Z' g' x' (.inl rv)
  | ex e => exact fun q => q
  | no => exact fun q => q
end
end Mk
end
section
set_option Elab.async false
set_option linter.all false
set_option maxRecDepth 100000
set_option maxHeartbeats 4000000
namespace Mk
open PySem PySem.Spec PyProof.Rows L2

structure Pg (F : Type) where
  df : F → Df F
  nm : F → Str
  N : F → List Str
  ps : F → List Str
  st : F → Stmt
  gl : List (Str × D)
  no : List Str
  fn : Str → Option F
  tl : F → Bool
  exn : List (Str × Ex)
def Pg.cm {F : Type} (P : Pg F) (k : F) : Cm F := ⟨P.N k, fun y => P.gl.lookup y, fun y => P.no.contains y, P.fn, fun j => (P.ps j).length, P.tl k, fun y => P.exn.lookup y⟩
def scC (N ps : List Str) (sc : Scope) : Bool :=
  decide (sc.kind = .function) && (!sc.isCoroutine && (!sc.isGenerator && (decide N.Nodup && (decide (N.take ps.length = ps) &&
    (ps.all (fun x => decide (sc.names.lookup x = some .local) || decide (sc.names.lookup x = some .cell)) && sc.names.all (fun y => decide (y.2 ≠ .free)))))))
theorem sc_of {N ps : List Str} {sc : Scope} (h : scC N ps sc = true) : FnScope N ps sc := by
  unfold scC at h
  simp only [Bool.and_eq_true, decide_eq_true_eq, Bool.not_eq_true', List.all_eq_true, Bool.or_eq_true] at h
  obtain ⟨h1, h2, h3, h4, h5, h6, h7⟩ := h
  exact ⟨h1, h2, h3, h4, h5, h6, h7⟩
def Pg.ok1 {F : Type} [DecidableEq F] (P : Pg F) (k : F) : Bool :=
  (decide ((P.df k).np = (P.ps k).length) && decide ((P.df k).ns = (P.N k).length)) && (scC (P.N k) (P.ps k) (defScope (P.st k)) && all2 (mS (P.cm k) 60 (defScope (P.st k))) (P.df k).body (defBody (P.st k)))
theorem fn_zero {P : Program} {w : World} {K : PySem.W.Frag} {mg : Str → Option Value} {base : Heap} {CX : CXT} {f : Addr} {fd : FuncData} {ps : List Str} {L : Law} {np : Nat} {g : List D → R D} (hn : np = ps.length) (h : ∀ ds, g ds = .no) : FnOk P w K mg base CX 0 f fd ps (spOf L np g) := by
  refine ⟨fun vs H Q E q => by rw [q.1, hn], fun A outer s H args us vs Q E _ _ _ _ q => ?_⟩
  obtain ⟨_, Z, ds, _, _, q⟩ := q
  rw [h] at q
  exact q.elim
section
variable {F : Type} [DecidableEq F] {p : Pg F} {L : Law} {P : Program} {w : World} {mg : Str → Option Value} {base : Heap}
theorem run_len (hk : ∀ k, (p.df k).np = (p.ps k).length) : ∀ (m : Nat) (k : F) (ds : List D), ds.length ≠ (p.ps k).length → run p.df m k ds = .no
  | 0, k, ds, _ => run_zero _ _ _
  | m + 1, k, ds, h => by
    rw [run_succ]
    unfold exe
    rw [if_neg (by rw [hk]; exact h)]
/-- what a law's lambdas ask of a def -/
def TlFd (L : Law) (base : Heap) (mg : Str → Option Value) (nm : Str) (fd : FuncData) : Prop := TlOk L L.K mg ∧ ∃ c P, fd.code = .ref c ∧ LamX.TabB base mg c P ∧ (P, (nm ++ ".<locals>.") ++ "<lambda>") ∈ L.T ∧ ∀ p ∈ L.T, p.1 = P → p.2 = (nm ++ ".<locals>.") ++ "<lambda>"
def RaiOk (L : Law) (mg : Str → Option Value) (y : Str) (x : Ex) : Prop := ∃ C, mg y = some (.ref C) ∧ (∀ H, ExR L.ca x (.ref C) none H) ∧ PySem.W.excIn L.K C [.type "ValueError", .type "Exception", .type "BaseException", .type "object"] "ValueError.__new__" = true ∧ PySem.W.keepIn L.K (.ref C) = true ∧
  PySem.W.subIn L.K (.ref C) (.type "BaseException") = some true ∧ PySem.W.typeIn L.K (.ref C) = some (.type "type")
theorem all_ok (ok : ∀ k, p.ok1 k = true) (fnm : ∀ y k, p.fn y = some k → p.nm k = y) (fs : ∀ k, ∃ f fd, Fun L.K (p.nm k) (p.nm k) (p.st k) f fd ∧ Binds L.K fd (p.ps k) [] ∧ mg (p.nm k) = some (.ref f) ∧ (p.tl k = true → TlFd L base mg (p.nm k) fd))
    (gl : ∀ y d, p.gl.lookup y = some d → ∃ v u, mg y = some u ∧ RelV v u ∧ ∀ Z, Rep L.K Z v d) (no : ∀ y, p.no.contains y = true → mg y = none) (rai : ∀ y x, p.exn.lookup y = some x → RaiOk L mg y x) :
    ∀ (m : Nat) (k : F) (f : Addr) (fd : FuncData), Fun L.K (p.nm k) (p.nm k) (p.st k) f fd → (p.tl k = true → TlFd L base mg (p.nm k) fd) → FnOk P w L.K mg base (L2.CX P w) m f fd (p.ps k) (spOf L (p.ps k).length (run p.df m k)) := by
  intro m
  induction m using Nat.strongRecOn with
  | ind m ih =>
  intro k f fd Fk tl
  match m, ih with
  | 0, _ => exact fn_zero rfl fun ds => run_zero _ _ _
  | m + 1, ih =>
    have o := ok k
    unfold Pg.ok1 at o
    obtain ⟨o1, o2⟩ := and2 o
    obtain ⟨o1, o3⟩ := and2 o1
    obtain ⟨o2, o4⟩ := and2 o2
    have hk : ∀ k, (p.df k).np = (p.ps k).length := fun k => by
      have o := ok k
      unfold Pg.ok1 at o
      exact of_decide_eq_true (and2 (and2 o).1).1
    have rcc : ∀ n, n < m + 1 → ∀ y j, (p.cm k).fn y = some j → ∃ a fd ps, FnOk P w L.K mg base (L2.CX P w) n a fd ps (spOf L ((p.cm k).np j) (run p.df n j)) ∧ mg y = some (.ref a) ∧ PySem.W.keepIn L.K (.ref a) = true ∧ Binds L.K fd ps [] := fun n hn y j hy => by
      obtain ⟨f', fd', F1, F2, F3, F4⟩ := fs j
      refine ⟨f', fd', p.ps j, ih n hn j f' fd' F1 F4, ?_, F1.kp, F2⟩
      rw [← fnm y j hy]; exact F3
    refine fn_mk (cm := p.cm k) (L := L) (kx := k) (p := p.df) Fk (sc_of o2) rfl (hk k) (of_decide_eq_true o3) o4 gl no (rcc m (by omega)) (run_len hk m) tl ?_ rai
    rcases Nat.lt_or_ge m 2 with h2 | h2
    · exact .inr h2
    · exact .inl ⟨m - 2, by omega, rcc (m - 2) (by omega), run_len hk (m - 2)⟩
/-- where a def of the text stands -/
def DefAt (K : PySem.W.Frag) (nm : Str) (st : Stmt) : Prop := ∃ (f : Addr) (oc : Value) (od : Option Addr) (kV doc pm : Value) (an : Option Addr) (cdv ct : Value) (osl : Array (Option Value)),
  PySem.W.nsIn K mainGlobals nm = some (some (.ref f)) ∧ K.lookup f = some ⟨oc, od, .func (PySem.W.fnOf nm nm (defArgs st) (defBody st) (defScope st) .none kV doc pm an cdv ct), osl⟩ ∧ PySem.W.codeIn K cdv nm = true ∧ PySem.W.keepIn K (.ref f) = true
theorem defAt_mk {K : PySem.W.Frag} {nm : Str} {st : Stmt} {f : Addr} {oc : Value} {od : Option Addr} {kV doc pm : Value} {an : Option Addr} {cdv ct : Value} {osl : Array (Option Value)}
    (a : PySem.W.nsIn K mainGlobals nm = some (some (.ref f))) (l : K.lookup f = some ⟨oc, od, .func (PySem.W.fnOf nm nm (defArgs st) (defBody st) (defScope st) .none kV doc pm an cdv ct), osl⟩) (c : PySem.W.codeIn K cdv nm = true) (k : PySem.W.keepIn K (.ref f) = true) : DefAt K nm st :=
  ⟨f, oc, od, kV, doc, pm, an, cdv, ct, osl, a, l, c, k⟩
theorem def_at {K : PySem.W.Frag} {h : Heap} {nm : Str} {st : Stmt} {ps : List Str} (X : K.In h) (G : h.Ns mainGlobals mg) (d : DefAt K nm st)
    (hb : ∀ (kV doc pm : Value) (an : Option Addr) (cdv ct : Value) (us : List Value), us.length = ps.length → bindArgs (PySem.W.fnOf nm nm (defArgs st) (defBody st) (defScope st) .none kV doc pm an cdv ct) ⟨us, []⟩ = pure (ps.zip us)) :
    ∃ f fd, Fun K nm nm st f fd ∧ Binds K fd ps [] ∧ mg nm = some (.ref f) := by
  obtain ⟨f, oc, od, kV, doc, pm, an, cdv, ct, osl, a, l, c, k⟩ := d
  have F1 := fun_mk (st := st) l c k
  exact ⟨f, _, F1, F1.binds hb, PySem.W.mg_of X G a⟩
/-- a constant of the module -/
def isK : D → Value → Bool
  | .str x, .str s _ => s.cps.toList == x && okK x
  | .int i, .int j _ => i == j
  | _, _ => false
def KAt (K : PySem.W.Frag) (nm : Str) (d : D) : Prop := ∃ u, PySem.W.nsIn K mainGlobals nm = some (some u) ∧ isK d u = true
theorem kAt_mk {K : PySem.W.Frag} {nm : Str} {d : D} {u : Value} (a : PySem.W.nsIn K mainGlobals nm = some (some u)) (h : isK d u = true) : KAt K nm d := ⟨u, a, h⟩
theorem k_at {K : PySem.W.Frag} {h : Heap} {nm : Str} {d : D} (X : K.In h) (G : h.Ns mainGlobals mg) (k : KAt K nm d) : ∃ v u, mg nm = some u ∧ RelV v u ∧ ∀ Z, Rep K Z v d := by
  obtain ⟨u, e, hu⟩ := k
  have m := PySem.W.mg_of X G e
  unfold isK at hu
  split at hu
  · obtain ⟨h1, h2⟩ := and2 hu
    obtain ⟨h2, h3⟩ := and2 h2
    rw [str_of h1] at m
    exact ⟨.str (toS _), _, m, ⟨_, rfl⟩, fun Z => .str (of_decide_eq_true h2) h3⟩
  · rw [← beq_iff_eq.mp hu] at m
    exact ⟨.int _, _, m, ⟨_, rfl⟩, fun Z => .int _⟩
  · cases hu
/-- the script, at the law's entry -/
theorem law_in {L : Law} {H : Hp} {a : Addr} {ns : List Int} {g : List D → R D} (hT : L.T = []) (hO : Only H) (hS : SqL L.K H a (ns.map V.int)) (hl : ns.length ≤ 63) (h : g [.scr ns] = .ok (.bl true)) :
    spOf L 1 g [.ref a] H (fun v _ => v = .bl true) fun _ _ _ => False := by
  refine ⟨rfl, H, [.scr ns], ⟨fun _ _ h => h, ?_, fun b ps e => ?_⟩, .cons (.scr hS (by unfold LIM; omega)) .nil, ?_⟩
  · rw [hT]; intro p hp; cases hp
  · rcases hO b with h | ⟨o, xs, h⟩ <;> (rw [h] at e; cases e)
  · rw [h]
    intro v H' Z' g' x' rv
    exact rep_bl rv
theorem cx_end {P : Program} {w : World} {H : Hp} {s s' : Shared} {e : Value} (h : L2.CX P w [] H s (fun _ _ _ => False) e s') : False := by
  obtain ⟨_, _, _, _, _, _, _, _, _, _, _, _, z⟩ := h
  exact z
end
end Mk
end
section
set_option Elab.async false
set_option linter.all false
set_option maxRecDepth 100000
set_option maxHeartbeats 4000000
namespace Mk
open PySem PySem.Spec PyProof.Rows L2

theorem walk_top {l : PySem.W.OpenLaw} {n k : Nat} {q : Program} {loose : List Str} {XP : (Str → Option Value) → Heap → Prop} {YP : World → Heap → Prop} {d : DefRec} {K : Params → PySem.W.Frag} {x : Str}
    (hn : l.most = some n) (hn2 : n ≤ sizeLine) (hdf : d.params.defaults = []) (hr : Room k callerA) (hY : ∀ (w : World) (h : Heap), YP w h → (K w.params).In h)
    (F : ∀ (w : World) (mg mb : Str → Option Value) (fa : Addr) (h : Heap) (mean : ExcName → Option Value), Top q (PySem.W.looseW q loose) mean mg mb h → (K w.params).In h → mg d.name = some (.ref fa) → LamX.LawAtS l w (K w.params) (L2.CX l.prog w) k n x mg fa h) :
    PySem.W.WalkO q loose XP YP l.row.toRowW d [] (fun f vs => PySem.call f vs) := by
  refine Att.attach_callB hn hdf fun w sA sB mg mb fa o pm cd doc a vs ns G Y z1 z2 z3 hmg z4 z5 z6 z7 z8 => ?_
  have kx := hY w _ Y
  obtain ⟨fd, cs, sp, y1, y2, y3, y4, y5, y6⟩ := F w mg mb fa _ _ G.T kx hmg
  exact LamX.law_callTs kx G.T.g G.T.b G.T.builtins G.T.nolimit z8 y1 y2 y3 G.T.bmain z4 z5 (Nat.le_trans z6 hn2) hr y6 y4 (fun H u v => y5 H a ns z6 z7 u v) fun H e s' z => cx_end z
/-- the classes' facts -/
structure XF (K : PySem.W.Frag) (C : Addr) : Prop where
  hg : PySem.W.findIn K (.ref C) "__getattribute__" = some (some (.builtin "BaseException.__getattribute__"))
  hk : PySem.W.findIn K (.ref C) "__getattr__" = some none
  hs : PySem.W.subIn K (.ref C) (.type "BaseException") = some true
  hd : PySem.W.hasDictIn K C = true
  ha : PySem.W.findIn K (.ref C) "__class__" = some (some (.builtin "object.__class__"))
  hm : PySem.W.mroIn K C (.type "object") = some true
  hv : PySem.W.subIn K (.ref C) (.type "ValueError") = some true
  ty : PySem.W.typeIn K (.ref C) = some (.type "type")
  kp : PySem.W.keepIn K (.ref C) = true
structure CF (K : PySem.W.Frag) : Prop where
  hn : PySem.W.specialIn K (.builtin "object.__class__") "__get__" = some (some (.builtin "getset_descriptor.__get__"))
  ht : PySem.W.takesIn K (.builtin "object.__class__") = some true
abbrev excOk (K : PySem.W.Frag) (C : Addr) : Prop := PySem.W.excIn K C [.type "ValueError", .type "Exception", .type "BaseException", .type "object"] "ValueError.__new__" = true
/-- a def with lambdas: its code object and table -/
structure LamF (K : PySem.W.Frag) (q : Program) (nm : Str) (c P : Addr) : Prop where
  tab : PySem.W.tabIn K nm = some (c, P)
  out : K.lookup P = none
  rcd : ((recsOf q).any fun e => e.name == nm) = true
theorem tabIn_mk {K : PySem.W.Frag} {nm : Str} {f c P : Addr} {oc oc2 : Value} {od od2 : Option Addr} {fd : FuncData} {osl os2 : Array (Option Value)} {vs : Array Value} (a : PySem.W.nsIn K mainGlobals nm = some (some (.ref f))) (l : K.lookup f = some ⟨oc, od, .func fd, osl⟩) (hc : fd.code = .ref c) (l2 : K.lookup c = some ⟨oc2, od2, .fields vs, os2⟩) (hv : vs[11]? = some (.ref P)) : PySem.W.tabIn K nm = some (c, P) := by
  unfold PySem.W.tabIn
  rw [a]
  simp only [l, hc, l2, hv]
structure ToldC (K : PySem.W.Frag) (C0 C1 C2 C3 C4 M : Addr) : Prop where
  n0 : PySem.W.nsIn K mainGlobals "NoPart" = some (some (.ref C0))
  n1 : PySem.W.nsIn K mainGlobals "NoValue" = some (some (.ref C1))
  n2 : PySem.W.nsIn K mainGlobals "BadChange" = some (some (.ref C2))
  n3 : PySem.W.nsIn K mainGlobals "NoStep" = some (some (.ref C3))
  n4 : PySem.W.nsIn K mainGlobals "BadText" = some (some (.ref C4))
  nM : PySem.W.nsIn K mainGlobals "MarkError" = some (some (.ref M))
  nI : PySem.W.nsIn K mainGlobals "isinstance" = some none
  nV : PySem.W.nsIn K mainGlobals "ValueError" = some none
  x0 : XF K C0
  x1 : XF K C1
  x2 : XF K C2
  x3 : XF K C3
  d4 : PySem.W.hasDictIn K C4 = true
  t4 : PySem.W.typeIn K (.ref C4) = some (.type "type")
  sM : PySem.W.subIn K (.ref M) (.type "BaseException") = some true
  dM : PySem.W.hasDictIn K M = true
  tM : PySem.W.typeIn K (.ref M) = some (.type "type")
  m0 : PySem.W.subIn K (.ref C0) (.ref M) = some true
  m1 : PySem.W.subIn K (.ref C1) (.ref M) = some true
  m2 : PySem.W.subIn K (.ref C2) (.ref M) = some true
  m3 : PySem.W.subIn K (.ref C3) (.ref M) = some true
  s01 : PySem.W.subIn K (.ref C0) (.ref C1) = some false
  s02 : PySem.W.subIn K (.ref C0) (.ref C2) = some false
  s03 : PySem.W.subIn K (.ref C0) (.ref C3) = some false
  s04 : PySem.W.subIn K (.ref C0) (.ref C4) = some false
  s10 : PySem.W.subIn K (.ref C1) (.ref C0) = some false
  s12 : PySem.W.subIn K (.ref C1) (.ref C2) = some false
  s13 : PySem.W.subIn K (.ref C1) (.ref C3) = some false
  s14 : PySem.W.subIn K (.ref C1) (.ref C4) = some false
  s20 : PySem.W.subIn K (.ref C2) (.ref C0) = some false
  s21 : PySem.W.subIn K (.ref C2) (.ref C1) = some false
  s23 : PySem.W.subIn K (.ref C2) (.ref C3) = some false
  s24 : PySem.W.subIn K (.ref C2) (.ref C4) = some false
  s30 : PySem.W.subIn K (.ref C3) (.ref C0) = some false
  s31 : PySem.W.subIn K (.ref C3) (.ref C1) = some false
  s32 : PySem.W.subIn K (.ref C3) (.ref C2) = some false
  s34 : PySem.W.subIn K (.ref C3) (.ref C4) = some false
  cf : CF K
  nd : [C0, C1, C2, C3, C4].Nodup
  e0 : PySem.W.excIn K C0 [.type "ValueError", .type "Exception", .type "BaseException", .type "object"] "ValueError.__new__" = true
  e1 : PySem.W.excIn K C1 [.type "ValueError", .type "Exception", .type "BaseException", .type "object"] "ValueError.__new__" = true
  e2 : PySem.W.excIn K C2 [.type "ValueError", .type "Exception", .type "BaseException", .type "object"] "ValueError.__new__" = true
  e3 : PySem.W.excIn K C3 [.type "ValueError", .type "Exception", .type "BaseException", .type "object"] "ValueError.__new__" = true
def caOf (C0 C1 C2 C3 C4 : Addr) : Nat → Addr
  | 0 => C0
  | 1 => C1
  | 2 => C2
  | 3 => C3
  | _ => C4
theorem XF.exc {K : PySem.W.Frag} {C : Addr} (x : XF K C) (c : CF K) : ExcC K C := ⟨x.hg, x.hk, x.hs, x.hd, x.ha, c.hn, c.ht, x.hm⟩
theorem kit_self {K : PySem.W.Frag} {C : Addr} : PySem.W.kitOne K (.ref C) (.ref C) = some true := by
  unfold PySem.W.kitOne
  rw [if_pos (by simp)]
theorem kit_no {K : PySem.W.Frag} {D C : Addr} {b : Bool} (hd : PySem.W.hasDictIn K C = true) (ty : PySem.W.typeIn K (.ref C) = some (.type "type")) (hne : D ≠ C) (h : PySem.W.subIn K (.ref D) (.ref C) = some b) : PySem.W.kitOne K (.ref D) (.ref C) = some b := by
  obtain ⟨cd, hc, _⟩ := PySem.W.any_some hd
  unfold PySem.W.kitOne PySem.W.kitCls
  rw [if_neg (by simpa using hne)]
  simp only [hc, ty, h]
  simp
theorem kit_val {K : PySem.W.Frag} {D : Addr} (h : PySem.W.subIn K (.ref D) (.type "ValueError") = some true) : PySem.W.kitOne K (.ref D) (.type "ValueError") = some true := by
  unfold PySem.W.kitOne PySem.W.kitCls
  rw [if_neg (by simp)]
  simp only [h]
  rw [if_pos (by decide +kernel)]
theorem cls_of {K : PySem.W.Frag} {C0 C1 C2 C3 C4 M : Addr} {h : Heap} {mg : Str → Option Value} (X : K.In h) (G : h.Ns mainGlobals mg) (t : ToldC K C0 C1 C2 C3 C4 M) : ClsOk (caOf C0 C1 C2 C3 C4) K mg := by
  have nd := t.nd
  simp only [List.nodup_cons, List.mem_cons, List.not_mem_nil, or_false, not_or, List.nodup_nil, and_true, not_false_eq_true] at nd
  obtain ⟨⟨n01, n02, n03, n04⟩, ⟨n12, n13, n14⟩, ⟨n23, n24⟩, n34⟩ := nd
  refine ⟨⟨M, PySem.W.mg_of X G t.nM, fun i hi => ?_⟩, PySem.W.mg_of X G t.n0, PySem.W.mg_of X G t.n1, PySem.W.mg_of X G t.n2, PySem.W.mg_of X G t.n3, PySem.W.mg_of X G t.n4, fun i j hi hj => ?_, fun i hi => ?_, fun i hi => ?_, PySem.W.mg_none_of X G t.nI, PySem.W.mg_none_of X G t.nV⟩
  · rcases i with _ | _ | _ | _ | i
    · exact PySem.W.exm_ref t.sM t.dM t.tM t.m0
    · exact PySem.W.exm_ref t.sM t.dM t.tM t.m1
    · exact PySem.W.exm_ref t.sM t.dM t.tM t.m2
    · exact PySem.W.exm_ref t.sM t.dM t.tM t.m3
    · omega
  · rcases i with _ | _ | _ | _ | i
    · rcases j with _ | _ | _ | _ | _ | j
      · exact kit_self
      · exact kit_no t.x1.hd t.x1.ty n01 t.s01
      · exact kit_no t.x2.hd t.x2.ty n02 t.s02
      · exact kit_no t.x3.hd t.x3.ty n03 t.s03
      · exact kit_no t.d4 t.t4 n04 t.s04
      · omega
    · rcases j with _ | _ | _ | _ | _ | j
      · exact kit_no t.x0.hd t.x0.ty (Ne.symm n01) t.s10
      · exact kit_self
      · exact kit_no t.x2.hd t.x2.ty n12 t.s12
      · exact kit_no t.x3.hd t.x3.ty n13 t.s13
      · exact kit_no t.d4 t.t4 n14 t.s14
      · omega
    · rcases j with _ | _ | _ | _ | _ | j
      · exact kit_no t.x0.hd t.x0.ty (Ne.symm n02) t.s20
      · exact kit_no t.x1.hd t.x1.ty (Ne.symm n12) t.s21
      · exact kit_self
      · exact kit_no t.x3.hd t.x3.ty n23 t.s23
      · exact kit_no t.d4 t.t4 n24 t.s24
      · omega
    · rcases j with _ | _ | _ | _ | _ | j
      · exact kit_no t.x0.hd t.x0.ty (Ne.symm n03) t.s30
      · exact kit_no t.x1.hd t.x1.ty (Ne.symm n13) t.s31
      · exact kit_no t.x2.hd t.x2.ty (Ne.symm n23) t.s32
      · exact kit_self
      · exact kit_no t.d4 t.t4 n34 t.s34
      · omega
    · omega
  · rcases i with _ | _ | _ | _ | i
    · exact kit_val t.x0.hv
    · exact kit_val t.x1.hv
    · exact kit_val t.x2.hv
    · exact kit_val t.x3.hv
    · omega
  · rcases i with _ | _ | _ | _ | i
    · exact t.x0.exc t.cf
    · exact t.x1.exc t.cf
    · exact t.x2.exc t.cf
    · exact t.x3.exc t.cf
    · omega
/-- the refusals by their names -/
def exnAll : List (Str × Ex) := [("NoPart", .noPart), ("NoValue", .noValue), ("BadChange", .badChange), ("NoStep", .noStep)]
theorem rai_of {K : PySem.W.Frag} {T : List (Addr × Str)} {C0 C1 C2 C3 C4 M : Addr} {h : Heap} {mg : Str → Option Value} (X : K.In h) (G : h.Ns mainGlobals mg) (t : ToldC K C0 C1 C2 C3 C4 M) (y : Str) (x : Ex) (hy : exnAll.lookup y = some x) : RaiOk ⟨T, K, caOf C0 C1 C2 C3 C4⟩ mg y x := by
  unfold exnAll at hy
  simp only [List.lookup_cons, List.lookup_nil] at hy
  repeat' split at hy
  · rename_i e; cases hy; rw [beq_iff_eq.mp e]; exact ⟨C0, PySem.W.mg_of X G t.n0, fun H => ⟨rfl, rfl⟩, t.e0, t.x0.kp, t.x0.hs, t.x0.ty⟩
  · rename_i e; cases hy; rw [beq_iff_eq.mp e]; exact ⟨C1, PySem.W.mg_of X G t.n1, fun H => ⟨rfl, rfl⟩, t.e1, t.x1.kp, t.x1.hs, t.x1.ty⟩
  · rename_i e; cases hy; rw [beq_iff_eq.mp e]; exact ⟨C2, PySem.W.mg_of X G t.n2, fun H => ⟨rfl, rfl⟩, t.e2, t.x2.kp, t.x2.hs, t.x2.ty⟩
  · rename_i e; cases hy; rw [beq_iff_eq.mp e]; exact ⟨C3, PySem.W.mg_of X G t.n3, fun H => ⟨rfl, rfl⟩, t.e3, t.x3.kp, t.x3.hs, t.x3.ty⟩
  · cases hy
/-- the def told, as the text has it -/
def toldC (st : Stmt) : Bool := isTold (defBody st) && (tScope (defScope st) && scC tN ["deed"] (defScope st))
theorem tl_of {K : PySem.W.Frag} {T : List (Addr × Str)} {C0 C1 C2 C3 C4 M : Addr} {h : Heap} {mg : Str → Option Value} {st : Stmt} (X : K.In h) (G : h.Ns mainGlobals mg) (t : ToldC K C0 C1 C2 C3 C4 M) (hd : DefAt K "_law_told" st) (hc : toldC st = true)
    (hb : ∀ (kV doc pm : Value) (an : Option Addr) (cdv ct : Value) (us : List Value), us.length = 1 → bindArgs (PySem.W.fnOf "_law_told" "_law_told" (defArgs st) (defBody st) (defScope st) .none kV doc pm an cdv ct) ⟨us, []⟩ = pure ((["deed"] : List Str).zip us)) : TlOk ⟨T, K, caOf C0 C1 C2 C3 C4⟩ K mg := by
  refine ⟨cls_of X G t, ?_⟩
  obtain ⟨f, oc, od, kV, doc, pm, an, cdv, ct, osl, a, l, c, k⟩ := hd
  unfold toldC at hc
  obtain ⟨h1, h2⟩ := and2 hc
  obtain ⟨h2, h3⟩ := and2 h2
  have F1 := fun_mk (st := st) l c k
  exact ⟨f, oc, od, defArgs st, defBody st, defScope st, kV, doc, pm, an, cdv, ct, osl, PySem.W.mg_of X G a, k, l, c, F1.binds hb, sc_of h3, h1, h2⟩
/-- a def's code object -/
theorem code_of {K : PySem.W.Frag} {nm : Str} {f c P : Addr} {oc : Value} {od : Option Addr} {fd : FuncData} {osl : Array (Option Value)} (a : PySem.W.nsIn K mainGlobals nm = some (some (.ref f))) (l : K.lookup f = some ⟨oc, od, .func fd, osl⟩) (t : PySem.W.tabIn K nm = some (c, P)) : fd.code = .ref c := by
  unfold PySem.W.tabIn at t
  rw [a] at t
  simp only [l] at t
  cases hc : fd.code with
  | ref x =>
    rw [hc] at t
    simp only at t
    split at t
    · split at t
      · cases t; rfl
      · cases t
    · cases t
  | _ => rw [hc] at t; cases t
theorem lam_hd {K : PySem.W.Frag} {q : Program} {loose : List Str} {mean : ExcName → Option Value} {mg mb : Str → Option Value} {h : Heap} {nm : Str} {c P : Addr} (T : Top q loose mean mg mb h) (X : K.In h) (x : LamF K q nm c P) : PySem.W.CodeHd h c P ∧ h.get? P = some { cls := .none, data := .fields #[] } := by
  obtain ⟨d, hd, hn⟩ := List.any_eq_true.mp x.rcd
  cases hf : (recsOf q).find? (fun e => e.name == nm) with
  | none => exact absurd hn (by simpa using List.find?_eq_none.mp hf d hd)
  | some d' => exact PySem.W.tab_of T X hf x.tab

theorem nodup_inj {α β : Type} (f : α → β) : ∀ {l : List α}, (l.map f).Nodup → ∀ a ∈ l, ∀ b ∈ l, f a = f b → a = b
  | [], _, a, ha, _, _, _ => by cases ha
  | x :: r, h, a, ha, b, hb, e => by
    rw [List.map_cons, List.nodup_cons] at h
    rcases List.mem_cons.mp ha with e1 | h1
    · rcases List.mem_cons.mp hb with e2 | h2
      · rw [e1, e2]
      · rw [e1] at e
        exact absurd (List.mem_map.mpr ⟨b, h2, e.symm⟩) h.1
    · rcases List.mem_cons.mp hb with e2 | h2
      · rw [e2] at e
        exact absurd (List.mem_map.mpr ⟨a, h1, e⟩) h.1
      · exact nodup_inj f h.2 a h1 b h2 e
/-- the tables left out -/
def noTbl (H : Hp) : Hp := fun a => match H a with
  | some (.tbl _) => none
  | o => o
theorem noTbl_of {H : Hp} {a : Addr} {o : HO} (h : H a = some o) (n : ∀ ps, o ≠ .tbl ps) : noTbl H a = some o := by
  unfold noTbl
  rw [h]
  cases o <;> first | rfl | exact absurd rfl (n _)
theorem noTbl_sub {H : Hp} {a : Addr} {o : HO} (h : noTbl H a = some o) : H a = some o ∧ ∀ ps, o ≠ .tbl ps := by
  unfold noTbl at h
  cases hh : H a with
  | none => rw [hh] at h; cases h
  | some u =>
    rw [hh] at h
    cases u <;> first | (cases h; done) | (cases h; exact ⟨rfl, fun _ z => nomatch z⟩)
theorem law_inT {L : Law} {H : Hp} {a : Addr} {ns : List Int} {g : List D → R D} (hT : ∀ p ∈ L.T, H p.1 = some (.tbl #[])) (hS : SqL L.K H a (ns.map V.int)) (hl : ns.length ≤ 63) (h : g [.scr ns] = .ok (.bl true)) :
    spOf L 1 g [.ref a] H (fun v _ => v = .bl true) fun _ _ _ => False := by
  refine ⟨rfl, noTbl H, [.scr ns], ⟨fun b o z => (noTbl_sub z).1, fun p hp => LamX.TabS.nil (hT p hp), fun b ps z => (noTbl_sub z).2 ps rfl⟩, .cons (.scr ?_ (by unfold LIM; omega)) .nil, ?_⟩
  · rcases hS with (z | ⟨o, z⟩) | z
    · exact .inl (.inl (noTbl_of z (fun _ q => nomatch q)))
    · exact .inl (.inr ⟨o, noTbl_of z (fun _ q => nomatch q)⟩)
    · exact .inr z
  · rw [h]
    intro v H' Z' g' x' rv
    exact rep_bl rv
theorem law_T {F : Type} [DecidableEq F] {p : Pg F} {kl : F} {l : PySem.W.OpenLaw} {w : World} {K : PySem.W.Frag} {q : Program} {loose : List Str} {mean : ExcName → Option Value} {mg mb : Str → Option Value} {h : Heap} {fa C0 C1 C2 C3 C4 M : Addr} {stT : Stmt} {lams : List (Str × Addr × Addr)}
    (T : Top q loose mean mg mb h) (X : K.In h) (hfa : mg (p.nm kl) = some (.ref fa)) (hps : p.ps kl = [("script" : Str)]) (ok : ∀ k, p.ok1 k = true) (fnm : ∀ y k, p.fn y = some k → p.nm k = y) (defs : ∀ k, DefAt K (p.nm k) (p.st k))
    (bind : ∀ k (kV doc pm : Value) (an : Option Addr) (cdv ct : Value) (us : List Value), us.length = (p.ps k).length → bindArgs (PySem.W.fnOf (p.nm k) (p.nm k) (defArgs (p.st k)) (defBody (p.st k)) (defScope (p.st k)) .none kV doc pm an cdv ct) ⟨us, []⟩ = pure ((p.ps k).zip us))
    (gl : ∀ y d, p.gl.lookup y = some d → KAt K y d) (no : ∀ y, p.no.contains y = true → PySem.W.nsIn K mainGlobals y = some none) (exn : p.exn = exnAll)
    (t : ToldC K C0 C1 C2 C3 C4 M) (hd : DefAt K "_law_told" stT) (hc : toldC stT = true)
    (hb : ∀ (kV doc pm : Value) (an : Option Addr) (cdv ct : Value) (us : List Value), us.length = 1 → bindArgs (PySem.W.fnOf "_law_told" "_law_told" (defArgs stT) (defBody stT) (defScope stT) .none kV doc pm an cdv ct) ⟨us, []⟩ = pure ((["deed"] : List Str).zip us))
    (lm : ∀ k, p.tl k = true → ∃ c P, (p.nm k, c, P) ∈ lams) (lf : ∀ e ∈ lams, LamF K q e.1 e.2.1 e.2.2) (nd : (lams.map (·.2.2)).Nodup)
    (plain : ∀ ns : List Int, ns.length ≤ 63 → run p.df 60 kl [.scr ns] = .ok (.bl true)) :
    LamX.LawAtS l w K (L2.CX l.prog w) 60 63 "script" mg fa h := by
  have G := T.g
  have fs : ∀ base : Heap, (∀ e ∈ lams.map (fun e : Str × Addr × Addr => (e.2.1, e.2.2)), LamX.TabB base mg e.1 e.2) → ∀ k, ∃ f fd, Fun K (p.nm k) (p.nm k) (p.st k) f fd ∧ Binds K fd (p.ps k) [] ∧ mg (p.nm k) = some (.ref f) ∧ (p.tl k = true → TlFd ⟨lams.map fun e => (e.2.2, (e.1 ++ ".<locals>.") ++ "<lambda>"), K, caOf C0 C1 C2 C3 C4⟩ base mg (p.nm k) fd) := by
    intro base tb k
    obtain ⟨f, oc, od, kV, doc, pm, an, cdv, ct, osl, a1, a2, a3, a4⟩ := defs k
    have F1 := fun_mk (st := p.st k) a2 a3 a4
    refine ⟨f, _, F1, F1.binds (bind k), PySem.W.mg_of X G a1, fun hk => ⟨tl_of X G t hd hc hb, ?_⟩⟩
    obtain ⟨c, P, hm⟩ := lm k hk
    refine ⟨c, P, code_of a1 a2 (lf _ hm).tab, tb (c, P) (List.mem_map.mpr ⟨_, hm, rfl⟩), List.mem_map.mpr ⟨_, hm, rfl⟩, fun pp hp e => ?_⟩
    obtain ⟨x, hx, rfl⟩ := List.mem_map.mp hp
    have := nodup_inj _ nd x hx _ hm e
    rw [this]
  obtain ⟨f, fd, F1, F2, F3⟩ : ∃ f fd, Fun K (p.nm kl) (p.nm kl) (p.st kl) f fd ∧ Binds K fd (p.ps kl) [] ∧ mg (p.nm kl) = some (.ref f) := by
    obtain ⟨f, oc, od, kV, doc, pm, an, cdv, ct, osl, a1, a2, a3, a4⟩ := defs kl
    have F1 := fun_mk (st := p.st kl) a2 a3 a4
    exact ⟨f, _, F1, F1.binds (bind kl), PySem.W.mg_of X G a1⟩
  have e := hfa.symm.trans F3
  cases e
  refine ⟨fd, lams.map (fun e : Str × Addr × Addr => (e.2.1, e.2.2)), spOf ⟨lams.map fun e => (e.2.2, (e.1 ++ ".<locals>.") ++ "<lambda>"), K, caOf C0 C1 C2 C3 C4⟩ 1 (run p.df 60 kl), fun e he => ?_, fun e he => ?_, fun e he => ?_, fun s u => ?_, fun H a ns hl _ hT hS => ?_, fun base KB NB tb => ?_⟩
  · obtain ⟨x, hx, rfl⟩ := List.mem_map.mp he
    exact (lam_hd T X (lf x hx)).2
  · obtain ⟨x, hx, rfl⟩ := List.mem_map.mp he
    exact (lf x hx).out
  · obtain ⟨x, hx, rfl⟩ := List.mem_map.mp he
    exact (lam_hd T X (lf x hx)).1
  · obtain ⟨oc, od, kV, doc, pm, an, cdv, ct, osl, rfl, _⟩ := F1.ex
    have := bind kl kV doc pm an cdv ct [u] (by rw [hps]; rfl)
    rw [hps] at this
    exact .of_eq this
  · refine law_inT (fun pp hp => ?_) hS hl (plain ns hl)
    obtain ⟨x, hx, rfl⟩ := List.mem_map.mp hp
    exact hT (x.2.1, x.2.2) (List.mem_map.mpr ⟨_, hx, rfl⟩)
  · obtain ⟨f', fd', F1', _, _, F4'⟩ := fs base tb kl
    have ho := all_ok (P := l.prog) (w := w) (p := p) (L := ⟨lams.map fun e => (e.2.2, (e.1 ++ ".<locals>.") ++ "<lambda>"), K, caOf C0 C1 C2 C3 C4⟩) (base := base) (mg := mg) ok fnm (fs base tb) (fun y d hy => k_at X G (gl y d hy)) (fun y hy => PySem.W.mg_none_of X G (no y hy)) (fun y x hy => rai_of X G t y x (by rw [← exn]; exact hy)) 60 kl fa fd F1 (fun hk => ?_)
    · rw [hps] at ho; exact ho
    · obtain ⟨f2, fd2, G1, _, G3, G4⟩ := fs base tb kl
      rw [F3] at G3
      cases G3
      have : fd2 = fd := by
        obtain ⟨_, _, _, _, _, _, _, _, _, e1, l1, _⟩ := G1.ex
        obtain ⟨_, _, _, _, _, _, _, _, _, e2, l2, _⟩ := F1.ex
        rw [l1] at l2
        cases l2
        rfl
      rw [← this]; exact G4 hk
end Mk
end
section
set_option linter.all false
namespace Mk
@[simp] theorem tb_c2 {F : Type} (p : F → Df F) (n : Nat) : (tbOf p (n + 2)).c2 = run p n := by
  show (runs p (n + 2)).2.2 = (runs p n).1
  exact runs_two p n
@[simp] theorem tb_c {F : Type} (p : F → Df F) (n : Nat) : (tbOf p n).c = run p n := Eq.trans (Eq.refl _) (Eq.refl _)
section
variable {F : Type} {t : Tb F} {r : List Slot} {pk : Bool}
theorem e_var {i : Nat} : ev t (.var i : E F) pk r = (match r[i]? with | some (.val d) => .ok d | some (.own d) => if pk then .ok d else .no | _ => .no) := by rw [ev] <;> exact Eq.trans (Eq.refl _) (Eq.refl _)
theorem e_kst {d : D} : ev t (.kst d : E F) pk r = .ok d := by rw [ev]
theorem e_tup {es : List (E F)} : ev t (.tup es) pk r = (do let ds ← evs t es false r; .ok (.tup ds)) := by rw [ev]
theorem e_lst {es : List (E F)} : ev t (.lst es) pk r = (do let ds ← evs t es false r; .ok (.lst ds)) := by rw [ev]
theorem e_dnew : ev t (.dnew : E F) pk r = .ok (.dct [] []) := by rw [ev]
theorem e_bin {op : Bop} {a b : E F} : ev t (.bin op a b) pk r = (do let x ← ev t a true r; let y ← ev t b true r; binD op x y) := by rw [ev]
theorem e_neg {a : E F} {i : Int} (h : ev t a false r = .ok (.int i)) : ev t (.neg a) pk r = .ok (.int (-i)) := by rw [ev, h]; exact Eq.trans (Eq.refl _) (Eq.refl _)
theorem e_cmp {op : Cop} {a b : E F} : ev t (.cmp op a b) pk r = (do let x ← ev t a true r; let y ← ev t b true r; cmpD op x y) := by rw [ev]
theorem e_chain {op op' : Cop} {a b c : E F} {x y z : D} {k k' : Bool} (ha : ev t a true r = .ok x) (hb : ev t b true r = .ok y) (hc : ev t c true r = .ok z) (h1 : cmpD op x y = .ok (.bl k)) (h2 : cmpD op' y z = .ok (.bl k')) : ev t (.chain op op' a b c) pk r = .ok (.bl (k && k')) := by
  rw [ev, ha]
  simp only [R.ok_bind, hb, h1]
  cases k with
  | true => simp only [truth, R.ok_bind, hc, h2]; rfl
  | false => rfl
theorem e_and {a b : E F} {k : Bool} (h : ev t a false r = .ok (.bl k)) : ev t (.and a b) pk r = if k then ev t b false r else .ok (.bl false) := by
  rw [ev, h]; cases k <;> rfl
theorem e_or {a b : E F} {k : Bool} (h : ev t a false r = .ok (.bl k)) : ev t (.or a b) pk r = if k then .ok (.bl true) else ev t b false r := by
  rw [ev, h]; cases k <;> rfl
theorem e_not {a : E F} {k : Bool} (h : ev t a false r = .ok (.bl k)) : ev t (.not a) pk r = .ok (.bl (!k)) := by rw [ev, h]; rfl
theorem e_idx {a b : E F} : ev t (.idx a b) pk r = (do let x ← ev t a true r; let y ← ev t b false r; idxD x y) := by rw [ev]
theorem e_slc {a : E F} {lo hi : List (E F)} : ev t (.slc a lo hi) pk r = (do let x ← ev t a true r; let l ← evs t lo false r; let l ← part1 l; let h ← evs t hi false r; let h ← part1 h; slcD x l h) := by rw [ev]
theorem e_isa {a : E F} {ty : Ty} : ev t (.isa a ty) pk r = (do match ← ev t a true r with | .scr _ => .no | .dct _ _ => .no | .tpl _ => .no | x => .ok (.bl (isaD ty x))) := by rw [ev] <;> exact Eq.trans (Eq.refl _) (Eq.refl _)
theorem e_call {f : F} {es : List (E F)} : ev t (.call f es) pk r = (do let ds ← evs t es false r; t.c f ds) := by rw [ev]
theorem e_blt {b : Blt} {es : List (E F)} : ev t (.blt b es) pk r = (do let ds ← evs t es true r; bltD b ds) := by rw [ev]
theorem e_mth {m : Mth} {o : E F} {es : List (E F)} : ev t (.mth m o es) pk r = (do let x ← ev t o true r; if mthOk m x then (do let ds ← evs t es false r; mthD m x ds) else .no) := by rw [ev]
theorem e_told {f : F} {es : List (E F)} : ev t (.told f es) pk r = (do let ds ← evs t es false r; toldR (t.c2 f ds)) := by rw [ev]
theorem es_nil : evs t ([] : List (E F)) pk r = .ok [] := by rw [evs]
theorem es_cons {e : E F} {es : List (E F)} : evs t (e :: es) pk r = (do let d ← ev t e pk r; let ds ← evs t es pk r; .ok (d :: ds)) := by rw [evs]
def lcB (t : Tb F) (tg : Tg) (r : List Slot) (cond : List (E F)) (elt : E F) : D → R (Option D) := fun x => do
  let r' ← asg tg x r
  let cs ← evs t cond false r'
  match cs with
  | [] => do
    let y ← ev t elt false r'
    .ok (some y)
  | [c] => do
    match ← truth c with
    | true => do
      let y ← ev t elt false r'
      .ok (some y)
    | false => .ok none
  | _ => .no
theorem e_lc {tg : Tg} {k : Sk} {es cond : List (E F)} {elt : E F} : ev t (.lc tg k es cond elt) pk r = (do let src ← evs t es true r; let items ← srcD k src; let ys ← lcL (lcB t tg r cond elt) items; .ok (.lst ys)) := by
  rw [ev] <;> rfl
theorem lcB_0 {tg : Tg} {elt : E F} {x y : D} {r' : List Slot} (ha : asg tg x r = .ok r') (h : ev t elt false r' = .ok y) : lcB t tg r [] elt x = .ok (some y) := by
  unfold lcB
  rw [ha]
  simp only [R.ok_bind, es_nil, h]
theorem lcB_1 {tg : Tg} {c elt : E F} {x y : D} {b : Bool} {r' : List Slot} (ha : asg tg x r = .ok r') (hc : ev t c false r' = .ok (.bl b)) (h : b = true → ev t elt false r' = .ok y) : lcB t tg r [c] elt x = .ok (if b then some y else none) := by
  unfold lcB
  rw [ha]
  simp only [R.ok_bind, es_nil, es_cons, hc, truth]
  cases b with
  | true => simp only [h rfl, R.ok_bind]; rfl
  | false => rfl
end
section
variable {F : Type} {t : Tb F} {r : List Slot} {ss : List (S F)}
theorem run_of {p : F → Df F} {m : Nat} {f : F} {args : List D} {d : D} (hn : args.length = (p f).np) (h : exs (tbOf p m) (p f).body (start (p f).ns args) = .ok (.rt d)) : run p (m + 1) f args = .ok d := by
  rw [run_succ]
  unfold exe
  rw [if_pos hn, h]
theorem x_nil : exs t ([] : List (S F)) r = .ok (.nx r) := by rw [exs]
theorem x_cons {s : S F} {r' : List Slot} (h : ex t s r = .ok (.nx r')) : exs t (s :: ss) r = exs t ss r' := by rw [exs, h]; rfl
theorem x_stop {s : S F} {d : D} (h : ex t s r = .ok (.rt d)) : exs t (s :: ss) r = .ok (.rt d) := by rw [exs, h]; rfl
theorem x_set {i : Nat} {e : E F} {d : D} (h : ev t e false r = .ok d) (hi : i < r.length) : exs t (.set i e :: ss) r = exs t ss (r.set i (if fresh e && isMut d then .own d else .val d)) :=
  x_cons (by rw [ex, h]; simp [hi])
theorem x_setV {i : Nat} {e : E F} {d : D} (h : ev t e false r = .ok d) (hi : i < r.length) (hm : isMut d = false := by rfl) : exs t (.set i e :: ss) r = exs t ss (r.set i (.val d)) := by
  rw [x_set h hi, hm]; simp
theorem x_setN {i : Nat} {e : E F} {d : D} (h : ev t e false r = .ok d) (hi : i < r.length) (hm : fresh e = false := by rfl) : exs t (.set i e :: ss) r = exs t ss (r.set i (.val d)) := by
  rw [x_set h hi, hm]; simp
theorem x_setO {i : Nat} {e : E F} {d : D} (h : ev t e false r = .ok d) (hi : i < r.length) (hf : fresh e = true := by rfl) (hm : isMut d = true := by rfl) : exs t (.set i e :: ss) r = exs t ss (r.set i (.own d)) := by
  rw [x_set h hi, hm, hf]; simp
theorem x_unp {is : List Nat} {e : E F} {d : D} {r' : List Slot} (h : ev t e false r = .ok d) (ha : asg (.tp is) d r = .ok r') : exs t (.unp is e :: ss) r = exs t ss r' :=
  x_cons (by rw [ex, h]; simp [ha])
theorem x_ret {e : E F} {d : D} (h : ev t e true r = .ok d) : exs t (.ret e :: ss) r = .ok (.rt d) := x_stop (by rw [ex, h]; rfl)
theorem x_expr {e : E F} {d : D} (h : ev t e false r = .ok d) : exs t (.expr e :: ss) r = exs t ss r := x_cons (by rw [ex, h]; rfl)
theorem x_app {i : Nat} {e : E F} {d : D} {ds : List D} (hr : r[i]? = some (.own (.lst ds))) (h : ev t e false r = .ok d) (hl : ds.length < LIM) : exs t (.app i e :: ss) r = exs t ss (r.set i (.own (.lst (ds ++ [d])))) :=
  x_cons (by rw [ex, hr]; simp only [h, R.ok_bind]; rw [if_pos hl])
theorem x_ext {i : Nat} {e : E F} {ds es : List D} (hr : r[i]? = some (.own (.lst ds))) (h : ev t e false r = .ok (.lst es)) (hl : ds.length + es.length ≤ LIM) : exs t (.ext i e :: ss) r = exs t ss (r.set i (.own (.lst (ds ++ es)))) :=
  x_cons (by rw [ex, hr]; simp only [h, R.ok_bind]; rw [if_pos hl])
theorem x_put {i : Nat} {k e : E F} {o d x o' : D} (hr : r[i]? = some (.own o)) (h : ev t e false r = .ok d) (hk : ev t k false r = .ok x) (hp : putR o x d = .ok o') : exs t (.put i k e :: ss) r = exs t ss (r.set i (.own o')) :=
  x_cons (by rw [ex, hr]; simp only [h, hk, hp, R.ok_bind])
theorem x_then {c : E F} {a b : List (S F)} {r' : List Slot} (h : ev t c false r = .ok (.bl true)) (ha : exs t a r = .ok (.nx r')) : exs t (.ife c a b :: ss) r = exs t ss r' :=
  x_cons (by rw [ex, h]; simp [truth, ha])
theorem x_thenR {c : E F} {a b : List (S F)} {d : D} (h : ev t c false r = .ok (.bl true)) (ha : exs t a r = .ok (.rt d)) : exs t (.ife c a b :: ss) r = .ok (.rt d) :=
  x_stop (by rw [ex, h]; simp [truth, ha])
theorem x_else {c : E F} {a b : List (S F)} {r' : List Slot} (h : ev t c false r = .ok (.bl false)) (ha : exs t b r = .ok (.nx r')) : exs t (.ife c a b :: ss) r = exs t ss r' :=
  x_cons (by rw [ex, h]; simp [truth, ha])
theorem x_elseR {c : E F} {a b : List (S F)} {d : D} (h : ev t c false r = .ok (.bl false)) (ha : exs t b r = .ok (.rt d)) : exs t (.ife c a b :: ss) r = .ok (.rt d) :=
  x_stop (by rw [ex, h]; simp [truth, ha])
theorem x_skip {c : E F} {a : List (S F)} (h : ev t c false r = .ok (.bl false)) : exs t (.ife c a [] :: ss) r = exs t ss r := x_else h x_nil
theorem x_for {tg : Tg} {k : Sk} {es : List (E F)} {body : List (S F)} {src items : List D} {r' : List Slot} (h : evs t es false r = .ok src) (hs : srcD k src = .ok items)
    (hf : forL (fun x r => do let r' ← asg tg x r; exs t body r') items r = .ok (.nx r')) : exs t (.forr tg k es body :: ss) r = exs t ss r' :=
  x_cons (by rw [ex, h]; simp only [R.ok_bind, hs]; exact hf)
theorem x_forR {tg : Tg} {k : Sk} {es : List (E F)} {body : List (S F)} {src items : List D} {d : D} (h : evs t es false r = .ok src) (hs : srcD k src = .ok items)
    (hf : forL (fun x r => do let r' ← asg tg x r; exs t body r') items r = .ok (.rt d)) : exs t (.forr tg k es body :: ss) r = .ok (.rt d) :=
  x_stop (by rw [ex, h]; simp only [R.ok_bind, hs]; exact hf)
theorem x_wh {n : Nat} {c : E F} {body : List (S F)} {r' : List Slot} (h : whL (fun r => do truth (← ev t c false r)) (fun r => exs t body r) n r = .ok (.nx r')) : exs t (.wh n c body :: ss) r = exs t ss r' :=
  x_cons (by rw [ex]; exact h)
end
/-- a for: P by the turn -/
theorem forL_ok {f : D → List Slot → R Out} {P : Nat → List Slot → Prop} : ∀ (items : List D) (n : Nat) (r : List Slot), P n r → (∀ i x r, items[i]? = some x → P (n + i) r → ∃ r', f x r = .ok (.nx r') ∧ P (n + i + 1) r') → ∃ r', forL f items r = .ok (.nx r') ∧ P (n + items.length) r'
  | [], n, r, h, _ => ⟨r, rfl, h⟩
  | x :: xs, n, r, h, hs => by
    obtain ⟨r1, h1, h2⟩ := hs 0 x r rfl (by simpa using h)
    obtain ⟨r2, h3, h4⟩ := forL_ok (f := f) (P := P) xs (n + 1) r1 (by simpa using h2) fun i y r hy hp => by
      have := hs (i + 1) y r (by simpa using hy) (by rw [show n + (i + 1) = n + 1 + i by omega]; exact hp)
      rw [show n + 1 + i + 1 = n + (i + 1) + 1 by omega]; exact this
    refine ⟨r2, ?_, by rw [List.length_cons, show n + (xs.length + 1) = n + 1 + xs.length by omega]; exact h4⟩
    rw [forL, h1]
    exact h3
/-- one that may return from within -/
theorem forL_or {f : D → List Slot → R Out} {P : Nat → List Slot → Prop} {Q : D → Prop} : ∀ (items : List D) (n : Nat) (r : List Slot), P n r → (∀ i x r, items[i]? = some x → P (n + i) r → (∃ r', f x r = .ok (.nx r') ∧ P (n + i + 1) r') ∨ ∃ d, f x r = .ok (.rt d) ∧ Q d) → (∃ r', forL f items r = .ok (.nx r') ∧ P (n + items.length) r') ∨ ∃ d, forL f items r = .ok (.rt d) ∧ Q d
  | [], n, r, h, _ => .inl ⟨r, rfl, h⟩
  | x :: xs, n, r, h, hs => by
    rcases hs 0 x r rfl (by simpa using h) with ⟨r1, h1, h2⟩ | ⟨d, h1, h2⟩
    · rcases forL_or (f := f) (P := P) (Q := Q) xs (n + 1) r1 (by simpa using h2) (fun i y r hy hp => by
        have := hs (i + 1) y r (by simpa using hy) (by rw [show n + (i + 1) = n + 1 + i by omega]; exact hp)
        rw [show n + 1 + i + 1 = n + (i + 1) + 1 by omega]; exact this) with ⟨r2, h3, h4⟩ | ⟨d, h3, h4⟩
      · exact .inl ⟨r2, by rw [forL, h1]; exact h3, by rw [List.length_cons, show n + (xs.length + 1) = n + 1 + xs.length by omega]; exact h4⟩
      · exact .inr ⟨d, by rw [forL, h1]; exact h3, h4⟩
    · exact .inr ⟨d, by rw [forL, h1]; rfl, h2⟩
/-- a comprehension, told by maps -/
theorem lcL_map {f : D → R (Option D)} {g : D → D} : ∀ (items : List D), (∀ x ∈ items, f x = .ok (some (g x))) → lcL f items = .ok (items.map g)
  | [], _ => rfl
  | x :: xs, h => by
    rw [lcL, h x List.mem_cons_self]
    simp only [R.still_ok, R.ok_bind]
    rw [lcL_map xs fun y hy => h y (List.mem_cons_of_mem _ hy)]
    rfl
theorem lcL_filter {f : D → R (Option D)} {g : D → D} {p : D → Bool} : ∀ (items : List D), (∀ x ∈ items, f x = .ok (if p x then some (g x) else none)) → lcL f items = .ok ((items.filter p).map g)
  | [], _ => rfl
  | x :: xs, h => by
    rw [lcL, h x List.mem_cons_self]
    simp only [R.still_ok, R.ok_bind]
    rw [lcL_filter xs fun y hy => h y (List.mem_cons_of_mem _ hy)]
    cases hp : p x <;> simp [hp]

/-- a comprehension without a test -/
theorem lcL_each {f : D → R (Option D)} {P : D → Prop} : ∀ (items : List D), (∀ x ∈ items, ∃ y, f x = .ok (some y) ∧ P y) → ∃ ys, lcL f items = .ok ys ∧ ys.length = items.length ∧ ∀ y ∈ ys, P y
  | [], _ => ⟨[], rfl, rfl, by simp⟩
  | x :: xs, h => by
    obtain ⟨y, h1, h2⟩ := h x List.mem_cons_self
    obtain ⟨ys, h3, h4, h5⟩ := lcL_each xs fun z hz => h z (List.mem_cons_of_mem _ hz)
    refine ⟨y :: ys, ?_, by simp [h4], fun z hz => ?_⟩
    · rw [lcL, h1]
      simp only [R.still_ok, R.ok_bind, h3]
    · rcases List.mem_cons.mp hz with rfl | hz
      · exact h2
      · exact h5 z hz
theorem map_of {α : Type} {f : α → D} {P : α → Prop} : ∀ (ys : List D), (∀ y ∈ ys, ∃ a, y = f a ∧ P a) → ∃ l : List α, ys = l.map f ∧ ∀ a ∈ l, P a
  | [], _ => ⟨[], rfl, by simp⟩
  | y :: ys, h => by
    obtain ⟨a, h1, h2⟩ := h y List.mem_cons_self
    obtain ⟨l, h3, h4⟩ := map_of ys fun z hz => h z (List.mem_cons_of_mem _ hz)
    refine ⟨a :: l, by rw [h1, h3]; rfl, fun b hb => ?_⟩
    rcases List.mem_cons.mp hb with rfl | hb
    · exact h2
    · exact h4 b hb

@[irreducible] def Wp {F : Type} (t : Tb F) (ss : List (S F)) (r : List Slot) (N : List Slot → Prop) (Q : D → Prop) : Prop := match exs t ss r with
  | .ok (.nx r') => N r'
  | .ok (.rt d) => Q d
  | _ => False
section
variable {F : Type} {t : Tb F} {r : List Slot} {ss : List (S F)} {N : List Slot → Prop} {Q : D → Prop}
theorem Wp.eq {ss' : List (S F)} {r' : List Slot} (h : exs t ss r = exs t ss' r') (k : Wp t ss' r' N Q) : Wp t ss r N Q := by unfold Wp at k ⊢; rw [h]; exact k
theorem Wp.mono {N' : List Slot → Prop} {Q' : D → Prop} (k : Wp t ss r N Q) (h : ∀ r, N r → N' r) (h' : ∀ d, Q d → Q' d) : Wp t ss r N' Q' := by
  unfold Wp at k ⊢
  split at k
  · exact h _ k
  · exact h' _ k
  · exact k.elim
theorem run_wp {p : F → Df F} {m : Nat} {f : F} {args : List D} (hn : args.length = (p f).np) (h : ∀ t : Tb F, t.c = run p m → Wp t (p f).body (start (p f).ns args) (fun _ => Q .non) Q) : ∃ d, run p (m + 1) f args = .ok d ∧ Q d := by
  replace h := h (tbOf p m) (tb_c p m)
  rw [run_succ]
  unfold exe
  rw [if_pos hn]
  unfold Wp at h
  split at h
  · rename_i e; rw [e]; exact ⟨_, rfl, h⟩
  · rename_i e; rw [e]; exact ⟨_, rfl, h⟩
  · exact h.elim
/-- the same, where the answer is known -/
theorem run_is {p : F → Df F} {m : Nat} {f : F} {args : List D} {v : D} (hn : args.length = (p f).np) (h : ∀ t : Tb F, t.c = run p m → Wp t (p f).body (start (p f).ns args) (fun _ => .non = v) (fun d => d = v)) : run p (m + 1) f args = .ok v := by
  obtain ⟨d, h1, h2⟩ := run_wp (Q := fun d => d = v) hn h
  rw [h1, h2]
theorem wp_nil (h : N r) : Wp t ([] : List (S F)) r N Q := by unfold Wp; rw [x_nil]; exact h
theorem wp_setV {i : Nat} {e : E F} (d : D) (h : ev t e false r = .ok d) (hi : i < r.length) (hm : isMut d = false) (k : Wp t ss (r.set i (.val d)) N Q) : Wp t (.set i e :: ss) r N Q := .eq (x_setV h hi hm) k
theorem wp_setN {i : Nat} {e : E F} (d : D) (h : ev t e false r = .ok d) (hi : i < r.length) (hm : fresh e = false) (k : Wp t ss (r.set i (.val d)) N Q) : Wp t (.set i e :: ss) r N Q := .eq (x_setN h hi hm) k
theorem wp_setO {i : Nat} {e : E F} (d : D) (h : ev t e false r = .ok d) (hi : i < r.length) (hf : fresh e = true) (hm : isMut d = true) (k : Wp t ss (r.set i (.own d)) N Q) : Wp t (.set i e :: ss) r N Q := .eq (x_setO h hi hf hm) k
theorem wp_unp {is : List Nat} {e : E F} (d : D) {r' : List Slot} (h : ev t e false r = .ok d) (ha : asg (.tp is) d r = .ok r') (k : Wp t ss r' N Q) : Wp t (.unp is e :: ss) r N Q := .eq (x_unp h ha) k
theorem x_retF {e : E F} {d : D} (h : ev t e false (frzR r) = .ok d) : exs t (.retF e :: ss) r = .ok (.rt d) := x_stop (by rw [ex, h]; rfl)
theorem wp_retF {e : E F} (d : D) (h : ev t e false (frzR r) = .ok d) (k : Q d) : Wp t (.retF e :: ss) r N Q := by unfold Wp; rw [x_retF h]; exact k
theorem wp_ret {e : E F} (d : D) (h : ev t e true r = .ok d) (k : Q d) : Wp t (.ret e :: ss) r N Q := by unfold Wp; rw [x_ret h]; exact k
theorem wp_expr {e : E F} (d : D) (h : ev t e false r = .ok d) (k : Wp t ss r N Q) : Wp t (.expr e :: ss) r N Q := .eq (x_expr h) k
theorem wp_app {i : Nat} {e : E F} {ds : List D} (d : D) (hr : r[i]? = some (.own (.lst ds))) (h : ev t e false r = .ok d) (hl : ds.length < LIM) (k : Wp t ss (r.set i (.own (.lst (ds ++ [d])))) N Q) : Wp t (.app i e :: ss) r N Q := .eq (x_app hr h hl) k
theorem wp_ext {i : Nat} {e : E F} {ds : List D} (es : List D) (hr : r[i]? = some (.own (.lst ds))) (h : ev t e false r = .ok (.lst es)) (hl : ds.length + es.length ≤ LIM) (k : Wp t ss (r.set i (.own (.lst (ds ++ es)))) N Q) : Wp t (.ext i e :: ss) r N Q := .eq (x_ext hr h hl) k
theorem wp_put {i : Nat} {kk e : E F} {o : D} (d x o' : D) (hr : r[i]? = some (.own o)) (h : ev t e false r = .ok d) (hk : ev t kk false r = .ok x) (hp : putR o x d = .ok o') (k : Wp t ss (r.set i (.own o')) N Q) : Wp t (.put i kk e :: ss) r N Q := .eq (x_put hr h hk hp) k
theorem wp_if {c : E F} {a a' : List (S F)} (b : Bool) (h : ev t c false r = .ok (.bl b)) (h1 : b = true → Wp t a r (fun r' => Wp t ss r' N Q) Q) (h2 : b = false → Wp t a' r (fun r' => Wp t ss r' N Q) Q) : Wp t (.ife c a a' :: ss) r N Q := by
  cases b with
  | true =>
    have k := h1 rfl
    rw [Wp] at k
    split at k
    · rename_i e; exact .eq (x_then h e) k
    · rename_i e; unfold Wp; rw [x_thenR h e]; exact k
    · exact k.elim
  | false =>
    have k := h2 rfl
    rw [Wp] at k
    split at k
    · rename_i e; exact .eq (x_else h e) k
    · rename_i e; unfold Wp; rw [x_elseR h e]; exact k
    · exact k.elim
/-- no other branch -/
theorem wp_if0 {c : E F} {a : List (S F)} (b : Bool) (h : ev t c false r = .ok (.bl b)) (h1 : b = true → Wp t a r (fun r' => Wp t ss r' N Q) Q) (h2 : b = false → Wp t ss r N Q) : Wp t (.ife c a [] :: ss) r N Q :=
  wp_if b h h1 fun hb => wp_nil (h2 hb)
theorem wp_for {tg : Tg} {k : Sk} {es : List (E F)} {body : List (S F)} (src items : List D) (P : Nat → List Slot → Prop) (h : evs t es false r = .ok src) (hs : srcD k src = .ok items) (h0 : P 0 r)
    (step : ∀ i x r, items[i]? = some x → P i r → ∃ r1, asg tg x r = .ok r1 ∧ Wp t body r1 (P (i + 1)) Q) (rest : ∀ r', P items.length r' → Wp t ss r' N Q) : Wp t (.forr tg k es body :: ss) r N Q := by
  rcases forL_or (f := fun x r => do let r' ← asg tg x r; exs t body r') (P := P) (Q := Q) items 0 r h0 (fun i x r hx hp => by
    obtain ⟨r1, h1, h2⟩ := step i x r hx (by simpa using hp)
    rw [h1]
    simp only [R.ok_bind]
    unfold Wp at h2
    split at h2
    · rename_i e; rw [e]; exact .inl ⟨_, rfl, by simpa using h2⟩
    · rename_i e; rw [e]; exact .inr ⟨_, rfl, h2⟩
    · exact h2.elim) with ⟨r', h1, h2⟩ | ⟨d, h1, h2⟩
  · exact .eq (x_for h hs h1) (rest r' (by simpa using h2))
  · unfold Wp; rw [x_forR h hs h1]; exact h2
/-- a while: P by what is left -/
theorem wp_wh {n : Nat} {c : E F} {body : List (S F)} (P : Nat → List Slot → Prop) (k0 : Nat) (hk : k0 < n) (h0 : P k0 r)
    (step : ∀ k r, P k r → ∃ b, ev t c false r = .ok (.bl b) ∧ (b = true → ∃ j, k = j + 1 ∧ Wp t body r (P j) Q) ∧ (b = false → Wp t ss r N Q)) : Wp t (.wh n c body :: ss) r N Q := by
  have key : ∀ (n k : Nat) (r : List Slot), k < n → P k r → (∃ r', whL (fun r => do truth (← ev t c false r)) (fun r => exs t body r) n r = .ok (.nx r') ∧ Wp t ss r' N Q) ∨ ∃ d, whL (fun r => do truth (← ev t c false r)) (fun r => exs t body r) n r = .ok (.rt d) ∧ Q d := by
    intro n
    induction n with
    | zero => intro k r h; omega
    | succ n ih =>
      intro k r hk hp
      obtain ⟨b, hb, h1, h2⟩ := step k r hp
      rw [whL]
      simp only [hb, R.ok_bind, truth]
      cases b with
      | false => exact .inl ⟨r, rfl, h2 rfl⟩
      | true =>
        obtain ⟨j, rfl, hw⟩ := h1 rfl
        simp only
        unfold Wp at hw
        split at hw
        · rename_i e; rw [e]; exact ih j _ (by omega) hw
        · rename_i e; rw [e]; exact .inr ⟨_, rfl, hw⟩
        · exact hw.elim
  rcases key n k0 r hk h0 with ⟨r', h1, h2⟩ | ⟨d, h1, h2⟩
  · exact .eq (x_wh h1) h2
  · unfold Wp; rw [x_stop (d := d) (by rw [ex]; exact h1)]; exact h2
end
end Mk
end
section
set_option linter.all false
namespace Mk

inductive Fn where
  | f_split_name
  | f_lays_for
  | f_laid
  | f_meant_mark
  | f_meant_value
  | f_plain_values
  | f_kids_of
  | f_part_at
  | f_mark_at
  | f_scope_at
  | f_shown
  | f_space_at
  | f_spaces_at
  | f_means
  | f_value_means
  | f_law_cell_at
  | f_law_mixed
  | f_law_drawn
  | f_law_signs
  | f_law_text
  | f_law_word
  | f_law_space
  | f_law_meant
  | f_law_laid
  | f_law_lays
  | f_law_name
  | f_law_mark
  | f_law_tree
  | f_law_addresses
  | f_law_at
  | f_law_scope
  | f_law_lays_space
  | f_law
  deriving DecidableEq
open Fn

def b_split_name : List (S Fn) :=
   [.set 1 (.mth .split (.var 0) [(.kst (.str [58]))]),
    .ife (.cmp .eq (.blt .len [(.var 1)]) (.kst (.int 1))) [.ret (.tup [(.kst (.str [])), (.var 0)])] [],
    .ret (.tup [(.idx (.var 1) (.kst (.int 0))), (.idx (.var 1) (.kst (.int 1)))])]
def b_lays_for : List (S Fn) :=
   [.unp [1, 2] (.call .f_split_name [(.var 0)]),
    .ife (.cmp .eq (.var 1) (.kst (.str [115, 112, 97, 99, 101]))) [.ret (.var 2)] [],
    .ife (.cmp .eq (.var 0) (.kst (.str [115, 112, 97, 99, 101]))) [.ret (.kst (.str []))] [],
    .ret (.kst .non)]
def b_laid : List (S Fn) :=
   [.set 2 (.blt .dict [(.var 0)]),
    .forr (.tp [3, 4]) .it [(.var 1)] [.set 5 (.call .f_lays_for [(.var 3)]),
      .ife (.cmp .isnot (.var 5) (.kst .non)) [.ife (.or (.cmp .eq (.var 5) (.kst (.str [115, 112, 97, 99, 101]))) (.and (.cmp .ne (.var 5) (.kst (.str []))) (.cmp .eq (.var 4) (.kst (.str []))))) [.ret (.kst .non)] [],
        .put 2 (.var 5) (.var 4)] []],
    .ret (.var 2)]
def b_meant_mark : List (S Fn) :=
   [.unp [2, 3] (.call .f_split_name [(.var 1)]),
    .ife (.cmp .eq (.var 2) (.kst (.str []))) [.ret (.tup [(.mth .get (.var 0) [(.kst (.str [])), (.kst (.str []))]), (.var 3)])] [],
    .ife (.or (.cmp .eq (.var 2) (.kst (.str [115, 112, 97, 99, 101]))) (.cmp .notin (.var 2) (.var 0))) [.ret (.kst .non)] [],
    .ret (.tup [(.idx (.var 0) (.var 2)), (.var 3)])]
def b_meant_value : List (S Fn) :=
   [.unp [2, 3] (.call .f_split_name [(.var 1)]),
    .ife (.cmp .eq (.var 2) (.kst (.str []))) [.ret (.tup [(.kst (.str [])), (.var 3)])] [],
    .ife (.cmp .notin (.var 2) (.var 0)) [.ret (.kst .non)] [],
    .ret (.tup [(.idx (.var 0) (.var 2)), (.var 3)])]
def b_plain_values : List (S Fn) :=
   [.ret (.lc (.nm 1) .it [(.var 0)] [(.cmp .is (.call .f_lays_for [(.idx (.var 1) (.kst (.int 0)))]) (.kst .non))] (.var 1))]
def b_kids_of : List (S Fn) :=
   [.ife (.cmp .eq (.idx (.var 0) (.kst (.int 0))) (.kst (.str [109, 97, 114, 107]))) [.ret (.idx (.var 0) (.kst (.int 3)))] [],
    .ret (.tup [])]
def b_part_at : List (S Fn) :=
   [.forr (.nm 2) .it [(.var 1)] [.set 3 (.call .f_kids_of [(.var 0)]),
      .ife (.not (.chain .le .lt (.kst (.int 0)) (.var 2) (.blt .len [(.var 3)]))) [.rai .noPart] [],
      .set 0 (.idx (.var 3) (.var 2))],
    .ret (.var 0)]
def b_mark_at : List (S Fn) :=
   [.set 2 (.call .f_part_at [(.var 0), (.var 1)]),
    .ife (.cmp .ne (.idx (.var 2) (.kst (.int 0))) (.kst (.str [109, 97, 114, 107]))) [.rai .noPart] [],
    .ret (.var 2)]
def b_scope_at : List (S Fn) :=
   [.set 2 (.call .f_laid [.dnew, (.idx (.var 0) (.kst (.int 2)))]),
    .forr (.nm 3) .range [(.kst (.int 1)), (.bin .add (.blt .len [(.var 1)]) (.kst (.int 1)))] [.set 2 (.call .f_laid [(.var 2), (.idx (.call .f_part_at [(.var 0), (.slc (.var 1) [] [(.var 3)])]) (.kst (.int 2)))])],
    .ret (.var 2)]
def b_shown : List (S Fn) :=
   [.ret (.blt .dict [(.lc (.nm 1) .keys [(.var 0)] [(.or (.cmp .ne (.var 1) (.kst (.str []))) (.cmp .ne (.idx (.var 0) (.var 1)) (.kst (.str []))))] (.tup [(.var 1), (.idx (.var 0) (.var 1))]))])]
def b_space_at : List (S Fn) :=
   [.expr (.call .f_mark_at [(.var 0), (.var 1)]),
    .ret (.mth .get (.call .f_shown [(.call .f_scope_at [(.var 0), (.var 1)])]) [(.var 2), (.kst .non)])]
def b_spaces_at : List (S Fn) :=
   [.expr (.call .f_mark_at [(.var 0), (.var 1)]),
    .ret (.blt .tuple [(.blt .sitems [(.call .f_shown [(.call .f_scope_at [(.var 0), (.var 1)])])])])]
def b_means : List (S Fn) :=
   [.set 2 (.call .f_mark_at [(.var 0), (.var 1)]),
    .ret (.call .f_meant_mark [(.call .f_scope_at [(.var 0), (.var 1)]), (.idx (.var 2) (.kst (.int 1)))])]
def b_value_means : List (S Fn) :=
   [.set 3 (.call .f_mark_at [(.var 0), (.var 1)]),
    .ife (.cmp .notin (.var 2) (.lc (.nm 4) .it [(.call .f_plain_values [(.idx (.var 3) (.kst (.int 2)))])] [] (.idx (.var 4) (.kst (.int 0))))) [.rai .noValue] [],
    .ret (.call .f_meant_value [(.call .f_scope_at [(.var 0), (.var 1)]), (.var 2)])]
def b_law_cell_at : List (S Fn) :=
   [.ife (.cmp .lt (.var 1) (.blt .len [(.var 0)])) [.ret (.idx (.var 0) (.var 1))] [],
    .ret (.kst (.int 0))]
def b_law_mixed : List (S Fn) :=
   [.set 2 (.bin .mod (.bin .mul (.bin .add (.bin .add (.call .f_law_cell_at [(.var 0), (.var 1)]) (.bin .mul (.kst (.int 7919)) (.var 1))) (.kst (.int 1))) (.kst (.int 48271))) (.kst (.int 2147483647))),
    .ret (.bin .mod (.bin .add (.bin .add (.bin .mul (.var 2) (.var 2)) (.bin .mul (.kst (.int 7)) (.var 2))) (.var 1)) (.kst (.int 2147483629)))]
def b_law_drawn : List (S Fn) :=
   [.set 2 (.bin .mod (.bin .mul (.bin .add (.bin .add (.var 0) (.bin .mul (.kst (.int 104729)) (.var 1))) (.kst (.int 17))) (.kst (.int 69621))) (.kst (.int 2147483647))),
    .ret (.bin .mod (.bin .add (.bin .add (.bin .mul (.var 2) (.var 2)) (.bin .mul (.kst (.int 3)) (.var 2))) (.var 1)) (.kst (.int 2147483629)))]
def b_law_signs : List (S Fn) :=
   [.ret (.kst (.str [97, 98, 99, 100, 101, 102, 103, 104, 105, 106, 107, 108, 109, 110, 111, 112, 113, 114, 115, 116, 117, 118, 119, 120, 121, 122, 65, 66, 67, 68, 69, 70, 71, 72, 73, 74, 75, 76, 77, 78, 79, 80, 81, 82, 83, 84, 85, 86, 87, 88, 89, 90, 48, 49, 50, 51, 52, 53, 54, 55, 56, 57, 32, 33, 34, 35, 36, 38, 39, 40, 41, 42, 43, 44, 45, 46, 47, 58, 59, 60, 61, 62, 63, 64, 91, 92, 93, 94, 95, 96, 123, 124, 125, 126, 10]))]
def b_law_text : List (S Fn) :=
   [.set 2 (.call .f_law_signs []),
    .set 3 (.kst (.str [60, 62, 38, 34, 97, 59, 32, 10, 33, 108])),
    .set 4 (.kst (.str [])),
    .forr (.nm 5) .range [(.bin .mod (.var 0) (.bin .add (.var 1) (.kst (.int 1))))] [.set 6 (.bin .fdiv (.call .f_law_drawn [(.var 0), (.bin .add (.kst (.int 30)) (.var 5))]) (.kst (.int 4))),
      .set 7 (.idx (.var 2) (.bin .mod (.bin .fdiv (.var 6) (.kst (.int 4))) (.blt .len [(.var 2)]))),
      .set 4 (.bin .add (.var 4) (.idx (.tup [(.var 7), (.idx (.var 3) (.bin .mod (.bin .fdiv (.var 6) (.kst (.int 4))) (.blt .len [(.var 3)])))]) (.bin .mod (.var 6) (.kst (.int 2)))))],
    .ret (.var 4)]
def b_law_word : List (S Fn) :=
   [.set 1 (.kst (.str [97, 98, 99, 100, 101, 102, 103, 104, 105, 106, 107, 108, 109, 110, 111, 112, 113, 114, 115, 116, 117, 118, 119, 120, 121, 122])),
    .ife (.cmp .gt (.bin .mod (.var 0) (.kst (.int 4))) (.kst (.int 0))) [.set 2 (.bin .mod (.bin .fdiv (.var 0) (.kst (.int 4))) (.kst (.int 5))),
      .ife (.cmp .gt (.bin .mod (.bin .fdiv (.var 0) (.kst (.int 32))) (.kst (.int 4))) (.kst (.int 0))) [.set 2 (.blt .min [(.kst (.int 3)), (.var 2)])] [],
      .ret (.idx (.tup [(.kst (.str [97])), (.kst (.str [98])), (.kst (.str [99])), (.kst (.str [100, 101])), (.kst (.str [115, 112, 97, 99, 101]))]) (.var 2))] [],
    .ret (.mth .join (.kst (.str [])) [(.lc (.nm 3) .range [(.bin .add (.kst (.int 1)) (.bin .mod (.bin .fdiv (.var 0) (.kst (.int 4))) (.kst (.int 5))))] [] (.idx (.var 1) (.bin .mod (.bin .fdiv (.call .f_law_drawn [(.var 0), (.var 3)]) (.kst (.int 4))) (.kst (.int 26)))))])]
def b_law_space : List (S Fn) :=
   [.ret (.idx (.tup [(.kst (.str [117])), (.kst (.str [118])), (.kst (.str [119])), (.kst (.str [])), (.call .f_law_text [(.bin .fdiv (.var 0) (.kst (.int 8))), (.kst (.int 5))])]) (.bin .mod (.var 0) (.kst (.int 5))))]
def b_law_meant : List (S Fn) :=
   [.set 3 (.mth .split (.var 1) [(.kst (.str [58]))]),
    .ife (.cmp .eq (.blt .len [(.var 3)]) (.kst (.int 1))) [.ret (.tup [(.idx (.tup [(.kst (.str [])), (.mth .get (.var 0) [(.kst (.str [])), (.kst (.str []))])]) (.blt .int [(.var 2)])), (.var 1)])] [],
    .ret (.tup [(.idx (.var 0) (.idx (.var 3) (.kst (.int 0)))), (.idx (.var 3) (.kst (.int 1)))])]
def b_law_laid : List (S Fn) :=
   [.set 2 (.blt .dict [(.var 0)]),
    .forr (.tp [3, 4]) .it [(.var 1)] [.ife (.cmp .eq (.var 3) (.kst (.str [115, 112, 97, 99, 101]))) [.put 2 (.kst (.str [])) (.var 4)] [],
      .ife (.cmp .eq (.slc (.var 3) [] [(.kst (.int 6))]) (.kst (.str [115, 112, 97, 99, 101, 58]))) [.put 2 (.slc (.var 3) [(.kst (.int 6))] []) (.var 4)] []],
    .ret (.var 2)]
def b_law_lays : List (S Fn) :=
   [.set 1 (.lst []),
    .forr (.nm 2) .range [(.idx (.tup [(.kst (.int 0)), (.kst (.int 0)), (.kst (.int 1)), (.kst (.int 1)), (.kst (.int 2)), (.kst (.int 3))]) (.bin .mod (.var 0) (.kst (.int 6))))] [.set 3 (.bin .fdiv (.call .f_law_drawn [(.var 0), (.bin .add (.kst (.int 50)) (.var 2))]) (.kst (.int 4))),
      .set 4 (.idx (.tup [(.kst (.str [])), (.kst (.str [112])), (.kst (.str [113])), (.kst (.str [112, 112]))]) (.bin .mod (.var 3) (.kst (.int 4)))),
      .set 5 (.call .f_law_space [(.bin .fdiv (.var 3) (.kst (.int 4)))]),
      .ife (.and (.cmp .ne (.var 4) (.kst (.str []))) (.cmp .eq (.var 5) (.kst (.str [])))) [.set 5 (.kst (.str [117]))] [],
      .set 6 (.bin .add (.kst (.str [115, 112, 97, 99, 101])) (.bin .mul (.bin .add (.kst (.str [58])) (.var 4)) (.blt .int [(.cmp .ne (.var 4) (.kst (.str [])))]))),
      .ife (.cmp .notin (.var 6) (.lc (.nm 7) .it [(.var 1)] [] (.idx (.var 7) (.kst (.int 0))))) [.app 1 (.tup [(.var 6), (.var 5)])] []],
    .ret (.var 1)]
def b_law_name : List (S Fn) :=
   [.set 2 (.bin .add (.lst [(.kst (.str []))]) (.blt .sorted [(.lc (.nm 3) .keys [(.var 0)] [(.cmp .ne (.var 3) (.kst (.str [])))] (.var 3))])),
    .set 3 (.idx (.var 2) (.bin .mod (.var 1) (.blt .len [(.var 2)]))),
    .set 4 (.call .f_law_word [(.bin .fdiv (.var 1) (.kst (.int 8)))]),
    .ret (.bin .add (.bin .mul (.bin .add (.var 3) (.kst (.str [58]))) (.blt .int [(.cmp .ne (.var 3) (.kst (.str [])))])) (.var 4))]
def b_law_mark : List (S Fn) :=
   [.set 3 (.call .f_law_lays [(.bin .fdiv (.var 0) (.kst (.int 4)))]),
    .set 4 (.call .f_law_laid [(.var 1), (.var 3)]),
    .set 5 (.lst []),
    .forr (.nm 6) .range [(.idx (.tup [(.kst (.int 0)), (.kst (.int 0)), (.kst (.int 1)), (.kst (.int 2))]) (.bin .mod (.bin .fdiv (.var 0) (.kst (.int 64))) (.kst (.int 4))))] [.set 8 (.bin .fdiv (.call .f_law_drawn [(.var 0), (.bin .add (.kst (.int 60)) (.var 6))]) (.kst (.int 4))),
      .set 9 (.call .f_law_name [(.var 4), (.var 8)]),
      .set 10 (.call .f_law_meant [(.var 4), (.var 9), (.kst (.bl false))]),
      .ife (.and (.cmp .ne (.var 9) (.kst (.str [115, 112, 97, 99, 101]))) (.cmp .notin (.var 10) (.var 5))) [.app 5 (.var 10),
        .set 12 (.bin .mod (.bin .fdiv (.var 8) (.kst (.int 64))) (.bin .add (.blt .len [(.var 3)]) (.kst (.int 1)))),
        .set 3 (.bin .add (.bin .add (.slc (.var 3) [] [(.var 12)]) (.lst [(.tup [(.var 9), (.call .f_law_text [(.bin .fdiv (.var 8) (.kst (.int 512))), (.kst (.int 4))])])])) (.slc (.var 3) [(.var 12)] []))] []],
    .set 7 (.lst []),
    .forr (.nm 6) .range [(.bin .mul (.idx (.tup [(.kst (.int 0)), (.kst (.int 1)), (.kst (.int 2)), (.kst (.int 3))]) (.bin .mod (.bin .fdiv (.var 0) (.kst (.int 512))) (.kst (.int 4)))) (.blt .int [(.cmp .gt (.var 2) (.kst (.int 0)))]))] [.set 8 (.bin .fdiv (.call .f_law_drawn [(.var 0), (.bin .add (.kst (.int 70)) (.var 6))]) (.kst (.int 4))),
      .set 11 (.bin .mod (.var 8) (.kst (.int 4))),
      .ife (.and (.cmp .eq (.var 11) (.kst (.int 0))) (.or (.cmp .eq (.var 7) (.lst [])) (.cmp .ne (.idx (.idx (.var 7) (.neg (.kst (.int 1)))) (.kst (.int 0))) (.kst (.str [116, 101, 120, 116]))))) [.app 7 (.tup [(.kst (.str [116, 101, 120, 116])), (.bin .add (.call .f_law_text [(.bin .add (.kst (.int 1)) (.bin .mul (.bin .fdiv (.var 8) (.kst (.int 4))) (.kst (.int 6)))), (.kst (.int 6))]) (.kst (.str [116])))])] [.ife (.cmp .eq (.var 11) (.kst (.int 1))) [.app 7 (.tup [(.kst (.str [114, 101, 109, 97, 114, 107])), (.mth .replace (.call .f_law_text [(.bin .fdiv (.var 8) (.kst (.int 4))), (.kst (.int 4))]) [(.kst (.str [33])), (.kst (.str []))])])] [.app 7 (.call .f_law_mark [(.bin .fdiv (.var 8) (.kst (.int 4))), (.var 4), (.bin .sub (.var 2) (.kst (.int 1)))])]]],
    .ret (.tup [(.kst (.str [109, 97, 114, 107])), (.call .f_law_name [(.var 4), (.bin .fdiv (.var 0) (.kst (.int 4096)))]), (.blt .tuple [(.var 3)]), (.blt .tuple [(.var 7)])])]
def b_law_tree : List (S Fn) :=
   [.ret (.call .f_law_mark [(.var 0), .dnew, (.idx (.tup [(.kst (.int 1)), (.kst (.int 2)), (.kst (.int 3))]) (.bin .mod (.var 0) (.kst (.int 3))))])]
def b_law_addresses : List (S Fn) :=
   [.set 1 (.lst [(.tup [])]),
    .ife (.cmp .eq (.idx (.var 0) (.kst (.int 0))) (.kst (.str [109, 97, 114, 107]))) [.forr (.tp [2, 3]) .enum [(.idx (.var 0) (.kst (.int 3)))] [.set 1 (.bin .add (.var 1) (.lc (.nm 4) .it [(.call .f_law_addresses [(.var 3)])] [] (.bin .add (.tup [(.var 2)]) (.var 4))))]] [],
    .ret (.var 1)]
def b_law_at : List (S Fn) :=
   [.forr (.nm 2) .it [(.var 1)] [.ife (.or (.cmp .ne (.idx (.var 0) (.kst (.int 0))) (.kst (.str [109, 97, 114, 107]))) (.not (.chain .le .lt (.kst (.int 0)) (.var 2) (.blt .len [(.idx (.var 0) (.kst (.int 3)))])))) [.ret (.kst .non)] [],
      .set 0 (.idx (.idx (.var 0) (.kst (.int 3))) (.var 2))],
    .ret (.var 0)]
def b_law_scope : List (S Fn) :=
   [.set 2 (.call .f_law_laid [.dnew, (.idx (.var 0) (.kst (.int 2)))]),
    .forr (.nm 3) .range [(.kst (.int 1)), (.bin .add (.blt .len [(.var 1)]) (.kst (.int 1)))] [.set 2 (.call .f_law_laid [(.var 2), (.idx (.call .f_law_at [(.var 0), (.slc (.var 1) [] [(.var 3)])]) (.kst (.int 2)))])],
    .ret (.var 2)]
def b_law_lays_space : List (S Fn) :=
   [.ret (.or (.cmp .eq (.var 0) (.kst (.str [115, 112, 97, 99, 101]))) (.cmp .eq (.slc (.var 0) [] [(.kst (.int 6))]) (.kst (.str [115, 112, 97, 99, 101, 58]))))]
def b_law : List (S Fn) :=
   [.set 1 (.call .f_law_tree [(.call .f_law_mixed [(.var 0), (.kst (.int 0))])]),
    .forr (.nm 2) .it [(.bin .add (.call .f_law_addresses [(.var 1)]) (.lst [(.tup [(.kst (.int 9))]), (.tup [(.kst (.int 0)), (.kst (.int 9))]), (.tup [(.neg (.kst (.int 1)))])]))] [.set 3 (.call .f_law_at [(.var 1), (.var 2)]),
      .set 4 (.and (.cmp .isnot (.var 3) (.kst .non)) (.cmp .eq (.idx (.var 3) (.kst (.int 0))) (.kst (.str [109, 97, 114, 107])))),
      .set 5 .dnew,
      .set 6 .dnew,
      .ife (.var 4) [.set 5 (.call .f_law_scope [(.var 1), (.var 2)]),
        .set 6 (.blt .dict [(.idx (.var 3) (.kst (.int 2)))])] [],
      .set 7 (.blt .tuple [(.blt .sorted [(.lc (.nm 9) .keys [(.var 5)] [(.or (.cmp .ne (.var 9) (.kst (.str []))) (.cmp .ne (.idx (.var 5) (.var 9)) (.kst (.str []))))] (.tup [(.var 9), (.idx (.var 5) (.var 9))]))])]),
      .set 8 (.idx (.lst [(.tup [(.kst (.str [114, 101, 102, 117, 115, 101, 100])), (.kst (.int 1))]), (.tup [(.kst (.str [116, 111, 108, 100])), (.var 7)])]) (.blt .int [(.var 4)])),
      .ife (.cmp .ne (.told .f_spaces_at [(.var 1), (.var 2)]) (.var 8)) [.ret (.kst (.bl false))] [],
      .forr (.nm 9) .it [(.tup [(.kst (.str [])), (.kst (.str [112])), (.kst (.str [113])), (.kst (.str [112, 112])), (.kst (.str [114])), (.kst (.str [115, 112, 97, 99, 101]))])] [.set 8 (.idx (.lst [(.tup [(.kst (.str [114, 101, 102, 117, 115, 101, 100])), (.kst (.int 1))]), (.tup [(.kst (.str [116, 111, 108, 100])), (.mth .get (.blt .dict [(.var 7)]) [(.var 9), (.kst .non)])])]) (.blt .int [(.var 4)])),
        .ife (.cmp .ne (.told .f_space_at [(.var 1), (.var 2), (.var 9)]) (.var 8)) [.ret (.kst (.bl false))] []],
      .set 8 (.tup [(.kst (.str [114, 101, 102, 117, 115, 101, 100])), (.kst (.int 1))]),
      .ife (.var 4) [.set 8 (.tup [(.kst (.str [116, 111, 108, 100])), (.call .f_law_meant [(.var 5), (.idx (.var 3) (.kst (.int 1))), (.kst (.bl true))])])] [],
      .ife (.cmp .ne (.told .f_means [(.var 1), (.var 2)]) (.var 8)) [.ret (.kst (.bl false))] [],
      .forr (.nm 10) .it [(.bin .add (.blt .sorted [(.var 6)]) (.lst [(.kst (.str [97])), (.kst (.str [112, 58, 97])), (.kst (.str [115, 112, 97, 99, 101])), (.kst (.str [115, 112, 97, 99, 101, 58, 112])), (.kst (.str [122, 122]))]))] [.set 8 (.tup [(.kst (.str [114, 101, 102, 117, 115, 101, 100])), (.kst (.int 1))]),
        .ife (.var 4) [.set 8 (.tup [(.kst (.str [114, 101, 102, 117, 115, 101, 100])), (.kst (.int 2))]),
          .ife (.and (.cmp .isin (.var 10) (.var 6)) (.not (.call .f_law_lays_space [(.var 10)]))) [.set 8 (.tup [(.kst (.str [116, 111, 108, 100])), (.call .f_law_meant [(.var 5), (.var 10), (.kst (.bl false))])])] []] [],
        .ife (.cmp .ne (.told .f_value_means [(.var 1), (.var 2), (.var 10)]) (.var 8)) [.ret (.kst (.bl false))] []]],
    .ret (.kst (.bl true))]
def prog : Fn → Df Fn
  | .f_split_name => ⟨1, 2, b_split_name⟩
  | .f_lays_for => ⟨1, 3, b_lays_for⟩
  | .f_laid => ⟨2, 6, b_laid⟩
  | .f_meant_mark => ⟨2, 4, b_meant_mark⟩
  | .f_meant_value => ⟨2, 4, b_meant_value⟩
  | .f_plain_values => ⟨1, 2, b_plain_values⟩
  | .f_kids_of => ⟨1, 1, b_kids_of⟩
  | .f_part_at => ⟨2, 4, b_part_at⟩
  | .f_mark_at => ⟨2, 3, b_mark_at⟩
  | .f_scope_at => ⟨2, 4, b_scope_at⟩
  | .f_shown => ⟨1, 2, b_shown⟩
  | .f_space_at => ⟨3, 3, b_space_at⟩
  | .f_spaces_at => ⟨2, 2, b_spaces_at⟩
  | .f_means => ⟨2, 3, b_means⟩
  | .f_value_means => ⟨3, 5, b_value_means⟩
  | .f_law_cell_at => ⟨2, 2, b_law_cell_at⟩
  | .f_law_mixed => ⟨2, 3, b_law_mixed⟩
  | .f_law_drawn => ⟨2, 3, b_law_drawn⟩
  | .f_law_signs => ⟨0, 0, b_law_signs⟩
  | .f_law_text => ⟨2, 8, b_law_text⟩
  | .f_law_word => ⟨1, 4, b_law_word⟩
  | .f_law_space => ⟨1, 1, b_law_space⟩
  | .f_law_meant => ⟨3, 4, b_law_meant⟩
  | .f_law_laid => ⟨2, 5, b_law_laid⟩
  | .f_law_lays => ⟨1, 8, b_law_lays⟩
  | .f_law_name => ⟨2, 5, b_law_name⟩
  | .f_law_mark => ⟨3, 13, b_law_mark⟩
  | .f_law_tree => ⟨1, 1, b_law_tree⟩
  | .f_law_addresses => ⟨1, 5, b_law_addresses⟩
  | .f_law_at => ⟨2, 3, b_law_at⟩
  | .f_law_scope => ⟨2, 4, b_law_scope⟩
  | .f_law_lays_space => ⟨1, 1, b_law_lays_space⟩
  | .f_law => ⟨1, 11, b_law⟩
end Mk
end
section
set_option linter.all false
set_option maxRecDepth 100000
namespace Mk
theorem atI_nat {α : Type} (xs : List α) (k : Nat) (h : k < xs.length) : atI xs (k : Int) = some xs[k] := by
  simp [atI, ixN, h]
theorem small_of {a : Int} (h0 : 0 ≤ a) (h : a < 2 ^ 64) : small a = true := by
  unfold small
  simp only [Bool.and_eq_true, decide_eq_true_eq]
  omega
theorem mulD {a b : Int} (h : (small a || small b) = true) : binD .mul (.int a) (.int b) = .ok (.int (a * b)) := by
  simp only [binD, h, if_true]
theorem modD {a b : Int} (h0 : 0 < b) : binD .mod (.int a) (.int b) = .ok (.int (a % b)) := by simp [binD, h0]
theorem fdivD {a b : Int} (h0 : 0 < b) (h : b < 1073741824) : binD .fdiv (.int a) (.int b) = .ok (.int (a / b)) := by simp [binD, h0, h]
theorem addD (a b : Int) : binD .add (.int a) (.int b) = .ok (.int (a + b)) := Eq.trans (Eq.refl _) (Eq.refl _)
theorem subD (a b : Int) : binD .sub (.int a) (.int b) = .ok (.int (a - b)) := Eq.trans (Eq.refl _) (Eq.refl _)
theorem nat_of {x : Int} (h : 0 ≤ x) : ∃ n : Nat, x = n := ⟨x.toNat, (Int.toNat_of_nonneg h).symm⟩
/-- a rest is a number below -/
theorem mod_nat (x : Int) {b : Int} (hb : 0 < b) : ∃ n : Nat, x % b = n ∧ (n : Int) < b := by
  obtain ⟨n, hn⟩ := nat_of (Int.emod_nonneg x (Int.ne_of_gt hb))
  exact ⟨n, hn, by rw [← hn]; exact Int.emod_lt_of_pos x hb⟩
theorem r_cell (m : Nat) (ns : List Int) (k : Nat) : ∃ i, run prog (m + 1) .f_law_cell_at [.scr ns, .int k] = .ok (.int i) := by
  by_cases h : k < ns.length
  · refine ⟨ns[k], run_of rfl (x_thenR ?_ (x_ret ?_))⟩
    · simp [e_var, e_kst, e_tup, e_lst, e_bin, e_cmp, e_idx, e_call, e_blt, es_nil, es_cons, start, prog, bltD, cmpD, h]
    · simp [e_var, e_kst, e_tup, e_lst, e_bin, e_cmp, e_idx, e_call, e_blt, es_nil, es_cons, start, prog, idxD, opt, atI_nat ns k h]
  · refine ⟨0, run_of rfl ?_⟩
    show exs _ b_law_cell_at _ = _
    unfold b_law_cell_at
    rw [x_skip, x_ret]
    · simp [e_var, e_kst, e_tup, e_lst, e_bin, e_cmp, e_idx, e_call, e_blt, es_nil, es_cons]
    · simp [e_var, e_kst, e_tup, e_lst, e_bin, e_cmp, e_idx, e_call, e_blt, es_nil, es_cons, start, prog, bltD, cmpD, h]
theorem r_mixed (m : Nat) (ns : List Int) (k : Nat) : ∃ v : Nat, run prog (m + 2) .f_law_mixed [.scr ns, .int k] = .ok (.int v) ∧ v < 2147483629 := by
  obtain ⟨i, hi⟩ := r_cell m ns k
  obtain ⟨d, hd, hl⟩ := mod_nat ((i + 7919 * k + 1) * 48271) (show (0 : Int) < 2147483647 by decide)
  obtain ⟨v, hv, hm⟩ := mod_nat ((d : Int) * d + 7 * d + k) (show (0 : Int) < 2147483629 by decide)
  have hs : small (d : Int) = true := small_of (by omega) (by omega)
  refine ⟨v, run_of rfl ?_, by omega⟩
  show exs _ b_law_mixed _ = _
  unfold b_law_mixed
  rw [x_set (d := .int d), x_ret]
  · simp [e_var, e_kst, e_tup, e_lst, e_bin, e_cmp, e_idx, e_call, e_blt, es_nil, es_cons, start, prog, fresh, mulD, hs, addD, modD, hv]
  · simp [e_var, e_kst, e_tup, e_lst, e_bin, e_cmp, e_idx, e_call, e_blt, es_nil, es_cons, start, prog, hi, addD, modD, mulD, small, hd]
  · simp [start, prog]
theorem r_drawn (m : Nat) (a k : Int) : ∃ v : Nat, run prog (m + 1) .f_law_drawn [.int a, .int k] = .ok (.int v) ∧ v < 2147483629 := by
  obtain ⟨d, hd, hl⟩ := mod_nat ((a + 104729 * k + 17) * 69621) (show (0 : Int) < 2147483647 by decide)
  obtain ⟨v, hv, hm⟩ := mod_nat ((d : Int) * d + 3 * d + k) (show (0 : Int) < 2147483629 by decide)
  have hs : small (d : Int) = true := small_of (by omega) (by omega)
  refine ⟨v, run_of rfl ?_, by omega⟩
  show exs _ b_law_drawn _ = _
  unfold b_law_drawn
  rw [x_set (d := .int d), x_ret]
  · simp [e_var, e_kst, e_tup, e_lst, e_bin, e_cmp, e_idx, e_call, e_blt, es_nil, es_cons, start, prog, fresh, mulD, hs, addD, modD, hv]
  · simp [e_var, e_kst, e_tup, e_lst, e_bin, e_cmp, e_idx, e_call, e_blt, es_nil, es_cons, start, prog, addD, modD, mulD, small, hd]
  · simp [start, prog]
def kSigns : List Nat := match b_law_signs with
  | [.ret (.kst (.str x))] => x
  | _ => []
theorem signs_len : kSigns.length = 95 := by decide
theorem r_signs (m : Nat) : run prog (m + 1) .f_law_signs [] = .ok (.str kSigns) := run_of rfl (x_ret (by rw [ev]; rfl))
end Mk
end
section
set_option linter.all false
set_option maxRecDepth 100000
namespace Mk
def kSome : List Nat := [60, 62, 38, 34, 97, 59, 32, 10, 33, 108]
theorem some_in : ∀ c ∈ kSome, c ∈ kSigns := by decide
theorem srcD_range {n : Nat} (h : n ≤ LIM) : srcD .range [.int n] = .ok (rangeD 0 n) := by
  have h1 : -(LIM : Int) ≤ (n : Int) := by unfold LIM; omega
  have h2 : (n : Int) ≤ (LIM : Int) := by omega
  simp only [srcD]
  rw [if_pos ⟨h1, h2⟩]
  simp
theorem range_len : ∀ (n : Nat) (lo : Int), (rangeD lo n).length = n
  | 0, _ => rfl
  | n + 1, lo => by simp [rangeD, range_len n]
theorem range_get : ∀ (n : Nat) (lo : Int) (i : Nat) (x : D), (rangeD lo n)[i]? = some x → x = .int (lo + i) ∧ i < n
  | 0, _, _, _, h => by simp [rangeD] at h
  | n + 1, lo, 0, x, h => by simp [rangeD] at h; exact ⟨by rw [← h]; simp, by omega⟩
  | n + 1, lo, i + 1, x, h => by
    rw [rangeD, List.getElem?_cons_succ] at h
    obtain ⟨h1, h2⟩ := range_get n (lo + 1) i x h
    exact ⟨by rw [h1]; congr 1; omega, by omega⟩
theorem idx_str {x : List Nat} {n : Nat} (h : n < x.length) : idxD (.str x) (.int n) = .ok (.str [x[n]]) := by
  simp [idxD, opt, atI_nat x n h]
theorem idx_tup {x : List D} {n : Nat} (h : n < x.length) : idxD (.tup x) (.int n) = .ok x[n] := by
  simp [idxD, opt, atI_nat x n h]
theorem idx_lst {x : List D} {n : Nat} (h : n < x.length) : idxD (.lst x) (.int n) = .ok x[n] := by
  simp [idxD, opt, atI_nat x n h]
theorem idx_t0 {a : D} {l : List D} : idxD (.tup (a :: l)) (.int 0) = .ok a := by simp [idxD, opt, atI, ixN]
theorem idx_t1 {a b : D} {l : List D} : idxD (.tup (a :: b :: l)) (.int 1) = .ok b := by
  have h : (1 : Int) < (l.length : Int) + 1 + 1 := by omega
  simp [idxD, opt, atI, ixN, h]
theorem idx_t2 {a b c : D} {l : List D} : idxD (.tup (a :: b :: c :: l)) (.int 2) = .ok c := by
  have h : (2 : Int) < (l.length : Int) + 1 + 1 + 1 := by omega
  simp [idxD, opt, atI, ixN, h]
theorem idx_t3 {a b c d : D} {l : List D} : idxD (.tup (a :: b :: c :: d :: l)) (.int 3) = .ok d := by
  have h : (3 : Int) < (l.length : Int) + 1 + 1 + 1 + 1 := by omega
  simp [idxD, opt, atI, ixN, h]
theorem idx_last {a : D} {l : List D} : idxD (.lst (l ++ [a])) (.int (-1)) = .ok a := by
  have h : ¬ (0 : Int) ≤ -1 := by omega
  have h2 : -((l.length : Int) + 1) ≤ -1 := by omega
  have h3 : (-1 + ((l.length : Int) + 1)).toNat = l.length := by omega
  simp [idxD, opt, atI, ixN, h2, h3]
theorem asg_nm {i : Nat} {x : D} {r : List Slot} (h : i < r.length) : asg (.nm i) x r = .ok (r.set i (.val x)) := by simp [asg, h]
theorem add_str {a b : List Nat} (h : a.length + b.length < LIM) : binD .add (.str a) (.str b) = .ok (.str (a ++ b)) := by
  simp only [binD]; rw [if_pos h]
theorem r_text (m : Nat) (a b : Nat) (hb : b ≤ 100) : ∃ s, run prog (m + 2) .f_law_text [.int a, .int b] = .ok (.str s) ∧ s.length ≤ b ∧ ∀ c ∈ s, c ∈ kSigns := by
  obtain ⟨n, hn, hn2⟩ := mod_nat (a : Int) (show (0 : Int) < (b : Int) + 1 by omega)
  have key : ∃ d, run prog (m + 2) .f_law_text [.int a, .int b] = .ok d ∧ ∃ s, d = .str s ∧ s.length ≤ b ∧ ∀ c ∈ s, c ∈ kSigns := by
    refine run_wp rfl fun t ht => ?_
    show Wp _ b_law_text _ _ _
    unfold b_law_text
    refine wp_setN (.str kSigns) (by simp [e_var, e_kst, e_tup, e_lst, e_bin, e_cmp, e_idx, e_call, e_blt, es_nil, es_cons, start, prog, ht, r_signs]) (by simp [start, prog]) rfl ?_
    refine wp_setN (.str kSome) (by simp [e_var, e_kst, e_tup, e_lst, e_bin, e_cmp, e_idx, e_call, e_blt, es_nil, es_cons, kSome]) (by simp [start, prog]) rfl ?_
    refine wp_setN (.str []) (by simp [e_var, e_kst, e_tup, e_lst, e_bin, e_cmp, e_idx, e_call, e_blt, es_nil, es_cons]) (by simp [start, prog]) rfl ?_
    refine wp_for [.int n] (rangeD 0 n) (fun i r => ∃ s x5 x6 x7, r = [.val (.int a), .val (.int b), .val (.str kSigns), .val (.str kSome), .val (.str s), x5, x6, x7] ∧ s.length = i ∧ ∀ c ∈ s, c ∈ kSigns)
      (by simp [e_var, e_kst, e_tup, e_lst, e_bin, e_cmp, e_idx, e_call, e_blt, es_nil, es_cons, start, prog, addD, modD, hn, show (0 : Int) < (b : Int) + 1 by omega]) (srcD_range (by unfold LIM; omega)) ⟨[], .un, .un, .un, rfl, rfl, by simp⟩ (fun i x r hx hp => ?_) (fun r hp => ?_)
    · obtain ⟨hx, hi⟩ := range_get n 0 i x hx
      subst hx
      obtain ⟨s, x5, x6, x7, rfl, hs, hc⟩ := hp
      obtain ⟨v, hv, _⟩ := r_drawn m a (30 + i)
      obtain ⟨w, hw, hw2⟩ := mod_nat ((v : Int) / 4 / 4) (show (0 : Int) < 95 by decide)
      obtain ⟨w', hw', hw2'⟩ := mod_nat ((v : Int) / 4 / 4) (show (0 : Int) < 10 by decide)
      obtain ⟨q, hq, hq2⟩ := mod_nat ((v : Int) / 4) (show (0 : Int) < 2 by decide)
      have hwl : w < kSigns.length := by rw [signs_len]; omega
      have hwl' : w' < kSome.length := by have : kSome.length = 10 := rfl; omega
      have hl : s.length + 1 < LIM := by unfold LIM; omega
      refine ⟨_, asg_nm (by simp), ?_⟩
      simp only [List.set_cons_succ, List.set_cons_zero]
      refine wp_setV (.int ((v : Int) / 4)) (by simp [e_var, e_kst, e_tup, e_lst, e_bin, e_cmp, e_idx, e_call, e_blt, es_nil, es_cons, ht, hv, addD, fdivD]) (by simp) rfl ?_
      refine wp_setV (.str [kSigns[w]]) (by simp [e_var, e_kst, e_tup, e_lst, e_bin, e_cmp, e_idx, e_call, e_blt, es_nil, es_cons, fdivD, bltD, modD, signs_len, hw, idx_str, show w < 95 by omega]) (by simp) rfl ?_
      refine wp_setV (.str (s ++ [if q = 0 then kSigns[w] else kSome[w']])) ?_ (by simp) rfl (wp_nil ⟨_, _, _, _, rfl, by simp [hs], fun c hcm => ?_⟩)
      · rcases (show q = 0 ∨ q = 1 by omega) with h | h
        · subst h
          simp [e_var, e_kst, e_tup, e_lst, e_bin, e_cmp, e_idx, e_call, e_blt, es_nil, es_cons, fdivD, bltD, modD, hw, hw', hq, idx_str, hwl, show w' < 10 by omega, show kSome.length = 10 from rfl, idx_t0, idx_t1, add_str, hl]
        · subst h
          simp [e_var, e_kst, e_tup, e_lst, e_bin, e_cmp, e_idx, e_call, e_blt, es_nil, es_cons, fdivD, bltD, modD, hw, hw', hq, idx_str, hwl, show w' < 10 by omega, show kSome.length = 10 from rfl, idx_t0, idx_t1, add_str, hl]
      · rw [List.mem_append] at hcm
        rcases hcm with h | h
        · exact hc c h
        · rw [List.mem_singleton] at h
          subst h
          split
          · exact List.getElem_mem _
          · exact some_in _ (List.getElem_mem _)
    · obtain ⟨s, x5, x6, x7, rfl, hs, hc⟩ := hp
      rw [range_len] at hs
      exact wp_ret (.str s) (by simp [e_var, e_kst, e_tup, e_lst, e_bin, e_cmp, e_idx, e_call, e_blt, es_nil, es_cons]) ⟨s, rfl, by omega, hc⟩
  obtain ⟨d, h1, s, rfl, h2, h3⟩ := key
  exact ⟨s, h1, h2, h3⟩
def isLow (c : Nat) : Bool := decide (97 ≤ c) && decide (c ≤ 122)
def IsWord (w : List Nat) : Prop := 1 ≤ w.length ∧ w.length ≤ 5 ∧ ∀ c ∈ w, isLow c = true
def kLow : List Nat := [97, 98, 99, 100, 101, 102, 103, 104, 105, 106, 107, 108, 109, 110, 111, 112, 113, 114, 115, 116, 117, 118, 119, 120, 121, 122]
theorem low_of : ∀ c ∈ kLow, isLow c = true := by decide
def kWords : List (List Nat) := [[97], [98], [99], [100, 101], [115, 112, 97, 99, 101]]
theorem words_ok : ∀ w ∈ kWords, IsWord w := by
  intro w hw
  simp only [kWords, List.mem_cons, List.not_mem_nil, or_false] at hw
  rcases hw with rfl | rfl | rfl | rfl | rfl <;> (refine ⟨by decide, by decide, by decide⟩)
theorem txts_map (l : List (List Nat)) : txts (l.map D.str) = some l := by
  induction l with
  | nil => rfl
  | cons x r ih => simp [txts, ih]
theorem join_one : ∀ (l : List Nat), joinS [] (l.map fun c => [c]) = l
  | [] => rfl
  | [c] => rfl
  | c :: c' :: r => by
    show [c] ++ ([] ++ joinS [] ((c' :: r).map fun c => [c])) = _
    rw [join_one (c' :: r)]; rfl
theorem sum_one : ∀ (l : List Nat), sumLen (l.map fun c => [c]) = l.length
  | [] => rfl
  | c :: r => by simp [sumLen, sum_one r]; omega
theorem pick_str (ws : List (List Nat)) (v : Nat) (h : v < ws.length) : ∃ w ∈ ws, idxD (.tup (ws.map .str)) (.int v) = .ok (.str w) :=
  ⟨ws[v], List.getElem_mem _, by rw [idx_tup (by simpa using h), List.getElem_map]⟩
theorem pick_int (ws : List Int) (v : Nat) (h : v < ws.length) : ∃ w ∈ ws, idxD (.tup (ws.map .int)) (.int v) = .ok (.int w) :=
  ⟨ws[v], List.getElem_mem _, by rw [idx_tup (by simpa using h), List.getElem_map]⟩
theorem join_chars (l : List Nat) (h : l.length < LIM) : mthD .join (.str []) [.lst (l.map fun c => .str [c])] = .ok (.str l) := by
  have e : l.map (fun c => D.str [c]) = (l.map fun c => [c]).map D.str := by rw [List.map_map]; rfl
  simp only [mthD]
  rw [e, txts_map]
  simp only [sum_one, join_one, List.length_nil, Nat.zero_mul, Nat.add_zero]
  rw [if_pos h]
theorem r_word (m : Nat) (a : Nat) : ∃ w, run prog (m + 2) .f_law_word [.int a] = .ok (.str w) ∧ IsWord w := by
  have key : ∃ d, run prog (m + 2) .f_law_word [.int a] = .ok d ∧ ∃ w, d = .str w ∧ IsWord w := by
    refine run_wp rfl fun t ht => ?_
    show Wp _ b_law_word _ _ _
    unfold b_law_word
    refine wp_setN (.str kLow) (by simp [e_var, e_kst, e_tup, e_lst, e_bin, e_cmp, e_idx, e_call, e_blt, es_nil, es_cons, kLow]) (by simp [start, prog]) rfl ?_
    refine wp_if0 (decide (0 < (a : Int) % 4)) (by simp [e_var, e_kst, e_tup, e_lst, e_bin, e_cmp, e_idx, e_call, e_blt, es_nil, es_cons, start, prog, modD, cmpD]) (fun hb => ?_) (fun hb => ?_)
    · obtain ⟨v, hv, hv2⟩ := mod_nat ((a : Int) / 4) (show (0 : Int) < 5 by decide)
      refine wp_setV (.int v) (by simp [e_var, e_kst, e_tup, e_lst, e_bin, e_cmp, e_idx, e_call, e_blt, es_nil, es_cons, start, prog, modD, fdivD, hv]) (by simp [start, prog]) rfl ?_
      refine wp_if0 (decide (0 < (a : Int) / 32 % 4)) (by simp [e_var, e_kst, e_tup, e_lst, e_bin, e_cmp, e_idx, e_call, e_blt, es_nil, es_cons, start, prog, modD, fdivD, cmpD]) (fun hb => ?_) (fun hb => ?_)
      · refine wp_setV (.int ((if v < 3 then v else 3 : Nat) : Int)) ?_ (by simp [start, prog]) rfl (wp_nil ?_)
        · by_cases h : v < 3
          · simp [e_var, e_kst, e_tup, e_lst, e_bin, e_cmp, e_idx, e_call, e_blt, es_nil, es_cons, start, prog, bltD, h]; omega
          · simp [e_var, e_kst, e_tup, e_lst, e_bin, e_cmp, e_idx, e_call, e_blt, es_nil, es_cons, start, prog, bltD, h]; omega
        · obtain ⟨w, hw, he⟩ := pick_str kWords (if v < 3 then v else 3) (by show _ < 5; split <;> omega)
          refine wp_ret (.str w) ?_ ⟨_, rfl, words_ok _ hw⟩
          simp [e_var, e_kst, e_tup, e_lst, e_bin, e_cmp, e_idx, e_call, e_blt, es_nil, es_cons, start, prog]
          exact he
      · obtain ⟨w, hw, he⟩ := pick_str kWords v (by show _ < 5; omega)
        refine wp_ret (.str w) ?_ ⟨_, rfl, words_ok _ hw⟩
        simp [e_var, e_kst, e_tup, e_lst, e_bin, e_cmp, e_idx, e_call, e_blt, es_nil, es_cons, start, prog]
        exact he
    · obtain ⟨v, hv, hv2⟩ := mod_nat ((a : Int) / 4) (show (0 : Int) < 5 by decide)
      obtain ⟨ys, hy, hl, hc⟩ := lcL_each (P := fun y => ∃ c, y = .str [c] ∧ isLow c = true) (f := lcB t (.nm 3) [Slot.val (.int a), .val (.str kLow), .un, .un] [] (.idx (.var 1) (.bin .mod (.bin .fdiv (.call .f_law_drawn [(.var 0), (.var 3)]) (.kst (.int 4))) (.kst (.int 26))))) (rangeD 0 (1 + v)) fun x hx => by
        obtain ⟨i, hi⟩ := List.getElem?_of_mem hx
        obtain ⟨rfl, _⟩ := range_get _ _ _ _ hi
        obtain ⟨x, hx, _⟩ := r_drawn m a (0 + i)
        obtain ⟨w, hw, hw2⟩ := mod_nat ((x : Int) / 4) (show (0 : Int) < 26 by decide)
        have hwl : w < kLow.length := by show w < 26; omega
        exact ⟨.str [kLow[w]], lcB_0 (asg_nm (by simp)) (by simp [e_var, e_kst, e_tup, e_lst, e_bin, e_cmp, e_idx, e_call, e_blt, es_nil, es_cons, ht]; simp at hx; simp [hx, fdivD, modD, hw, idx_str hwl]), _, rfl, low_of _ (List.getElem_mem _)⟩
      obtain ⟨l, rfl, hlow⟩ := map_of ys hc
      rw [List.length_map, range_len] at hl
      refine wp_ret (.str l) ?_ ⟨l, rfl, by omega, by omega, hlow⟩
      have hr := srcD_range (n := 1 + v) (by unfold LIM; omega)
      have hn : (1 : Int) + (v : Int) = ((1 + v : Nat) : Int) := by omega
      simp [e_var, e_kst, e_tup, e_lst, e_bin, e_cmp, e_idx, e_call, e_blt, es_nil, es_cons, e_mth, e_lc, start, prog, modD, fdivD, addD, hv, mthOk]
      rw [hn, hr]
      simp only [R.ok_bind]
      rw [hy]
      exact join_chars l (by unfold LIM; omega)
  obtain ⟨d, h1, s, rfl, h2⟩ := key
  exact ⟨s, h1, h2⟩
end Mk
end
section
set_option linter.all false
set_option maxRecDepth 100000
namespace Mk
abbrev Sc := List (List Nat × List Nat)
def kS : List Nat := [115, 112, 97, 99, 101]
def kSC : List Nat := [115, 112, 97, 99, 101, 58]
/-- a pair of texts -/
def pr (p : List Nat × List Nat) : D := .tup [.str p.1, .str p.2]
def scD (sc : Sc) : D := .dct (sc.map (·.1)) (sc.map fun p => .str p.2)
def lookS (k : List Nat) : Sc → Option (List Nat)
  | [] => none
  | p :: r => if p.1 = k then some p.2 else lookS k r
def putS (k v : List Nat) (sc : Sc) : Sc := if (lookS k sc).isSome then sc.map (fun p => if p.1 = k then (p.1, v) else p) else sc ++ [(k, v)]
theorem look_sc (k : List Nat) : ∀ sc : Sc, look k (sc.map (·.1)) (sc.map fun p => D.str p.2) = (lookS k sc).map D.str
  | [] => rfl
  | p :: r => by
    simp only [List.map_cons, look, lookS]
    split
    · rfl
    · exact look_sc k r
theorem putD_sc (k v : List Nat) : ∀ sc : Sc, putD k (.str v) (sc.map (·.1)) (sc.map fun p => D.str p.2) = (sc.map fun p => if p.1 = k then (p.1, v) else p).map fun p => D.str p.2
  | [] => rfl
  | p :: r => by
    simp only [List.map_cons, putD]
    rw [putD_sc k v r]
    split <;> rfl
theorem put_sc {k v : List Nat} {sc : Sc} (h : sc.length < LIM) : putR (scD sc) (.str k) (.str v) = .ok (scD (putS k v sc)) := by
  unfold scD
  simp only [putR]
  rw [look_sc]
  unfold putS
  cases hk : (lookS k sc) with
  | some x =>
    simp only [Option.map_some, Option.isSome_some, if_true]
    rw [putD_sc]
    have : (sc.map fun p => if p.1 = k then (p.1, v) else p).map (·.1) = sc.map (·.1) := by
      rw [List.map_map]
      refine List.map_congr_left fun p _ => ?_
      simp only [Function.comp]
      split <;> rfl
    rw [this]
  | none =>
    simp only [Option.map_none, Option.isSome_none, Bool.false_eq_true, if_false, List.length_map]
    rw [if_pos h]
    simp
def laidS (sc : Sc) : Sc → Sc
  | [] => sc
  | p :: r => laidS (let a := if p.1 = kS then putS [] p.2 sc else sc; if p.1.take 6 = kSC then putS (p.1.drop 6) p.2 a else a) r
theorem put_len (k v : List Nat) (sc : Sc) : (putS k v sc).length ≤ sc.length + 1 := by
  unfold putS; split <;> simp
theorem asg_2 {i j : Nat} {a b : D} {r : List Slot} (hi : i < r.length) (hj : j < r.length) : asg (.tp [i, j]) (.tup [a, b]) r = .ok ((r.set i (.val a)).set j (.val b)) := by
  simp [asg, setAll, opt, hi, hj]
theorem asg_2t {i j : Nat} {a b : D} {r : List Slot} (hi : i < r.length) (hj : j < r.length) : asg (.tp [i, j]) (.tpl [a, b]) r = .ok ((r.set i (.val a)).set j (.val b)) := by
  simp [asg, setAll, opt, hi, hj]
theorem cut_to {α : Type} (xs : List α) (n : Nat) : cut xs none (some (n : Int)) = xs.take n := by
  unfold cut sIx
  have : ¬ (n : Int) < 0 := by omega
  simp only [List.drop_zero, this, if_false, Int.toNat_natCast, Nat.sub_zero]
  rcases Nat.le_total n xs.length with h | h
  · rw [Nat.min_eq_left h]
  · rw [Nat.min_eq_right h, List.take_length, List.take_of_length_le h]
theorem cut_from {α : Type} (xs : List α) (n : Nat) : cut xs (some (n : Int)) none = xs.drop n := by
  unfold cut sIx
  have : ¬ (n : Int) < 0 := by omega
  simp only [this, if_false, Int.toNat_natCast]
  rcases Nat.le_total n xs.length with h | h
  · rw [Nat.min_eq_left h]
    exact List.take_of_length_le (by simp)
  · rw [Nat.min_eq_right h]
    simp [List.drop_eq_nil_of_le h]
theorem slc_to6 (x : List Nat) : slcD (.str x) none (some 6) = .ok (.str (x.take 6)) := by
  have := cut_to x 6
  simp only [slcD]
  rw [show (6 : Int) = ((6 : Nat) : Int) from rfl, this]
theorem slc_from6 (x : List Nat) : slcD (.str x) (some 6) none = .ok (.str (x.drop 6)) := by
  have := cut_from x 6
  simp only [slcD]
  rw [show (6 : Int) = ((6 : Nat) : Int) from rfl, this]
theorem eq_str (a b : List Nat) : cmpD .eq (.str a) (.str b) = .ok (.bl (a == b)) := by simp [cmpD, fl, eqv]
theorem ne_str (a b : List Nat) : cmpD .ne (.str a) (.str b) = .ok (.bl (!(a == b))) := by simp [cmpD, fl, eqv]
theorem r_laid (m : Nat) (sc : Sc) (ps : Sc) (hl : sc.length + 2 * ps.length < LIM) (ds : D) (hds : itemsD ds = some (ps.map pr)) : run prog (m + 1) .f_law_laid [scD sc, ds] = .ok (scD (laidS sc ps)) := by
  refine run_is rfl fun t ht => ?_
  show Wp _ b_law_laid _ _ _
  unfold b_law_laid
  refine wp_setO (scD sc) (by simp [e_var, e_kst, e_tup, e_lst, e_bin, e_cmp, e_idx, e_call, e_blt, es_nil, es_cons, start, prog, bltD, scD]) (by simp [start, prog]) rfl rfl ?_
  refine wp_for [ds] (ps.map pr) (fun i r => ∃ a x3 x4, r = [.val (scD sc), .val ds, .own (scD a), x3, x4] ∧ a.length ≤ sc.length + 2 * i ∧ laidS a (ps.drop i) = laidS sc ps)
    (by simp [e_var, e_kst, e_tup, e_lst, e_bin, e_cmp, e_idx, e_call, e_blt, es_nil, es_cons, start, prog]) (by simp [srcD, hds, opt]) ⟨sc, .un, .un, rfl, by simp, by simp⟩ (fun i x r hx hp => ?_) (fun r hp => ?_)
  · obtain ⟨a, x3, x4, rfl, ha, hq⟩ := hp
    rw [List.getElem?_map] at hx
    cases hpi : ps[i]? with
    | none => rw [hpi] at hx; cases hx
    | some p =>
      rw [hpi] at hx
      cases hx
      have hi : i < ps.length := (List.getElem?_eq_some_iff.mp hpi).1
      have hdr : ps.drop i = p :: ps.drop (i + 1) := by
        rw [← (List.getElem?_eq_some_iff.mp hpi).2]; exact List.drop_eq_getElem_cons hi
      rw [hdr, laidS] at hq
      refine ⟨_, asg_2 (by simp) (by simp), ?_⟩
      simp only [List.set_cons_succ, List.set_cons_zero]
      have two : ∀ (b : Sc) (hb : b.length ≤ a.length + 1) (he : laidS (if p.1.take 6 = kSC then putS (p.1.drop 6) p.2 b else b) (ps.drop (i + 1)) = laidS sc ps),
          Wp t [.ife (.cmp .eq (.slc (.var 3) [] [(.kst (.int 6))]) (.kst (.str kSC))) [.put 2 (.slc (.var 3) [(.kst (.int 6))] []) (.var 4)] []] [.val (scD sc), .val ds, .own (scD b), .val (.str p.1), .val (.str p.2)]
            (fun r => ∃ a x3 x4, r = [.val (scD sc), .val ds, .own (scD a), x3, x4] ∧ a.length ≤ sc.length + 2 * (i + 1) ∧ laidS a (ps.drop (i + 1)) = laidS sc ps) (fun d => d = scD (laidS sc ps)) := by
        intro b hb he
        refine wp_if0 (p.1.take 6 == kSC) (by simp [e_var, e_kst, e_tup, e_lst, e_bin, e_cmp, e_idx, e_call, e_blt, es_nil, es_cons, e_slc, part1, slc_to6, eq_str]) (fun hc => ?_) (fun hc => ?_)
        · refine wp_put (.str p.2) (.str (p.1.drop 6)) (scD (putS (p.1.drop 6) p.2 b)) rfl (by simp [e_var, e_kst, e_tup, e_lst, e_bin, e_cmp, e_idx, e_call, e_blt, es_nil, es_cons]) (by simp [e_var, e_kst, e_tup, e_lst, e_bin, e_cmp, e_idx, e_call, e_blt, es_nil, es_cons, e_slc, part1, slc_from6]) (put_sc (by omega)) (wp_nil (wp_nil ⟨_, _, _, rfl, ?_, ?_⟩))
          · have := put_len (p.1.drop 6) p.2 b; omega
          · rw [if_pos (beq_iff_eq.mp hc)] at he; exact he
        · refine wp_nil ⟨_, _, _, rfl, by omega, ?_⟩
          rw [if_neg (beq_eq_false_iff_ne.mp hc)] at he; exact he
      refine wp_if0 (p.1 == kS) (by simp [e_var, e_kst, e_tup, e_lst, e_bin, e_cmp, e_idx, e_call, e_blt, es_nil, es_cons, eq_str, kS]) (fun hb => ?_) (fun hb => ?_)
      · refine wp_put (.str p.2) (.str []) (scD (putS [] p.2 a)) rfl (by simp [e_var, e_kst, e_tup, e_lst, e_bin, e_cmp, e_idx, e_call, e_blt, es_nil, es_cons]) (by simp [e_var, e_kst, e_tup, e_lst, e_bin, e_cmp, e_idx, e_call, e_blt, es_nil, es_cons]) (put_sc (by omega)) (wp_nil ?_)
        refine two _ (put_len _ _ _) ?_
        simp only [beq_iff_eq.mp hb, if_true] at hq
        simpa [beq_iff_eq.mp hb] using hq
      · refine two a (by omega) ?_
        simp only [beq_eq_false_iff_ne.mp hb, if_false] at hq
        exact hq
  · obtain ⟨a, x3, x4, rfl, ha, hq⟩ := hp
    rw [List.length_map, List.drop_length] at hq
    exact wp_ret (scD a) (by simp [e_var, e_kst, e_tup, e_lst, e_bin, e_cmp, e_idx, e_call, e_blt, es_nil, es_cons]) (by rw [← hq]; rfl)
end Mk
end
section
set_option linter.all false
set_option maxRecDepth 100000
namespace Mk
def Sgn (s : List Nat) : Prop := ∀ c ∈ s, c ∈ kSigns
theorem r_space (m : Nat) (a : Nat) : ∃ s, run prog (m + 3) .f_law_space [.int a] = .ok (.str s) ∧ s.length ≤ 5 ∧ Sgn s := by
  obtain ⟨n, hn, hn2⟩ := mod_nat (a : Int) (show (0 : Int) < 5 by decide)
  obtain ⟨s, hs, hs2, hs3⟩ := r_text m (a / 8) 5 (by decide)
  obtain ⟨w, hw, he⟩ := pick_str [[117], [118], [119], [], s] n (by show n < 5; omega)
  refine ⟨w, run_is rfl fun t ht => ?_, ?_⟩
  · show Wp _ b_law_space _ _ _
    unfold b_law_space
    refine wp_ret (.str w) ?_ rfl
    have h8 : (a : Int) / 8 = ((a / 8 : Nat) : Int) := by omega
    have hs' : run prog (m + 2) .f_law_text [.int ((a : Int) / 8), .int 5] = .ok (.str s) := by rw [h8]; exact hs
    simp [e_var, e_kst, e_tup, e_lst, e_bin, e_cmp, e_idx, e_call, e_blt, es_nil, es_cons, start, prog, fdivD, modD, hn, ht, hs']
    exact he
  · simp only [List.mem_cons, List.not_mem_nil, or_false] at hw
    rcases hw with rfl | rfl | rfl | rfl | rfl
    · exact ⟨by decide, by unfold Sgn; decide⟩
    · exact ⟨by decide, by unfold Sgn; decide⟩
    · exact ⟨by decide, by unfold Sgn; decide⟩
    · exact ⟨by decide, by unfold Sgn; decide⟩
    · exact ⟨hs2, hs3⟩
def kPf : List (List Nat) := [[], [112], [113], [112, 112]]
def layNm (p : List Nat) : List Nat := if p = [] then kS else kSC ++ p
structure LayOk (p : List Nat × List Nat) : Prop where
  nm : ∃ pf ∈ kPf, p.1 = layNm pf ∧ (pf ≠ [] → p.2 ≠ [])
  len : p.2.length ≤ 5
  sgn : Sgn p.2
theorem isAny_str (x : List Nat) (l : List (List Nat)) : isAny (.str x) (l.map D.str) = l.any (· == x) := by
  induction l with
  | nil => rfl
  | cons a r ih =>
    simp only [isAny, List.map_cons, List.any_cons] at ih ⊢
    rw [ih]
    simp [eqv]
theorem fls_str (n : Nat) (l : List (List Nat)) : fls (l.map D.str) n = true := by
  induction l with
  | nil => rfl
  | cons a r ih => simp [fls, fl, ih]
theorem notin_str (x : List Nat) (l : List (List Nat)) : cmpD .notin (.str x) (.lst (l.map D.str)) = .ok (.bl (!l.any (· == x))) := by
  simp only [cmpD, fls_str, isAny_str]; simp [fl]
theorem lay_name {pf : List Nat} (h : pf.length < 100) : (do let y ← (do let x ← binD .add (.str [58]) (.str pf); binD .mul x (.int (if (!(pf == [])) = true then 1 else 0))); binD .add (.str [115, 112, 97, 99, 101]) y) = .ok (.str (layNm pf)) := by
  have h1 : ([58] : List Nat).length + pf.length < LIM := by unfold LIM; simp; omega
  rw [add_str h1]
  simp only [R.ok_bind]
  unfold layNm
  by_cases hp : pf = []
  · subst hp
    simp [binD, kS, LIM]
  · have : (pf == []) = false := by simpa using hp
    simp [binD, this, hp, kSC]
    unfold LIM; omega
theorem r_lays (m : Nat) (a : Nat) : ∃ ps : Sc, run prog (m + 4) .f_law_lays [.int a] = .ok (.lst (ps.map pr)) ∧ ps.length ≤ 3 ∧ (ps.map (·.1)).Nodup ∧ ∀ p ∈ ps, LayOk p := by
  obtain ⟨n, hn, hn2⟩ := mod_nat (a : Int) (show (0 : Int) < 6 by decide)
  obtain ⟨c, hc, he⟩ := pick_int [0, 0, 1, 1, 2, 3] n (by show n < 6; omega)
  obtain ⟨c, rfl⟩ := nat_of (x := c) ((show ∀ x ∈ ([0, 0, 1, 1, 2, 3] : List Int), 0 ≤ x by decide) _ hc)
  have hc3 : c ≤ 3 := by
    have : ∀ x ∈ ([0, 0, 1, 1, 2, 3] : List Int), x ≤ 3 := by decide
    have := this _ hc; omega
  have key : ∃ d, run prog (m + 4) .f_law_lays [.int a] = .ok d ∧ ∃ ps : Sc, d = .lst (ps.map pr) ∧ ps.length ≤ 3 ∧ (ps.map (·.1)).Nodup ∧ ∀ p ∈ ps, LayOk p := by
    refine run_wp rfl fun t ht => ?_
    show Wp _ b_law_lays _ _ _
    unfold b_law_lays
    refine wp_setO (.lst []) (by simp [e_var, e_kst, e_tup, e_lst, e_bin, e_cmp, e_idx, e_call, e_blt, es_nil, es_cons]) (by simp [start, prog]) rfl rfl ?_
    refine wp_for [.int c] (rangeD 0 c) (fun i r => ∃ (ps : Sc) (x2 x3 x4 x5 x6 x7 : Slot), r = [.val (.int a), .own (.lst (ps.map pr)), x2, x3, x4, x5, x6, x7] ∧ ps.length ≤ i ∧ (ps.map (·.1)).Nodup ∧ ∀ p ∈ ps, LayOk p)
      (by simp [e_var, e_kst, e_tup, e_lst, e_bin, e_cmp, e_idx, e_call, e_blt, es_nil, es_cons, start, prog, modD, hn]; rw [show ([D.int 0, D.int 0, D.int 1, D.int 1, D.int 2, D.int 3] : List D) = ([0, 0, 1, 1, 2, 3] : List Int).map .int from rfl, he]; rfl) (srcD_range (by unfold LIM; omega)) ⟨[], .un, .un, .un, .un, .un, .un, rfl, by simp, by simp, by simp⟩ (fun i x r hx hp => ?_) (fun r hp => ?_)
    · obtain ⟨hx, hi⟩ := range_get c 0 i x hx
      subst hx
      obtain ⟨ps, x2, x3, x4, x5, x6, x7, rfl, hl, hnd, hok⟩ := hp
      obtain ⟨v, hv, _⟩ := r_drawn (m + 2) a (50 + i)
      obtain ⟨q, hq, hq2⟩ := mod_nat ((v : Int) / 4) (show (0 : Int) < 4 by decide)
      obtain ⟨pf, hpf, hpe⟩ := pick_str kPf q (by show q < 4; omega)
      obtain ⟨s, hs, hs2, hs3⟩ := r_space m (v / 4 / 4)
      refine ⟨_, asg_nm (by simp), ?_⟩
      simp only [List.set_cons_succ, List.set_cons_zero]
      refine wp_setV (.int ((v : Int) / 4)) (by simp [e_var, e_kst, e_tup, e_lst, e_bin, e_cmp, e_idx, e_call, e_blt, es_nil, es_cons, ht, hv, addD, fdivD]) (by simp) rfl ?_
      refine wp_setN (.str pf) ?_ (by simp) rfl ?_
      · simp [e_var, e_kst, e_tup, e_lst, e_bin, e_cmp, e_idx, e_call, e_blt, es_nil, es_cons, modD, hq]; exact hpe
      simp only [List.set_cons_succ, List.set_cons_zero]
      have h44 : (v : Int) / 4 / 4 = ((v / 4 / 4 : Nat) : Int) := by omega
      refine wp_setN (.str s) ?_ (by simp) rfl ?_
      · have hs' : run prog (m + 3) .f_law_space [.int ((v : Int) / 4 / 4)] = .ok (.str s) := by rw [h44]; exact hs
        simp [e_var, e_kst, e_tup, e_lst, e_bin, e_cmp, e_idx, e_call, e_blt, es_nil, es_cons, ht, fdivD, hs']
      simp only [List.set_cons_succ, List.set_cons_zero]
      have fin : ∀ s' : List Nat, s'.length ≤ 5 → Sgn s' → (pf ≠ [] → s' ≠ []) → Wp t [.set 6 (.bin .add (.kst (.str [115, 112, 97, 99, 101])) (.bin .mul (.bin .add (.kst (.str [58])) (.var 4)) (.blt .int [(.cmp .ne (.var 4) (.kst (.str [])))]))),
          .ife (.cmp .notin (.var 6) (.lc (.nm 7) .it [(.var 1)] [] (.idx (.var 7) (.kst (.int 0))))) [.app 1 (.tup [(.var 6), (.var 5)])] []]
          [.val (.int a), .own (.lst (ps.map pr)), .val (.int (0 + i)), .val (.int ((v : Int) / 4)), .val (.str pf), .val (.str s'), x6, x7]
          (fun r => ∃ (ps : Sc) (x2 x3 x4 x5 x6 x7 : Slot), r = [.val (.int a), .own (.lst (ps.map pr)), x2, x3, x4, x5, x6, x7] ∧ ps.length ≤ i + 1 ∧ (ps.map (·.1)).Nodup ∧ ∀ p ∈ ps, LayOk p) (fun d => ∃ ps : Sc, d = .lst (ps.map pr) ∧ ps.length ≤ 3 ∧ (ps.map (·.1)).Nodup ∧ ∀ p ∈ ps, LayOk p) := by
        intro s' h1 h2 h3
        have hpl : pf.length < 100 := by
          have : ∀ x ∈ kPf, x.length < 100 := by decide
          exact this _ hpf
        refine wp_setV (.str (layNm pf)) ?_ (by simp) rfl ?_
        · have := lay_name hpl
          simp [e_var, e_kst, e_tup, e_lst, e_bin, e_cmp, e_idx, e_call, e_blt, es_nil, es_cons, ne_str, bltD]
          simpa using this
        simp only [List.set_cons_succ, List.set_cons_zero]
        refine wp_if0 (!(ps.map (·.1)).any (· == layNm pf)) ?_ (fun hb => ?_) (fun hb => ?_)
        · have := notin_str (layNm pf) (ps.map (·.1))
          rw [List.map_map] at this
          simp only [e_var, e_kst, e_tup, e_lst, e_bin, e_cmp, e_idx, e_call, e_blt, es_nil, es_cons, e_lc, srcD, itemsD, opt, id, R.ok_bind, List.getElem?_cons_succ, List.getElem?_cons_zero, if_true]
          rw [lcL_map (g := fun d => match d with | .tup (x :: _) => x | d => d)]
          · simp only [R.ok_bind, List.map_map]
            exact this
          · intro x hx
            obtain ⟨p, _, rfl⟩ := List.mem_map.mp hx
            exact lcB_0 (asg_nm (by simp)) (by simp [e_var, e_kst, e_tup, e_lst, e_bin, e_cmp, e_idx, e_call, e_blt, es_nil, es_cons, pr, idx_t0])
        · refine wp_app (pr (layNm pf, s')) rfl (by simp [e_var, e_kst, e_tup, e_lst, e_bin, e_cmp, e_idx, e_call, e_blt, es_nil, es_cons, pr]) (by simp; unfold LIM; omega) (wp_nil (wp_nil ⟨ps ++ [(layNm pf, s')], .val (.int (0 + i)), .val (.int ((v : Int) / 4)), .val (.str pf), .val (.str s'), .val (.str (layNm pf)), x7, by simp, by simp; omega, ?_, fun p hp => ?_⟩))
          · rw [List.map_append, List.map_singleton]
            refine List.nodup_append.mpr ⟨hnd, by simp, fun x hx y hy => ?_⟩
            rw [List.mem_singleton] at hy
            subst hy
            intro hxy
            subst hxy
            simp only [Bool.not_eq_true', List.any_eq_false] at hb
            exact hb _ hx (by simp)
          · rcases List.mem_append.mp hp with hp | hp
            · exact hok p hp
            · rw [List.mem_singleton] at hp
              subst hp
              exact ⟨⟨pf, hpf, rfl, h3⟩, h1, h2⟩
        · exact wp_nil ⟨ps, _, _, _, _, _, _, rfl, by omega, hnd, hok⟩
      refine wp_if0 (!(pf == []) && (s == [])) ?_ (fun hb => ?_) (fun hb => ?_)
      · rw [e_and (k := !(pf == [])) (by simp [e_var, e_kst, e_tup, e_lst, e_bin, e_cmp, e_idx, e_call, e_blt, es_nil, es_cons, ne_str])]
        cases hpp : (pf == []) <;> simp [e_var, e_kst, e_tup, e_lst, e_bin, e_cmp, e_idx, e_call, e_blt, es_nil, es_cons, eq_str]
      · refine wp_setN (.str [117]) (by simp [e_var, e_kst, e_tup, e_lst, e_bin, e_cmp, e_idx, e_call, e_blt, es_nil, es_cons]) (by simp) rfl (wp_nil ?_)
        exact fin [117] (by decide) (by unfold Sgn; decide) (fun _ => by simp)
      · refine fin s hs2 hs3 fun hne => ?_
        intro hse
        subst hse
        simp at hb
        exact hne hb
    · obtain ⟨ps, x2, x3, x4, x5, x6, x7, rfl, hl, hnd, hok⟩ := hp
      rw [range_len] at hl
      exact wp_ret (.lst (ps.map pr)) (by simp [e_var, e_kst, e_tup, e_lst, e_bin, e_cmp, e_idx, e_call, e_blt, es_nil, es_cons]) ⟨ps, rfl, by omega, hnd, hok⟩
  obtain ⟨d, h1, ps, rfl, h2⟩ := key
  exact ⟨ps, h1, h2⟩
end Mk
end
section
set_option linter.all false
set_option maxRecDepth 100000
namespace Mk
structure ScOk (sc : Sc) : Prop where
  nd : (sc.map (·.1)).Nodup
  mem : ∀ p ∈ sc, p.1 ∈ kPf ∧ p.2.length ≤ 5 ∧ Sgn p.2 ∧ (p.1 ≠ [] → p.2 ≠ [])
theorem pf_len : ∀ x ∈ kPf, x.length ≤ 2 := by decide
theorem nodup_in {α : Type} [DecidableEq α] : ∀ (l m : List α), l.Nodup → (∀ x ∈ l, x ∈ m) → l.length ≤ m.length
  | [], _, _, _ => Nat.zero_le _
  | x :: l, m, hn, hs => by
    obtain ⟨h1, h2⟩ := List.nodup_cons.mp hn
    have hx : x ∈ m := hs x List.mem_cons_self
    have ih := nodup_in l (m.erase x) h2 fun y hy => by
      have hne : y ≠ x := fun e => h1 (e ▸ hy)
      exact (List.mem_erase_of_ne hne).2 (hs y (List.mem_cons_of_mem _ hy))
    have e := List.length_erase_of_mem hx
    have hp : 0 < m.length := List.length_pos_of_mem hx
    rw [List.length_cons]; omega
theorem ScOk.len {sc : Sc} (h : ScOk sc) : sc.length ≤ 4 := by
  have := nodup_in (sc.map (·.1)) kPf h.nd fun x hx => by
    obtain ⟨p, hp, rfl⟩ := List.mem_map.mp hx
    exact (h.mem p hp).1
  rw [List.length_map] at this
  exact this
theorem lookS_none {k : List Nat} : ∀ {sc : Sc}, lookS k sc = none → k ∉ sc.map (·.1)
  | [], _ => by simp
  | p :: r, h => by
    rw [lookS] at h
    split at h
    · cases h
    · rename_i hne
      rw [List.map_cons, List.mem_cons, not_or]
      exact ⟨fun e => hne e.symm, lookS_none h⟩
theorem lookS_some {k v : List Nat} : ∀ {sc : Sc}, lookS k sc = some v → (k, v) ∈ sc
  | [], h => by cases h
  | p :: r, h => by
    rw [lookS] at h
    split at h
    · rename_i he
      cases h
      rw [← he]; exact List.mem_cons_self
    · exact List.mem_cons_of_mem _ (lookS_some h)
theorem lookS_in {k : List Nat} : ∀ {sc : Sc}, k ∈ sc.map (·.1) → ∃ v, lookS k sc = some v
  | [], h => by simp at h
  | p :: r, h => by
    rw [lookS]
    by_cases e : p.1 = k
    · rw [if_pos e]; exact ⟨_, rfl⟩
    · rw [if_neg e]
      rw [List.map_cons, List.mem_cons] at h
      rcases h with h | h
      · exact absurd h.symm e
      · exact lookS_in h
theorem putS_ok {k v : List Nat} {sc : Sc} (h : ScOk sc) (h1 : k ∈ kPf) (h2 : v.length ≤ 5) (h3 : Sgn v) (h4 : k ≠ [] → v ≠ []) : ScOk (putS k v sc) := by
  unfold putS
  split
  · refine ⟨?_, fun p hp => ?_⟩
    · have : (sc.map fun p => if p.1 = k then (p.1, v) else p).map (·.1) = sc.map (·.1) := by
        rw [List.map_map]
        refine List.map_congr_left fun p _ => ?_
        simp only [Function.comp]
        split <;> rfl
      rw [this]; exact h.nd
    · obtain ⟨q, hq, rfl⟩ := List.mem_map.mp hp
      split
      · rename_i e; rw [e]; exact ⟨h1, h2, h3, h4⟩
      · exact h.mem q hq
  · rename_i hn
    have hn : lookS k sc = none := by
      cases e : lookS k sc with
      | none => rfl
      | some x => rw [e] at hn; simp at hn
    refine ⟨?_, fun p hp => ?_⟩
    · rw [List.map_append, List.map_singleton]
      refine List.nodup_append.mpr ⟨h.nd, by simp, fun x hx y hy => ?_⟩
      rw [List.mem_singleton] at hy
      subst hy
      intro e
      exact lookS_none hn (e ▸ hx)
    · rcases List.mem_append.mp hp with hp | hp
      · exact h.mem p hp
      · rw [List.mem_singleton] at hp; subst hp; exact ⟨h1, h2, h3, h4⟩
theorem lay_is (pf : List Nat) : (layNm pf = kS ↔ pf = []) ∧ ((layNm pf).take 6 = kSC ↔ pf ≠ []) ∧ (pf ≠ [] → (layNm pf).drop 6 = pf) := by
  unfold layNm
  by_cases h : pf = []
  · subst h
    simp [kS, kSC]
  · simp only [h, if_false, iff_false, ne_eq, not_false_eq_true, iff_true, forall_const]
    refine ⟨fun e => ?_, ?_, ?_⟩
    · have := congrArg List.length e
      simp [kSC, kS] at this
    · simp [kSC]
    · simp [kSC]
/-- what a plain value's name is not -/
def NoLay (n : List Nat) : Prop := n ≠ kS ∧ n.take 6 ≠ kSC
theorem laidS_ok : ∀ (ps : Sc) (sc : Sc), ScOk sc → (∀ p ∈ ps, LayOk p ∨ NoLay p.1) → ScOk (laidS sc ps)
  | [], sc, h, _ => h
  | p :: ps, sc, h, hp => by
    rw [laidS]
    refine laidS_ok ps _ ?_ fun q hq => hp q (List.mem_cons_of_mem _ hq)
    rcases hp p List.mem_cons_self with hl | hl
    · obtain ⟨⟨pf, hpf, e, hne⟩, hlen, hs⟩ := hl
      obtain ⟨i1, i2, i3⟩ := lay_is pf
      by_cases hz : pf = []
      · have a1 : p.1 = kS := by rw [e]; exact i1.mpr hz
        have a2 : ¬ p.1.take 6 = kSC := by rw [e, i2]; exact fun h => h hz
        simp only [a1, if_true]
        rw [a1] at a2
        simp only [a2, if_false]
        exact putS_ok h (by decide) hlen hs (fun h => absurd rfl h)
      · have a1 : ¬ p.1 = kS := by rw [e, i1]; exact hz
        have a2 : p.1.take 6 = kSC := by rw [e]; exact i2.mpr hz
        simp only [a1, a2, if_true, if_false]
        rw [e, i3 hz]
        exact putS_ok h hpf hlen hs hne
    · simp only [hl.1, hl.2, if_false]
      exact h
def NmOk (sc : Sc) (nm : List Nat) : Prop := ∃ w, IsWord w ∧ (nm = w ∨ ∃ p, p ≠ [] ∧ p ∈ sc.map (·.1) ∧ nm = p ++ 58 :: w)
theorem mem_insS (x y : List Nat) : ∀ l, y ∈ insS x l ↔ y = x ∨ y ∈ l
  | [] => by simp [insS]
  | z :: l => by
    rw [insS]
    split
    · simp
    · rw [List.mem_cons, mem_insS x y l, List.mem_cons]
      constructor
      · rintro (h | h | h)
        · exact .inr (.inl h)
        · exact .inl h
        · exact .inr (.inr h)
      · rintro (h | h | h)
        · exact .inr (.inl h)
        · exact .inl h
        · exact .inr (.inr h)
theorem mem_sortS (y : List Nat) : ∀ l, y ∈ sortS l ↔ y ∈ l
  | [] => by simp [sortS]
  | x :: l => by rw [sortS, mem_insS, mem_sortS y l, List.mem_cons]
theorem len_insS (x : List Nat) : ∀ l, (insS x l).length = l.length + 1
  | [] => rfl
  | y :: l => by
    rw [insS]
    split
    · rfl
    · simp [len_insS x l]
theorem len_sortS : ∀ l, (sortS l).length = l.length
  | [] => rfl
  | x :: l => by rw [sortS, len_insS, len_sortS l]; rfl
theorem sorted_str {l : List (List Nat)} (h : l.length < 64) : bltD .sorted [.lst (l.map D.str)] = .ok (.lst ((sortS l).map D.str)) := by
  simp only [bltD, txts_map]
  rw [if_pos h]
theorem pick_lst (ws : List (List Nat)) (v : Nat) (h : v < ws.length) : ∃ w ∈ ws, idxD (.lst (ws.map .str)) (.int v) = .ok (.str w) :=
  ⟨ws[v], List.getElem_mem _, by rw [idx_lst (by simpa using h), List.getElem_map]⟩
theorem name_text {p w : List Nat} (hp : p.length ≤ 2) (hw : w.length ≤ 5) : (do let x ← (do let x ← binD .add (.str p) (.str [58]); binD .mul x (.int (if (!(p == [])) = true then 1 else 0))); binD .add x (.str w)) = .ok (.str (if p = [] then w else p ++ 58 :: w)) := by
  have h1 : p.length + ([58] : List Nat).length < LIM := by unfold LIM; simp; omega
  rw [add_str h1]
  simp only [R.ok_bind]
  by_cases h : p = []
  · subst h
    simp [binD, LIM]; omega
  · have : (p == []) = false := by simpa using h
    simp [binD, this, h, LIM]; omega
theorem r_name (m : Nat) (sc : Sc) (a : Nat) (h : ScOk sc) : ∃ nm, run prog (m + 3) .f_law_name [scD sc, .int a] = .ok (.str nm) ∧ NmOk sc nm ∧ nm.length ≤ 8 := by
  let ks : List (List Nat) := (sc.map (·.1)).filter fun k => !(k == [])
  have hkl : ks.length ≤ 4 := Nat.le_trans (List.length_filter_le _ _) (by rw [List.length_map]; exact h.len)
  let pf : List (List Nat) := [] :: sortS ks
  have hpl : pf.length = 1 + ks.length := by simp [pf, len_sortS]; omega
  obtain ⟨q, hq, hq2⟩ := mod_nat (a : Int) (show (0 : Int) < ((pf.length : Nat) : Int) by omega)
  obtain ⟨p, hp, hpe⟩ := pick_lst pf q (by omega)
  obtain ⟨w, hw, hw2⟩ := r_word m (a / 8)
  have hpk : p = [] ∨ (p ≠ [] ∧ p ∈ sc.map (·.1)) := by
    rcases List.mem_cons.mp hp with h | h
    · exact .inl h
    · rw [mem_sortS] at h
      obtain ⟨h1, h2⟩ := List.mem_filter.mp h
      exact .inr ⟨by simpa using h2, h1⟩
  have hp2 : p.length ≤ 2 := by
    rcases hpk with rfl | ⟨_, hm⟩
    · simp
    · obtain ⟨x, hx, rfl⟩ := List.mem_map.mp hm
      exact pf_len _ (h.mem x hx).1
  refine ⟨if p = [] then w else p ++ 58 :: w, run_is rfl fun t ht => ?_, ?_, ?_⟩
  · show Wp _ b_law_name _ _ _
    unfold b_law_name
    refine wp_setO (.lst (pf.map D.str)) ?_ (by simp [start, prog]) rfl rfl ?_
    · have e1 : lcL (lcB t (.nm 3) [Slot.val (scD sc), .val (.int a), .un, .un, .un] [.cmp .ne (.var 3) (.kst (.str []))] (.var 3)) ((sc.map (·.1)).map D.str) = .ok (ks.map D.str) := by
        rw [lcL_filter (p := fun d => match d with | .str k => !(k == []) | _ => false) (g := id)]
        · rw [List.filter_map, List.map_id]; rfl
        · intro x hx
          obtain ⟨k, _, rfl⟩ := List.mem_map.mp hx
          exact lcB_1 (asg_nm (by simp)) (by simp [e_var, e_kst, e_tup, e_lst, e_bin, e_cmp, e_idx, e_call, e_blt, es_nil, es_cons, ne_str]) (fun _ => by simp [e_var, e_kst, e_tup, e_lst, e_bin, e_cmp, e_idx, e_call, e_blt, es_nil, es_cons])
      have e2 := sorted_str (l := ks) (by omega)
      simp only [e_var, e_kst, e_tup, e_lst, e_bin, e_cmp, e_idx, e_call, e_blt, es_nil, es_cons, e_lc, start, prog, scD, srcD, R.ok_bind, List.map_cons, List.map_nil, List.length_cons, List.length_nil, List.replicate, List.cons_append, List.nil_append, List.getElem?_cons_zero, if_true, Nat.reduceAdd, Nat.reduceSub]
      simp only [scD] at e1
      rw [e1]
      simp only [R.ok_bind, e2, binD]
      rw [if_pos (by simp [len_sortS]; unfold LIM; omega)]
      rfl
    refine wp_setN (.str p) ?_ (by simp [start, prog]) rfl ?_
    · have hpos : (0 : Int) < ((pf.length : Nat) : Int) := by omega
      simp only [e_var, e_kst, e_tup, e_lst, e_bin, e_cmp, e_idx, e_call, e_blt, es_nil, es_cons, start, prog, bltD, R.ok_bind, List.map_cons, List.map_nil, List.length_cons, List.length_nil, List.replicate, List.cons_append, List.nil_append, List.getElem?_cons_zero, List.getElem?_cons_succ, List.set_cons_succ, List.set_cons_zero, if_true, Nat.reduceAdd, Nat.reduceSub, List.length_map]
      rw [modD hpos, hq]
      exact hpe
    have h8 : (a : Int) / 8 = ((a / 8 : Nat) : Int) := by omega
    have hw' : run prog (m + 2) .f_law_word [.int ((a : Int) / 8)] = .ok (.str w) := by rw [h8]; exact hw
    refine wp_setN (.str w) (by simp [e_var, e_kst, e_tup, e_lst, e_bin, e_cmp, e_idx, e_call, e_blt, es_nil, es_cons, start, prog, fdivD, ht, hw']) (by simp [start, prog]) rfl ?_
    refine wp_ret _ ?_ rfl
    have := name_text hp2 hw2.2.1
    simp [e_var, e_kst, e_tup, e_lst, e_bin, e_cmp, e_idx, e_call, e_blt, es_nil, es_cons, start, prog, ne_str, bltD]
    simpa using this
  · refine ⟨w, hw2, ?_⟩
    rcases hpk with rfl | ⟨h1, h2⟩
    · exact .inl (by simp)
    · exact .inr ⟨p, h1, h2, by simp [h1]⟩
  · have := hw2.2.1
    split
    · omega
    · simp; omega
theorem split_no {c : Nat} : ∀ (x acc : List Nat), c ∉ x → splitOn c acc x = [acc ++ x]
  | [], acc, _ => by simp [splitOn]
  | y :: r, acc, h => by
    rw [List.mem_cons, not_or] at h
    rw [splitOn, if_neg (fun e => h.1 e.symm), split_no r (acc ++ [y]) h.2]
    simp
theorem split_one {c : Nat} (w : List Nat) (hw : c ∉ w) : ∀ (p acc : List Nat), c ∉ p → splitOn c acc (p ++ c :: w) = [acc ++ p, w]
  | [], acc, _ => by
    show splitOn c acc (c :: w) = _
    rw [splitOn, if_pos rfl, split_no w [] hw]; simp
  | y :: r, acc, h => by
    rw [List.mem_cons, not_or] at h
    show splitOn c acc (y :: (r ++ c :: w)) = _
    rw [splitOn, if_neg (fun e => h.1 e.symm), split_one w hw r (acc ++ [y]) h.2]
    simp
theorem word_no {w : List Nat} (h : IsWord w) : 58 ∉ w := fun hm => by have := h.2.2 58 hm; simp [isLow] at this
theorem pf_no : ∀ x ∈ kPf, 58 ∉ x := by decide
def meantS (sc : Sc) (nm : List Nat) (b : Bool) : List Nat × List Nat := match splitOn 58 [] nm with
  | p :: w :: _ => ((lookS p sc).getD [], w)
  | _ => (if b then (lookS [] sc).getD [] else [], nm)
theorem r_meant (m : Nat) (sc : Sc) (nm : List Nat) (b : Bool) (h : ScOk sc) (hn : NmOk sc nm) : run prog (m + 1) .f_law_meant [scD sc, .str nm, .bl b] = .ok (pr (meantS sc nm b)) := by
  obtain ⟨w, hw, hnm⟩ := hn
  refine run_is rfl fun t ht => ?_
  show Wp _ b_law_meant _ _ _
  unfold b_law_meant
  refine wp_setO (.lst ((splitOn 58 [] nm).map D.str)) (by simp [e_var, e_kst, e_tup, e_lst, e_bin, e_cmp, e_idx, e_call, e_blt, es_nil, es_cons, e_mth, start, prog, mthOk, mthD]) (by simp [start, prog]) rfl rfl ?_
  rcases hnm with rfl | ⟨p, hp0, hpm, rfl⟩
  · have hs := split_no nm [] (word_no hw)
    rw [List.nil_append] at hs
    rw [hs]
    refine wp_if0 true (by simp [e_var, e_kst, e_tup, e_lst, e_bin, e_cmp, e_idx, e_call, e_blt, es_nil, es_cons, start, prog, bltD, cmpD, fl, eqv]) (fun _ => ?_) (fun h => by cases h)
    refine wp_ret _ ?_ rfl
    unfold meantS
    rw [hs]
    simp only [e_var, e_kst, e_tup, e_lst, e_bin, e_cmp, e_idx, e_call, e_blt, es_nil, es_cons, e_mth, start, prog, bltD, R.ok_bind, List.map_cons, List.map_nil, List.length_cons, List.length_nil, List.replicate, List.cons_append, List.nil_append, List.getElem?_cons_zero, List.getElem?_cons_succ, List.set_cons_succ, List.set_cons_zero, if_true, Nat.reduceAdd, Nat.reduceSub, mthOk, scD, mthD, look_sc]
    cases b with
    | true => simp [idx_t1, pr]
    | false => simp [idx_t0, pr]
  · obtain ⟨x, hx, hxp⟩ := List.mem_map.mp hpm
    have hs := split_one w (word_no hw) p [] (by rw [← hxp]; exact pf_no _ (h.mem x hx).1)
    rw [List.nil_append] at hs
    rw [hs]
    obtain ⟨v, hv⟩ := lookS_in hpm
    refine wp_if0 false (by simp [e_var, e_kst, e_tup, e_lst, e_bin, e_cmp, e_idx, e_call, e_blt, es_nil, es_cons, start, prog, bltD, cmpD, fl, eqv]) (fun h => by cases h) (fun _ => ?_)
    refine wp_ret _ ?_ rfl
    unfold meantS
    rw [hs]
    have e0 : idxD (.lst [D.str p, D.str w]) (.int 0) = .ok (.str p) := by simp [idxD, opt, atI, ixN]
    have e1 : idxD (.lst [D.str p, D.str w]) (.int 1) = .ok (.str w) := by simp [idxD, opt, atI, ixN]
    have e2 : idxD (scD sc) (.str p) = .ok (.str v) := by simp [idxD, scD, look_sc, hv, opt]
    simp [e_var, e_kst, e_tup, e_lst, e_bin, e_cmp, e_idx, e_call, e_blt, es_nil, es_cons, start, prog, e0, e1, e2, pr, hv]
theorem meant_len {sc : Sc} {nm : List Nat} {b : Bool} (h : ScOk sc) (hn : nm.length ≤ 8) (hk : NmOk sc nm) : (meantS sc nm b).1.length ≤ 8 ∧ (meantS sc nm b).2.length ≤ 8 := by
  have hl : ∀ k, ((lookS k sc).getD []).length ≤ 8 := fun k => by
    cases e : lookS k sc with
    | none => simp
    | some v =>
      have : v.length ≤ 5 := (h.mem _ (lookS_some e)).2.1
      simp; omega
  obtain ⟨w, hw, hnm⟩ := hk
  have := hw.2.1
  rcases hnm with rfl | ⟨p, hp0, hpm, rfl⟩
  · have hs := split_no nm [] (word_no hw)
    unfold meantS; rw [hs]
    cases b
    · exact ⟨by simp, by simpa using hn⟩
    · exact ⟨hl _, by simpa using hn⟩
  · obtain ⟨x, hx, hxp⟩ := List.mem_map.mp hpm
    have hs := split_one w (word_no hw) p [] (by rw [← hxp]; exact pf_no _ (h.mem x hx).1)
    unfold meantS; rw [hs]
    exact ⟨hl _, by show w.length ≤ 8; omega⟩
end Mk
end
section
set_option linter.all false
set_option maxRecDepth 100000
namespace Mk
def isLay (p : List Nat × List Nat) : Bool := p.1 == kS || p.1.take 6 == kSC
def plainM (wi : Sc) (vs : Sc) : Sc := (vs.filter fun p => !isLay p).map fun p => meantS wi p.1 false
structure VOk (wi ps vs : Sc) : Prop where
  laid : ∀ sc, laidS sc vs = laidS sc ps
  each : ∀ p ∈ vs, (LayOk p ∧ isLay p = true) ∨ (NmOk wi p.1 ∧ p.1.length ≤ 8 ∧ isLay p = false ∧ p.2.length ≤ 4 ∧ Sgn p.2)
  nd : (plainM wi vs).Nodup
  lays : vs.filter isLay = ps
theorem laidS_app : ∀ (a b sc : Sc), laidS sc (a ++ b) = laidS (laidS sc a) b
  | [], _, _ => rfl
  | p :: a, b, sc => by rw [List.cons_append, laidS, laidS, laidS_app a b]
theorem laidS_no {q : List Nat × List Nat} (h : isLay q = false) (sc r : Sc) : laidS sc (q :: r) = laidS sc r := by
  unfold isLay at h
  rw [Bool.or_eq_false_iff] at h
  rw [laidS]
  simp only [beq_eq_false_iff_ne.mp h.1, beq_eq_false_iff_ne.mp h.2, if_false]
theorem lay_isLay {p : List Nat × List Nat} (h : LayOk p) : isLay p = true := by
  obtain ⟨pf, _, e, _⟩ := h.nm
  unfold isLay
  rw [e, Bool.or_eq_true]
  by_cases hz : pf = []
  · exact .inl (beq_iff_eq.mpr ((lay_is pf).1.mpr hz))
  · exact .inr (beq_iff_eq.mpr ((lay_is pf).2.1.mpr hz))
theorem low_ne {w : List Nat} (hw : IsWord w) : w.take 6 ≠ kSC := by
  have : w.take 6 = w := List.take_of_length_le (by have := hw.2.1; omega)
  rw [this]
  intro e
  exact word_no hw (by rw [e]; decide)
theorem pf_ne : ∀ p ∈ kPf, p ≠ [] → ∀ w : List Nat, (p ++ 58 :: w).take 6 ≠ kSC ∧ p ++ 58 :: w ≠ kS := by
  intro p hp h0 w
  simp only [kPf, List.mem_cons, List.not_mem_nil, or_false] at hp
  rcases hp with rfl | rfl | rfl | rfl
  · exact absurd rfl h0
  · simp [kSC, kS]
  · simp [kSC, kS]
  · simp [kSC, kS]
theorem nm_noLay {wi : Sc} {nm s : List Nat} (h : ScOk wi) (hn : NmOk wi nm) (hs : nm ≠ kS) : isLay (nm, s) = false := by
  unfold isLay
  rw [Bool.or_eq_false_iff, beq_eq_false_iff_ne, beq_eq_false_iff_ne]
  refine ⟨hs, ?_⟩
  obtain ⟨w, hw, e⟩ := hn
  rcases e with rfl | ⟨p, hp0, hpm, rfl⟩
  · exact low_ne hw
  · obtain ⟨x, hx, rfl⟩ := List.mem_map.mp hpm
    exact (pf_ne _ (h.mem x hx).1 hp0 w).1
theorem VOk.start {wi ps : Sc} (h : ∀ p ∈ ps, LayOk p) : VOk wi ps ps := by
  have hf : ps.filter (fun p => !isLay p) = [] := by
    rw [List.filter_eq_nil_iff]
    intro p hp
    rw [lay_isLay (h p hp)]; simp
  refine ⟨fun _ => rfl, fun p hp => .inl ⟨h p hp, lay_isLay (h p hp)⟩, ?_, ?_⟩
  · unfold plainM; rw [hf]; exact List.nodup_nil
  · rw [List.filter_eq_self]
    exact fun p hp => lay_isLay (h p hp)
theorem VOk.put {wi ps a b : Sc} {q : List Nat × List Nat} (h : VOk wi ps (a ++ b)) (hn : NmOk wi q.1) (h8 : q.1.length ≤ 8) (hl : isLay q = false) (h4 : q.2.length ≤ 4) (hs : Sgn q.2) (hm : meantS wi q.1 false ∉ plainM wi (a ++ b)) : VOk wi ps (a ++ q :: b) := by
  refine ⟨fun sc => ?_, fun p hp => ?_, ?_, ?_⟩
  · rw [laidS_app, laidS_no hl, ← laidS_app, h.laid]
  · rcases List.mem_append.mp hp with hp | hp
    · exact h.each p (List.mem_append_left _ hp)
    · rcases List.mem_cons.mp hp with rfl | hp
      · exact .inr ⟨hn, h8, hl, h4, hs⟩
      · exact h.each p (List.mem_append_right _ hp)
  · unfold plainM at *
    rw [List.filter_append, List.map_append] at *
    rw [List.filter_cons_of_pos (by rw [hl]; rfl), List.map_cons]
    have := h.nd
    unfold plainM at this
    rw [List.filter_append, List.map_append] at this
    exact (List.perm_middle.nodup_iff).mpr (List.nodup_cons.mpr ⟨hm, this⟩)
  · rw [List.filter_append, List.filter_cons_of_neg (by rw [hl]; simp), ← List.filter_append, h.lays]
theorem plain_put {wi a b : Sc} {q : List Nat × List Nat} (hl : isLay q = false) (x : List Nat × List Nat) : x ∈ plainM wi (a ++ q :: b) ↔ x = meantS wi q.1 false ∨ x ∈ plainM wi (a ++ b) := by
  unfold plainM
  rw [List.filter_append, List.map_append, List.filter_append, List.map_append, List.filter_cons_of_pos (by rw [hl]; rfl), List.map_cons]
  simp only [List.mem_append, List.mem_cons]
  constructor
  · rintro (h | h | h)
    · exact .inr (.inl h)
    · exact .inl h
    · exact .inr (.inr h)
  · rintro (h | h | h)
    · exact .inr (.inl h)
    · exact .inl h
    · exact .inr (.inr h)
theorem pr_inj {a b : List Nat × List Nat} : eqv (pr a) (pr b) = (a == b) := by
  unfold pr
  simp only [eqv, eqvs, Bool.and_true]
  obtain ⟨a1, a2⟩ := a
  obtain ⟨b1, b2⟩ := b
  rw [Bool.eq_iff_iff]
  simp
theorem isAny_pr (x : List Nat × List Nat) (l : Sc) : isAny (pr x) (l.map pr) = l.any (· == x) := by
  induction l with
  | nil => rfl
  | cons a r ih =>
    simp only [isAny, List.map_cons, List.any_cons] at ih ⊢
    rw [ih, pr_inj]
theorem fls_pr (n : Nat) (l : Sc) : fls (l.map pr) (n + 1) = true := by
  induction l with
  | nil => rfl
  | cons a r ih => simp [fls, fl, pr, ih]
theorem notin_pr (x : List Nat × List Nat) (l : Sc) : cmpD .notin (pr x) (.lst (l.map pr)) = .ok (.bl (!l.any (· == x))) := by
  have h1 : fl (pr x) 60 = true := by simp [pr, fl, fls]
  have h2 := fls_pr 59 l
  have : cmpD .notin (pr x) (.lst (l.map pr)) = if fl (pr x) 60 && fls (l.map pr) 60 then .ok (.bl (!isAny (pr x) (l.map pr))) else .no := rfl
  rw [this, h1, h2, isAny_pr]; rfl

inductive Tr where
  | text (s : List Nat)
  | rem (s : List Nat)
  | mark (n : List Nat) (vs : Sc) (ks : List Tr)
def kMark : List Nat := [109, 97, 114, 107]
def kText : List Nat := [116, 101, 120, 116]
def kRem : List Nat := [114, 101, 109, 97, 114, 107]
mutual
def enc : Tr → D
  | .text s => .tup [.str kText, .str s]
  | .rem s => .tup [.str kRem, .str s]
  | .mark n vs ks => .tup [.str kMark, .str n, .tup (vs.map pr), .tup (encs ks)]
def encs : List Tr → List D
  | [] => []
  | t :: r => enc t :: encs r
end
theorem encs_map : ∀ ks : List Tr, encs ks = ks.map enc
  | [] => by rw [encs]; rfl
  | t :: r => by rw [encs, encs_map r]; rfl
def isText : Tr → Bool
  | .text _ => true
  | _ => false
def NoAdj : List Tr → Prop
  | a :: b :: r => ¬ (isText a = true ∧ isText b = true) ∧ NoAdj (b :: r)
  | _ => True
def TrOk : Nat → Sc → Tr → Prop
  | _, _, .text s => s ≠ [] ∧ s.length ≤ 7 ∧ Sgn s
  | _, _, .rem s => s.length ≤ 4 ∧ Sgn s ∧ 33 ∉ s
  | 0, _, .mark _ _ _ => False
  | d + 1, sc, .mark n vs ks => ∃ wi ps, ScOk wi ∧ wi = laidS sc vs ∧ (ps.map (·.1)).Nodup ∧ ps.length ≤ 3 ∧ VOk wi ps vs ∧ (vs.length ≤ 5 ∧ vs.length ≤ ps.length + 2) ∧ NmOk wi n ∧ n.length ≤ 8 ∧ ks.length ≤ 3 ∧ NoAdj ks ∧ ∀ k ∈ ks, TrOk d wi k
end Mk
end
section
set_option linter.all false
set_option maxRecDepth 100000
set_option maxHeartbeats 2000000
namespace Mk
mutual
theorem fl_mono : ∀ (d : D) (n : Nat), fl d n = true → fl d (n + 1) = true
  | .non, _, _ => by simp [fl]
  | .bl _, _, _ => by simp [fl]
  | .int _, _, _ => by simp [fl]
  | .str _, _, _ => by simp [fl]
  | .tup ds, 0, h => by simp [fl] at h
  | .lst ds, 0, h => by simp [fl] at h
  | .tup ds, n + 1, h => by rw [fl] at h ⊢; exact fls_mono ds n h
  | .lst ds, n + 1, h => by rw [fl] at h ⊢; exact fls_mono ds n h
  | .dct _ _, _, h => by simp [fl] at h
  | .scr _, _, h => by simp [fl] at h
  | .tpl _, n, h => by cases n <;> simp [fl] at h
theorem fls_mono : ∀ (ds : List D) (n : Nat), fls ds n = true → fls ds (n + 1) = true
  | [], _, _ => by simp [fls]
  | d :: ds, n, h => by
    rw [fls, Bool.and_eq_true] at h ⊢
    exact ⟨fl_mono d n h.1, fls_mono ds n h.2⟩
end
theorem fls_le {ds : List D} {n m : Nat} (h : fls ds n = true) (hm : n ≤ m) : fls ds m = true := by
  induction m with
  | zero => have : n = 0 := by omega
            subst this; exact h
  | succ m ih =>
    by_cases e : n = m + 1
    · subst e; exact h
    · exact fls_mono _ _ (ih (by omega))
theorem fl_le {d : D} {n m : Nat} (h : fl d n = true) (hm : n ≤ m) : fl d m = true := by
  induction m with
  | zero => have : n = 0 := by omega
            subst this; exact h
  | succ m ih =>
    by_cases e : n = m + 1
    · subst e; exact h
    · exact fl_mono _ _ (ih (by omega))
theorem fls_all {ds : List D} {n : Nat} (h : ∀ d ∈ ds, fl d n = true) : fls ds n = true := by
  induction ds with
  | nil => rfl
  | cons d r ih => rw [fls, h d List.mem_cons_self, ih fun x hx => h x (List.mem_cons_of_mem _ hx)]; rfl
theorem fl_enc : ∀ (d : Nat) (sc : Sc) (t : Tr), TrOk d sc t → fl (enc t) (2 * d + 1) = true
  | d, sc, .text s, _ => by rw [enc]; simp [fl, fls]
  | d, sc, .rem s, _ => by rw [enc]; simp [fl, fls]
  | 0, sc, .mark _ _ _, h => by simp [TrOk] at h
  | d + 1, sc, .mark n vs ks, h => by
    rw [TrOk] at h
    obtain ⟨wi, ps, _, _, _, _, _, _, _, _, _, _, hk⟩ := h
    rw [enc]
    have h1 : fls (encs ks) (2 * d + 1) = true := by
      rw [encs_map]
      refine fls_all fun x hx => ?_
      obtain ⟨k, hm, rfl⟩ := List.mem_map.mp hx
      exact fl_enc d wi k (hk k hm)
    have h2 := fls_pr (2 * d) vs
    show fls _ (2 * d + 2) = true
    simp [fls, fl, h1, h2]
theorem noAdj_app : ∀ {ks : List Tr} {k : Tr}, NoAdj ks → (∀ l, ks.getLast? = some l → ¬ (isText l = true ∧ isText k = true)) → NoAdj (ks ++ [k])
  | [], _, _, _ => trivial
  | [a], k, _, h => ⟨h a rfl, trivial⟩
  | a :: b :: r, k, h, hl => ⟨h.1, noAdj_app (ks := b :: r) h.2 fun l hll => hl l (by rw [List.getLast?_cons_cons]; exact hll)⟩
theorem encs_app (a b : List Tr) : encs (a ++ b) = encs a ++ encs b := by rw [encs_map, encs_map, encs_map, List.map_append]
theorem replOne_nil {c : Nat} : ∀ x : List Nat, (replOne c [] x).length ≤ x.length ∧ c ∉ replOne c [] x ∧ ∀ y ∈ replOne c [] x, y ∈ x
  | [] => by simp [replOne]
  | d :: r => by
    obtain ⟨h1, h2, h3⟩ := replOne_nil (c := c) r
    rw [replOne]
    split
    · exact ⟨by simp; omega, by simpa using h2, fun y hy => List.mem_cons_of_mem _ (h3 y (by simpa using hy))⟩
    · rename_i hd
      refine ⟨by simp; omega, ?_, fun y hy => ?_⟩
      · rw [List.mem_cons, not_or]; exact ⟨fun e => hd e.symm, h2⟩
      · rcases List.mem_cons.mp hy with rfl | hy
        · exact List.mem_cons_self
        · exact List.mem_cons_of_mem _ (h3 y hy)
theorem enc_kind (t : Tr) : ∃ l, enc t = .tup (.str (match t with | .text _ => kText | .rem _ => kRem | .mark _ _ _ => kMark) :: l) := by
  cases t with
  | text s => exact ⟨_, by rw [enc]⟩
  | rem s => exact ⟨_, by rw [enc]⟩
  | mark n vs ks => exact ⟨_, by rw [enc]⟩
theorem kind_text (t : Tr) : ((match t with | .text _ => kText | .rem _ => kRem | .mark _ _ _ => kMark) == kText) = isText t := by cases t <;> rfl
/-- a value's slot, read -/
theorem e_var3 {F : Type} {t : Tb F} {r : List Slot} {i : Nat} {s : Slot} {d : D} (hr : r[i]? = some s) (hs : s = .val d ∨ s = .own d) : ev t (.var i : E F) true r = .ok d := by
  rw [e_var, hr]
  rcases hs with rfl | rfl <;> rfl
theorem add_lst {a b : List D} (h : a.length + b.length ≤ LIM) : binD .add (.lst a) (.lst b) = .ok (.lst (a ++ b)) := by
  simp only [binD]; rw [if_pos h]
abbrev IsMk (t : Tr) : Prop := ∃ n vs ks, t = .mark n vs ks
theorem mark_one {t : Tb Fn} {M : Nat} (ht : t.c = run prog M) (hM : 4 ≤ M) {a dp : Nat} {sc wi ps : Sc} (hwi : ScOk wi) {N : List Slot → Prop} {Q : D → Prop} {i : Nat} (hi2 : i ≤ 2)
    {vs sn : Sc} {s3 x6 x8 x9 x10 x12 : Slot} (h3 : s3 = .val (.lst (vs.map pr)) ∨ s3 = .own (.lst (vs.map pr))) (hp3 : ps.length ≤ 3) (hvl : vs.length ≤ ps.length + i) (hsl : sn.length ≤ i) (hv : VOk wi ps vs) (hsn : ∀ x, x ∈ sn ↔ x ∈ plainM wi vs)
    (hN : ∀ (vs sn : Sc) (s3 x6 x8 x9 x10 x12 : Slot), (s3 = .val (.lst (vs.map pr)) ∨ s3 = .own (.lst (vs.map pr))) → vs.length ≤ ps.length + (i + 1) → sn.length ≤ i + 1 → VOk wi ps vs → (∀ x, x ∈ sn ↔ x ∈ plainM wi vs) →
      N [.val (.int a), .val (scD sc), .val (.int dp), s3, .val (scD wi), .own (.lst (sn.map pr)), x6, .un, x8, x9, x10, .un, x12]) :
    Wp t [.set 8 (.bin .fdiv (.call .f_law_drawn [(.var 0), (.bin .add (.kst (.int 60)) (.var 6))]) (.kst (.int 4))),
      .set 9 (.call .f_law_name [(.var 4), (.var 8)]),
      .set 10 (.call .f_law_meant [(.var 4), (.var 9), (.kst (.bl false))]),
      .ife (.and (.cmp .ne (.var 9) (.kst (.str [115, 112, 97, 99, 101]))) (.cmp .notin (.var 10) (.var 5))) [.app 5 (.var 10),
        .set 12 (.bin .mod (.bin .fdiv (.var 8) (.kst (.int 64))) (.bin .add (.blt .len [(.var 3)]) (.kst (.int 1)))),
        .set 3 (.bin .add (.bin .add (.slc (.var 3) [] [(.var 12)]) (.lst [(.tup [(.var 9), (.call .f_law_text [(.bin .fdiv (.var 8) (.kst (.int 512))), (.kst (.int 4))])])])) (.slc (.var 3) [(.var 12)] []))] []]
      [.val (.int a), .val (scD sc), .val (.int dp), s3, .val (scD wi), .own (.lst (sn.map pr)), .val (.int (0 + i)), .un, x8, x9, x10, .un, x12] N Q := by
  obtain ⟨k1, hk1⟩ : ∃ k, M = k + 1 := ⟨M - 1, by omega⟩
  obtain ⟨k2, hk2⟩ : ∃ k, M = k + 2 := ⟨M - 2, by omega⟩
  obtain ⟨k3, hk3⟩ : ∃ k, M = k + 3 := ⟨M - 3, by omega⟩
  obtain ⟨v, hvv, _⟩ := r_drawn k1 a (60 + i)
  rw [← hk1] at hvv
  obtain ⟨nm, hnm, hnk, hn8⟩ := r_name k3 wi (v / 4) hwi
  rw [← hk3, Int.natCast_ediv] at hnm
  have hme := r_meant k1 wi nm false hwi hnk
  rw [← hk1] at hme
  obtain ⟨tx, htx, htl, hts⟩ := r_text k2 (v / 4 / 512) 4 (by decide)
  rw [← hk2, Int.natCast_ediv, Int.natCast_ediv] at htx
  have htx : run prog M .f_law_text [.int ((v : Int) / 4 / 512), .int 4] = .ok (.str tx) := htx
  refine wp_setV (.int ((v : Int) / 4)) (by simp [e_var, e_kst, e_tup, e_lst, e_bin, e_cmp, e_idx, e_call, e_blt, es_nil, es_cons, ht, hvv, addD, fdivD]) (by simp) rfl ?_
  refine wp_setN (.str nm) (by simp [e_var, e_kst, e_tup, e_lst, e_bin, e_cmp, e_idx, e_call, e_blt, es_nil, es_cons, ht]; exact hnm) (by simp) rfl ?_
  refine wp_setN (pr (meantS wi nm false)) (by simp [e_var, e_kst, e_tup, e_lst, e_bin, e_cmp, e_idx, e_call, e_blt, es_nil, es_cons, ht]; exact hme) (by simp) rfl ?_
  simp only [List.set_cons_succ, List.set_cons_zero]
  refine wp_if0 (!(nm == kS) && !sn.any (· == meantS wi nm false)) ?_ (fun hb => ?_) (fun hb => ?_)
  · rw [e_and (k := !(nm == kS)) (by simp [e_var, e_kst, e_tup, e_lst, e_bin, e_cmp, e_idx, e_call, e_blt, es_nil, es_cons, ne_str, kS])]
    cases (nm == kS) with
    | true => rfl
    | false =>
      have := notin_pr (meantS wi nm false) sn
      simp [e_var, e_kst, e_tup, e_lst, e_bin, e_cmp, e_idx, e_call, e_blt, es_nil, es_cons]
      simpa using this
  · rw [Bool.and_eq_true, Bool.not_eq_true', Bool.not_eq_true', List.any_eq_false] at hb
    have hne : nm ≠ kS := beq_eq_false_iff_ne.mp hb.1
    have hns : meantS wi nm false ∉ sn := fun hm => hb.2 _ hm (by simp)
    refine wp_app (pr (meantS wi nm false)) rfl (by simp [e_var, e_kst, e_tup, e_lst, e_bin, e_cmp, e_idx, e_call, e_blt, es_nil, es_cons]) (by simp; unfold LIM; omega) ?_
    simp only [List.set_cons_succ, List.set_cons_zero]
    obtain ⟨at', hat, hatl⟩ := mod_nat ((v : Int) / 4 / 64) (show (0 : Int) < (vs.length : Int) + 1 by omega)
    refine wp_setV (.int at') ?_ (by simp) rfl ?_
    · have e3 : ∀ r : List Slot, r[3]? = some s3 → ev t (.var 3) true r = .ok (.lst (vs.map pr)) := fun r hr => e_var3 hr h3
      simp only [e_bin, e_blt, es_cons, es_nil, e_kst]
      rw [e3 _ rfl]
      simp [e_var, bltD, addD, fdivD]
      rw [modD (by omega), hat]
    simp only [List.set_cons_succ, List.set_cons_zero]
    have hcut : vs = vs.take at' ++ vs.drop at' := (List.take_append_drop _ _).symm
    refine wp_setO (.lst ((vs.take at' ++ (nm, tx) :: vs.drop at').map pr)) ?_ (by simp) rfl rfl (wp_nil (wp_nil ?_))
    · have e3 : ∀ r : List Slot, r[3]? = some s3 → ev t (.var 3) true r = .ok (.lst (vs.map pr)) := fun r hr => e_var3 hr h3
      simp only [e_bin, e_slc, e_lst, e_tup, e_call, es_cons, es_nil, e_kst]
      rw [e3 _ rfl]
      simp only [e_var, R.ok_bind, part1, List.getElem?_cons_succ, List.getElem?_cons_zero, slcD, cut_to, cut_from, fdivD (show (0 : Int) < 512 by decide) (show (512 : Int) < 1073741824 by decide), ht, htx]
      rw [add_lst (by simp; unfold LIM; omega)]
      simp only [R.ok_bind]
      rw [add_lst (by simp; unfold LIM; omega)]
      simp [pr, List.map_take, List.map_drop]
    · refine hN (vs.take at' ++ (nm, tx) :: vs.drop at') (sn ++ [meantS wi nm false]) _ _ _ _ _ _ (.inr rfl) ?_ (by simp; omega) ?_ ?_ |> fun h => by simpa using h
      · simp; omega
      · refine VOk.put (by rw [← hcut]; exact hv) hnk hn8 (nm_noLay hwi hnk hne) htl hts ?_
        rw [← hcut, ← hsn]; exact hns
      · intro x
        rw [plain_put (nm_noLay hwi hnk hne), ← hcut, ← hsn, List.mem_append, List.mem_singleton]
        exact Or.comm
  · exact wp_nil (hN vs sn s3 _ _ _ _ _ h3 (by omega) (by omega) hv hsn)
end Mk
end
section
set_option linter.all false
set_option maxRecDepth 100000
set_option maxHeartbeats 2000000
namespace Mk
theorem eq_nil {ks : List Tr} {d : Nat} {wi : Sc} (h : ∀ k ∈ ks, TrOk d wi k) (hd : d ≤ 25) : cmpD .eq (.lst (encs ks)) (.lst []) = .ok (.bl ks.isEmpty) := by
  have h1 : fl (.lst (encs ks)) 60 = true := by
    refine fl_le (n := 2 * d + 2) ?_ (by omega)
    rw [fl, encs_map]
    refine fls_all fun x hx => ?_
    obtain ⟨k, hk, rfl⟩ := List.mem_map.mp hx
    exact fl_enc d wi k (h k hk)
  have h2 : fl (.lst []) 60 = true := rfl
  have : cmpD .eq (.lst (encs ks)) (.lst []) = if fl (.lst (encs ks)) 60 && fl (.lst []) 60 then .ok (.bl (eqv (.lst (encs ks)) (.lst []))) else .no := rfl
  rw [this, h1, h2]
  cases ks with
  | nil => rw [encs]; rfl
  | cons a r => rw [encs]; rfl
def lastText (ks : List Tr) : Bool := match ks.getLast? with
  | some l => isText l
  | none => false
theorem last_enc {ks : List Tr} (h : ks ≠ []) : ∃ l x, ks.getLast? = some l ∧ idxD (.lst (encs ks)) (.int (-1)) = .ok (enc l) ∧ idxD (enc l) (.int 0) = .ok (.str x) ∧ (x == kText) = isText l := by
  obtain ⟨l, hl⟩ : ∃ l, ks.getLast? = some l := by
    cases e : ks.getLast? with
    | none => rw [List.getLast?_eq_none_iff] at e; exact absurd e h
    | some l => exact ⟨l, rfl⟩
  obtain ⟨ys, rfl⟩ := List.getLast?_eq_some_iff.mp hl
  obtain ⟨r, hr⟩ := enc_kind l
  refine ⟨l, _, hl, ?_, ?_, kind_text l⟩
  · rw [encs_app, show encs [l] = [enc l] by rw [encs, encs]]
    exact idx_last
  · rw [hr]; exact idx_t0
theorem mark_two {t : Tb Fn} {M : Nat} (ht : t.c = run prog M) (hM : 4 ≤ M) {a dp : Nat} {sc wi : Sc} (hdp : dp < 20)
    (rec : ∀ a, ∃ k, run prog M .f_law_mark [.int (a : Nat), scD wi, .int dp] = .ok (enc k) ∧ TrOk (dp + 1) wi k ∧ IsMk k)
    {N : List Slot → Prop} {Q : D → Prop} {i : Nat} (hi3 : i ≤ 2)
    {ks : List Tr} {s3 s5 x6 x8 x9 x10 x11 x12 : Slot} (hkl : ks.length ≤ i) (hna : NoAdj ks) (hk : ∀ k ∈ ks, TrOk (dp + 1) wi k)
    (hN : ∀ (ks : List Tr) (x6 x8 x9 x10 x11 x12 : Slot), ks.length ≤ i + 1 → NoAdj ks → (∀ k ∈ ks, TrOk (dp + 1) wi k) →
      N [.val (.int a), .val (scD sc), .val (.int ((dp + 1 : Nat) : Int)), s3, .val (scD wi), s5, x6, .own (.lst (encs ks)), x8, x9, x10, x11, x12]) :
    Wp t [.set 8 (.bin .fdiv (.call .f_law_drawn [(.var 0), (.bin .add (.kst (.int 70)) (.var 6))]) (.kst (.int 4))),
      .set 11 (.bin .mod (.var 8) (.kst (.int 4))),
      .ife (.and (.cmp .eq (.var 11) (.kst (.int 0))) (.or (.cmp .eq (.var 7) (.lst [])) (.cmp .ne (.idx (.idx (.var 7) (.neg (.kst (.int 1)))) (.kst (.int 0))) (.kst (.str [116, 101, 120, 116]))))) [.app 7 (.tup [(.kst (.str [116, 101, 120, 116])), (.bin .add (.call .f_law_text [(.bin .add (.kst (.int 1)) (.bin .mul (.bin .fdiv (.var 8) (.kst (.int 4))) (.kst (.int 6)))), (.kst (.int 6))]) (.kst (.str [116])))])] [.ife (.cmp .eq (.var 11) (.kst (.int 1))) [.app 7 (.tup [(.kst (.str [114, 101, 109, 97, 114, 107])), (.mth .replace (.call .f_law_text [(.bin .fdiv (.var 8) (.kst (.int 4))), (.kst (.int 4))]) [(.kst (.str [33])), (.kst (.str []))])])] [.app 7 (.call .f_law_mark [(.bin .fdiv (.var 8) (.kst (.int 4))), (.var 4), (.bin .sub (.var 2) (.kst (.int 1)))])]]]
      [.val (.int a), .val (scD sc), .val (.int ((dp + 1 : Nat) : Int)), s3, .val (scD wi), s5, .val (.int (0 + i)), .own (.lst (encs ks)), x8, x9, x10, x11, x12] N Q := by
  obtain ⟨k1, hk1⟩ : ∃ k, M = k + 1 := ⟨M - 1, by omega⟩
  obtain ⟨k2, hk2⟩ : ∃ k, M = k + 2 := ⟨M - 2, by omega⟩
  obtain ⟨v, hvv, _⟩ := r_drawn k1 a (70 + i)
  rw [← hk1] at hvv
  obtain ⟨q, hq, hq4⟩ := mod_nat ((v : Int) / 4) (show (0 : Int) < 4 by decide)
  have hT : ∃ tx, run prog M .f_law_text [.int (1 + (v : Int) / 4 / 4 * 6), .int 6] = .ok (.str tx) ∧ tx.length ≤ 6 ∧ Sgn tx := by
    have e8 : ((1 + v / 4 / 4 * 6 : Nat) : Int) = 1 + (v : Int) / 4 / 4 * 6 := by omega
    have := r_text k2 (1 + v / 4 / 4 * 6) 6 (by decide)
    rw [← hk2, e8] at this
    exact this
  have hR : ∃ tx, run prog M .f_law_text [.int ((v : Int) / 4 / 4), .int 4] = .ok (.str tx) ∧ tx.length ≤ 4 ∧ Sgn tx := by
    have e8 : ((v / 4 / 4 : Nat) : Int) = (v : Int) / 4 / 4 := by omega
    have := r_text k2 (v / 4 / 4) 4 (by decide)
    rw [← hk2, e8] at this
    exact this
  have hK : ∃ k, run prog M .f_law_mark [.int ((v : Int) / 4 / 4), scD wi, .int dp] = .ok (enc k) ∧ TrOk (dp + 1) wi k ∧ IsMk k := by
    have e8 : ((v / 4 / 4 : Nat) : Int) = (v : Int) / 4 / 4 := by omega
    have := rec (v / 4 / 4)
    rw [e8] at this
    exact this
  obtain ⟨tx, htx, htl, hts⟩ := hT
  obtain ⟨ty, hty, htyl, htys⟩ := hR
  obtain ⟨kk, e1, e2, e3⟩ := hK
  have hlen : (encs ks).length < LIM := by rw [encs_map, List.length_map]; unfold LIM; omega
  refine wp_setV (.int ((v : Int) / 4)) (by simp [e_var, e_kst, e_tup, e_lst, e_bin, e_cmp, e_idx, e_call, e_blt, es_nil, es_cons, ht, hvv, addD, fdivD]) (by simp) rfl ?_
  refine wp_setV (.int q) (by simp [e_var, e_kst, e_tup, e_lst, e_bin, e_cmp, e_idx, e_call, e_blt, es_nil, es_cons, modD, hq]) (by simp) rfl ?_
  simp only [List.set_cons_succ, List.set_cons_zero]
  have fin : ∀ k : Tr, TrOk (dp + 1) wi k → (isText k = true → lastText ks = false) → N ([Slot.val (.int a), .val (scD sc), .val (.int ((dp + 1 : Nat) : Int)), s3, .val (scD wi), s5, .val (.int (0 + i)), .own (.lst (encs ks ++ [enc k])), .val (.int ((v : Int) / 4)), x9, x10, .val (.int q), x12]) := by
    intro k hko hkt
    have := hN (ks ++ [k]) (.val (.int (0 + i))) (.val (.int ((v : Int) / 4))) x9 x10 (.val (.int q)) x12 (by simp; omega) (noAdj_app hna fun l hl h => ?_) (fun x hx => ?_)
    · rw [encs_app, show encs [k] = [enc k] by rw [encs, encs]] at this
      exact this
    · have e := hkt h.2
      unfold lastText at e
      rw [hl] at e
      have e : isText l = false := e
      rw [h.1] at e; cases e
    · rcases List.mem_append.mp hx with hx | hx
      · exact hk x hx
      · rw [List.mem_singleton] at hx; subst hx; exact hko
  refine wp_if (decide (q = 0) && !lastText ks) ?_ (fun hb => ?_) (fun hb => ?_)
  · rw [e_and (k := decide (q = 0)) (by simp [e_var, e_kst, e_tup, e_lst, e_bin, e_cmp, e_idx, e_call, e_blt, es_nil, es_cons, cmpD, fl, eqv]; rw [Bool.eq_iff_iff]; simp)]
    by_cases h0 : q = 0
    · simp only [h0, decide_true, if_true, Bool.true_and]
      have e1 := eq_nil hk (by omega)
      rw [e_or (k := ks.isEmpty) (by simp only [e_cmp, e_lst, es_nil, e_var, List.getElem?_cons_succ, List.getElem?_cons_zero, if_true, R.ok_bind]; exact e1)]
      cases hks : ks with
      | nil => rfl
      | cons x xs =>
        obtain ⟨l, y, l1, l2, l3, l4⟩ := last_enc (ks := ks) (by rw [hks]; simp)
        rw [hks] at l1 l2
        simp only [List.isEmpty_cons, Bool.false_eq_true, if_false, e_cmp, e_idx, e_var, e_kst, List.getElem?_cons_succ, List.getElem?_cons_zero, if_true, R.ok_bind, e_neg (i := 1) e_kst, l2, l3, ne_str]
        unfold lastText
        rw [l1]
        simp only [← l4]
        rfl
    · simp [h0]
  · rw [Bool.and_eq_true, decide_eq_true_eq, Bool.not_eq_true'] at hb
    have hts2 : Sgn (tx ++ [116]) := fun c hc => by
      rcases List.mem_append.mp hc with hc | hc
      · exact hts c hc
      · rw [List.mem_singleton] at hc; subst hc; decide
    refine wp_app (ds := encs ks) (enc (.text (tx ++ [116]))) ?_ ?_ hlen ?_
    · rfl
    · rw [enc]
      have hll : tx.length + 1 < LIM := by unfold LIM; omega
      simp [e_var, e_kst, e_tup, e_lst, e_bin, e_cmp, e_idx, e_call, e_blt, es_nil, es_cons, fdivD, mulD, small, addD, ht, htx, kText, add_str, hll]
    · exact wp_nil (wp_nil (fin (.text (tx ++ [116])) ⟨by simp, by simp; omega, hts2⟩ fun _ => hb.2))
  · refine wp_if (decide (q = 1)) ?_ (fun hb1 => ?_) (fun hb1 => ?_)
    · simp [e_var, e_kst, e_tup, e_lst, e_bin, e_cmp, e_idx, e_call, e_blt, es_nil, es_cons, cmpD, fl, eqv]; rw [Bool.eq_iff_iff]; simp; omega
    · obtain ⟨r1, r2, r3⟩ := replOne_nil (c := 33) ty
      refine wp_app (ds := encs ks) (enc (.rem (replOne 33 [] ty))) ?_ ?_ hlen ?_
      · rfl
      · rw [enc]
        have hll : ty.length < LIM := by unfold LIM; omega
        simp [e_var, e_kst, e_tup, e_lst, e_bin, e_cmp, e_idx, e_call, e_blt, es_nil, es_cons, e_mth, fdivD, ht, hty, mthOk, mthD, hll, kRem]
      · exact wp_nil (wp_nil (wp_nil (fin (.rem (replOne 33 [] ty)) ⟨by omega, fun c hc => htys c (r3 c hc), r2⟩ fun h => by cases h)))
    · refine wp_app (ds := encs ks) (enc kk) ?_ ?_ hlen ?_
      · rfl
      · have e9 : ((dp + 1 : Nat) : Int) - 1 = dp := by omega
        simp only [e_var, e_kst, e_tup, e_lst, e_bin, e_cmp, e_idx, e_call, e_blt, es_nil, es_cons, R.ok_bind, List.getElem?_cons_succ, List.getElem?_cons_zero, if_true, subD, e9, fdivD (show (0 : Int) < 4 by decide) (show (4 : Int) < 1073741824 by decide), ht, e1]
      · exact wp_nil (wp_nil (wp_nil (fin kk e2 fun h => by obtain ⟨_, _, _, rfl⟩ := e3; cases h)))
end Mk
end
section
set_option linter.all false
set_option maxRecDepth 100000
set_option maxHeartbeats 2000000
namespace Mk
theorem r_mark_step {M : Nat} (hM : 4 ≤ M) {D' : Nat} (hD : D' ≤ 20) (a : Nat) (sc : Sc) (hsc : ScOk sc)
    (rec : ∀ d, D' = d + 1 → ∀ (wi : Sc), ScOk wi → ∀ a : Nat, ∃ k, run prog M .f_law_mark [.int a, scD wi, .int d] = .ok (enc k) ∧ TrOk (d + 1) wi k ∧ IsMk k) :
    ∃ k, run prog (M + 1) .f_law_mark [.int a, scD sc, .int D'] = .ok (enc k) ∧ TrOk (D' + 1) sc k ∧ IsMk k := by
  obtain ⟨k4, hk4⟩ : ∃ k, M = k + 4 := ⟨M - 4, by omega⟩
  obtain ⟨k3, hk3⟩ : ∃ k, M = k + 3 := ⟨M - 3, by omega⟩
  obtain ⟨k1, hk1⟩ : ∃ k, M = k + 1 := ⟨M - 1, by omega⟩
  have hP : ∃ ps : Sc, run prog M .f_law_lays [.int ((a : Int) / 4)] = .ok (.lst (ps.map pr)) ∧ ps.length ≤ 3 ∧ (ps.map (·.1)).Nodup ∧ ∀ p ∈ ps, LayOk p := by
    have := r_lays k4 (a / 4)
    rw [← hk4, Int.natCast_ediv] at this
    exact this
  obtain ⟨ps, hps, hp3, hpn, hpo⟩ := hP
  have hwi : ScOk (laidS sc ps) := laidS_ok ps sc hsc fun p hp => .inl (hpo p hp)
  obtain ⟨wi, hwi0⟩ : ∃ wi, wi = laidS sc ps := ⟨_, rfl⟩
  rw [← hwi0] at hwi
  have hlaid : run prog M .f_law_laid [scD sc, .lst (ps.map pr)] = .ok (scD wi) := by
    rw [hwi0, hk1]
    exact r_laid k1 sc ps (by have := hsc.len; unfold LIM; omega) _ rfl
  have hNm : ∃ nm, run prog M .f_law_name [scD wi, .int ((a : Int) / 4096)] = .ok (.str nm) ∧ NmOk wi nm ∧ nm.length ≤ 8 := by
    have := r_name k3 wi (a / 4096) hwi
    rw [← hk3, Int.natCast_ediv] at this
    exact this
  obtain ⟨nm, hnm, hnk, hn8⟩ := hNm
  obtain ⟨n1, hn1, hn1l⟩ := mod_nat ((a : Int) / 64) (show (0 : Int) < 4 by decide)
  obtain ⟨c1, hc1, hc1e⟩ := pick_int [0, 0, 1, 2] n1 (by show n1 < 4; omega)
  obtain ⟨c1, rfl⟩ := nat_of (x := c1) ((show ∀ x ∈ ([0, 0, 1, 2] : List Int), 0 ≤ x by decide) _ hc1)
  have hc12 : c1 ≤ 2 := by have := (show ∀ x ∈ ([0, 0, 1, 2] : List Int), x ≤ 2 by decide) _ hc1; omega
  obtain ⟨n2, hn2, hn2l⟩ := mod_nat ((a : Int) / 512) (show (0 : Int) < 4 by decide)
  obtain ⟨c2, hc2, hc2e⟩ := pick_int [0, 1, 2, 3] n2 (by show n2 < 4; omega)
  obtain ⟨c2, rfl⟩ := nat_of (x := c2) ((show ∀ x ∈ ([0, 1, 2, 3] : List Int), 0 ≤ x by decide) _ hc2)
  have hc23 : c2 ≤ 3 := by have := (show ∀ x ∈ ([0, 1, 2, 3] : List Int), x ≤ 3 by decide) _ hc2; omega
  obtain ⟨cnt, hcnt⟩ : ∃ c : Nat, c = if D' = 0 then 0 else c2 := ⟨_, rfl⟩
  have key : ∃ d, run prog (M + 1) .f_law_mark [.int a, scD sc, .int D'] = .ok d ∧ ∃ k, d = enc k ∧ TrOk (D' + 1) sc k ∧ IsMk k := by
    refine run_wp rfl fun t ht => ?_
    show Wp _ b_law_mark _ _ _
    unfold b_law_mark
    refine wp_setN (.lst (ps.map pr)) (by simp [e_var, e_kst, e_tup, e_lst, e_bin, e_cmp, e_idx, e_call, e_blt, es_nil, es_cons, start, prog, fdivD, ht, hps]) (by simp [start, prog]) rfl ?_
    refine wp_setN (scD wi) (by simp [e_var, e_kst, e_tup, e_lst, e_bin, e_cmp, e_idx, e_call, e_blt, es_nil, es_cons, start, prog, ht, hlaid]) (by simp [start, prog]) rfl ?_
    refine wp_setO (.lst []) (by simp [e_var, e_kst, e_tup, e_lst, e_bin, e_cmp, e_idx, e_call, e_blt, es_nil, es_cons]) (by simp [start, prog]) rfl rfl ?_
    refine wp_for [.int c1] (rangeD 0 c1) (fun i r => ∃ (vs sn : Sc) (s3 x6 x8 x9 x10 x12 : Slot), r = [.val (.int a), .val (scD sc), .val (.int D'), s3, .val (scD wi), .own (.lst (sn.map pr)), x6, .un, x8, x9, x10, .un, x12] ∧ (s3 = .val (.lst (vs.map pr)) ∨ s3 = .own (.lst (vs.map pr))) ∧ vs.length ≤ ps.length + i ∧ sn.length ≤ i ∧ VOk wi ps vs ∧ ∀ x, x ∈ sn ↔ x ∈ plainM wi vs)
      ?_ (srcD_range (by unfold LIM; omega)) ⟨ps, [], _, .un, .un, .un, .un, .un, by simp [start, prog], .inl rfl, by omega, by simp, VOk.start hpo, ?_⟩ (fun i x r hx hp => ?_) (fun r hp => ?_)
    · simp [e_var, e_kst, e_tup, e_lst, e_bin, e_cmp, e_idx, e_call, e_blt, es_nil, es_cons, start, prog, fdivD, modD, hn1]
      rw [show ([D.int 0, D.int 0, D.int 1, D.int 2] : List D) = ([0, 0, 1, 2] : List Int).map .int from rfl, hc1e]; rfl
    · intro x
      have hf : ps.filter (fun p => !isLay p) = [] := by
        rw [List.filter_eq_nil_iff]
        intro p hp
        rw [lay_isLay (hpo p hp)]; simp
      unfold plainM
      rw [hf]; simp
    · obtain ⟨hx, hi⟩ := range_get c1 0 i x hx
      subst hx
      obtain ⟨vs, sn, s3, x6, x8, x9, x10, x12, rfl, h3, hvl, hsl, hv, hsn⟩ := hp
      refine ⟨_, asg_nm (by simp), ?_⟩
      simp only [List.set_cons_succ, List.set_cons_zero]
      exact mark_one ht hM hwi (by omega) h3 hp3 hvl hsl hv hsn (fun vs sn s3 x6 x8 x9 x10 x12 a1 a2 a3 a4 a5 => ⟨vs, sn, s3, x6, x8, x9, x10, x12, rfl, a1, a2, a3, a4, a5⟩) (x6 := x6)
    · obtain ⟨vs, sn, s3, x6, x8, x9, x10, x12, rfl, h3, hvl, hsl, hv, hsn⟩ := hp
      rw [range_len] at hvl
      refine wp_setO (.lst []) (by simp [e_var, e_kst, e_tup, e_lst, e_bin, e_cmp, e_idx, e_call, e_blt, es_nil, es_cons]) (by simp) rfl rfl ?_
      simp only [List.set_cons_succ, List.set_cons_zero]
      refine wp_for [.int cnt] (rangeD 0 cnt) (fun i r => ∃ (ks : List Tr) (x6 x8 x9 x10 x11 x12 : Slot), r = [.val (.int a), .val (scD sc), .val (.int D'), s3, .val (scD wi), .own (.lst (sn.map pr)), x6, .own (.lst (encs ks)), x8, x9, x10, x11, x12] ∧ ks.length ≤ i ∧ NoAdj ks ∧ ∀ k ∈ ks, TrOk D' wi k)
        ?_ (srcD_range (by unfold LIM; split at hcnt <;> omega)) ⟨[], _, _, _, _, _, _, by rw [encs], by simp, trivial, by simp⟩ (fun i x r hx hp => ?_) (fun r hp => ?_)
      · have hs : small (c2 : Int) = true := small_of (by omega) (by omega)
        simp [e_var, e_kst, e_tup, e_lst, e_bin, e_cmp, e_idx, e_call, e_blt, es_nil, es_cons, fdivD, modD, hn2, cmpD]
        rw [show ([D.int 0, D.int 1, D.int 2, D.int 3] : List D) = ([0, 1, 2, 3] : List Int).map .int from rfl, hc2e]
        simp only [R.ok_bind, bltD]
        rw [mulD (by rw [hs]; rfl)]
        by_cases h0 : D' = 0
        · subst h0; simp [hcnt]
        · have : 0 < D' := by omega
          simp [hcnt, h0, this]
      · obtain ⟨hx, hi⟩ := range_get cnt 0 i x hx
        subst hx
        obtain ⟨ks, y6, y8, y9, y10, y11, y12, rfl, hkl, hna, hk⟩ := hp
        have h0 : D' ≠ 0 := fun h => by subst h; simp at hcnt; omega
        obtain ⟨d, rfl⟩ : ∃ d, D' = d + 1 := ⟨D' - 1, by omega⟩
        rw [if_neg h0] at hcnt
        refine ⟨_, asg_nm (by simp), ?_⟩
        simp only [List.set_cons_succ, List.set_cons_zero]
        exact mark_two ht hM (by omega) (rec d rfl wi hwi) (by omega) hkl hna hk (fun ks x6 x8 x9 x10 x11 x12 a1 a2 a3 => ⟨ks, x6, x8, x9, x10, x11, x12, rfl, a1, a2, a3⟩) (x6 := y6)
      · obtain ⟨ks, y6, y8, y9, y10, y11, y12, rfl, hkl, hna, hk⟩ := hp
        rw [range_len] at hkl
        have hk3' : ks.length ≤ 3 := by split at hcnt <;> omega
        refine wp_ret (enc (.mark nm vs ks)) ?_ ⟨_, rfl, ?_, _, _, _, rfl⟩
        · rw [enc]
          have e3 : ∀ r : List Slot, r[3]? = some s3 → ev t (.var 3) true r = .ok (.lst (vs.map pr)) := fun r hr => e_var3 hr h3
          simp only [e_tup, e_kst, e_call, e_blt, es_cons, es_nil, e_bin, R.ok_bind]
          rw [e3 _ rfl]
          simp [e_var, fdivD, ht, hnm, bltD, kMark]
        · exact ⟨wi, ps, hwi, by rw [hwi0, hv.laid], hpn, hp3, hv, ⟨by omega, by omega⟩, hnk, hn8, hk3', hna, hk⟩
  obtain ⟨d, h1, k, rfl, h2⟩ := key
  exact ⟨k, h1, h2⟩
theorem r_mark : ∀ (D' m a : Nat) (sc : Sc), ScOk sc → D' ≤ 20 → ∃ k, run prog (m + 5 + D') .f_law_mark [.int a, scD sc, .int D'] = .ok (enc k) ∧ TrOk (D' + 1) sc k ∧ IsMk k
  | 0, m, a, sc, hsc, hD => r_mark_step (M := m + 4) (by omega) hD a sc hsc fun d h => by omega
  | D' + 1, m, a, sc, hsc, hD => by
    have := r_mark_step (M := m + 5 + D') (by omega) hD a sc hsc fun d h wi hwi a => by
      cases h
      exact r_mark D' m a wi hwi (by omega)
    exact this
theorem TrOk_mono : ∀ (d : Nat) (sc : Sc) (t : Tr), TrOk d sc t → TrOk (d + 1) sc t
  | d, sc, .text s, h => by cases d <;> exact h
  | d, sc, .rem s, h => by cases d <;> exact h
  | 0, sc, .mark _ _ _, h => h.elim
  | d + 1, sc, .mark n vs ks, h => by
    obtain ⟨wi, ps, h1, h2, h3, h4, h5, h6, h7, h8, h9, h10, h11⟩ := h
    exact ⟨wi, ps, h1, h2, h3, h4, h5, h6, h7, h8, h9, h10, fun k hk => TrOk_mono d wi k (h11 k hk)⟩
theorem TrOk_le {d d' : Nat} {sc : Sc} {t : Tr} (h : TrOk d sc t) (hl : d ≤ d') : TrOk d' sc t := by
  induction d' with
  | zero => have : d = 0 := by omega
            subst this; exact h
  | succ n ih =>
    by_cases e : d = n + 1
    · subst e; exact h
    · exact TrOk_mono _ _ _ (ih (by omega))
theorem ScOk.nil : ScOk [] := ⟨List.nodup_nil, by simp⟩
theorem r_tree (m a : Nat) : ∃ k, run prog (m + 9) .f_law_tree [.int a] = .ok (enc k) ∧ TrOk 4 [] k ∧ IsMk k := by
  obtain ⟨n, hn, hnl⟩ := mod_nat (a : Int) (show (0 : Int) < 3 by decide)
  obtain ⟨c, hc, hce⟩ := pick_int [1, 2, 3] n (by show n < 3; omega)
  obtain ⟨c, rfl⟩ := nat_of (x := c) ((show ∀ x ∈ ([1, 2, 3] : List Int), 0 ≤ x by decide) _ hc)
  have hc3 : c ≤ 3 := by have := (show ∀ x ∈ ([1, 2, 3] : List Int), x ≤ 3 by decide) _ hc; omega
  obtain ⟨k, hk, hk2, hk3⟩ := r_mark c (m + 3 - c) a [] ScOk.nil (by omega)
  rw [show m + 3 - c + 5 + c = m + 8 by omega] at hk
  refine ⟨k, run_is rfl fun t ht => ?_, TrOk_le hk2 (by omega), hk3⟩
  show Wp _ b_law_tree _ _ _
  unfold b_law_tree
  refine wp_ret (enc k) ?_ rfl
  simp [e_var, e_kst, e_tup, e_lst, e_bin, e_cmp, e_idx, e_call, e_blt, es_nil, es_cons, e_dnew, start, prog, modD, hn]
  rw [show ([D.int 1, D.int 2, D.int 3] : List D) = ([1, 2, 3] : List Int).map .int from rfl, hce]
  simp only [R.ok_bind, ht]
  exact hk
end Mk
end
section
set_option linter.all false
set_option maxRecDepth 100000
set_option maxHeartbeats 2000000
namespace Mk
def kidsT : Tr → List Tr
  | .mark _ _ ks => ks
  | _ => []
def kindT : Tr → List Nat
  | .text _ => kText
  | .rem _ => kRem
  | .mark _ _ _ => kMark
theorem enc_0 (t : Tr) : idxD (enc t) (.int 0) = .ok (.str (kindT t)) := by
  cases t <;> (rw [enc]; exact idx_t0)
theorem kind_mark (t : Tr) : (kindT t == kMark) = (match t with | .mark _ _ _ => true | _ => false) := by cases t <;> rfl
theorem r_kids_of (m : Nat) (t : Tr) : run prog (m + 1) .f_kids_of [enc t] = .ok (.tup (encs (kidsT t))) := by
  refine run_is rfl fun tb ht => ?_
  show Wp _ b_kids_of _ _ _
  unfold b_kids_of
  refine wp_if0 (kindT t == kMark) (by simp [e_var, e_kst, e_tup, e_lst, e_bin, e_cmp, e_idx, e_call, e_blt, es_nil, es_cons, start, prog, enc_0, eq_str, kMark]) (fun hb => ?_) (fun hb => ?_)
  · cases t with
    | mark n vs ks => exact wp_ret _ (by simp [e_var, e_kst, e_tup, e_lst, e_bin, e_cmp, e_idx, e_call, e_blt, es_nil, es_cons, start, prog, enc, idx_t3, kidsT]) rfl
    | text s => cases hb
    | rem s => cases hb
  · cases t with
    | mark n vs ks => cases hb
    | text s => exact wp_ret _ (by simp [e_var, e_kst, e_tup, e_lst, e_bin, e_cmp, e_idx, e_call, e_blt, es_nil, es_cons, encs, kidsT]) rfl
    | rem s => exact wp_ret _ (by simp [e_var, e_kst, e_tup, e_lst, e_bin, e_cmp, e_idx, e_call, e_blt, es_nil, es_cons, encs, kidsT]) rfl
def adD (l : List Nat) : D := .tup (l.map fun i : Nat => .int i)
def partT : Tr → List Nat → Option Tr
  | t, [] => some t
  | t, i :: r => match (kidsT t)[i]? with
    | some k => partT k r
    | none => none
theorem encs_len (ks : List Tr) : (encs ks).length = ks.length := by rw [encs_map, List.length_map]
theorem encs_get {ks : List Tr} {i : Nat} {k : Tr} (h : ks[i]? = some k) : idxD (.tup (encs ks)) (.int i) = .ok (enc k) := by
  obtain ⟨h1, h2⟩ := List.getElem?_eq_some_iff.mp h
  rw [idx_tup (by rw [encs_len]; exact h1)]
  simp only [encs_map, List.getElem_map, h2]
theorem r_part_at (m : Nat) (t : Tr) (ad : List Nat) (p : Tr) (h : partT t ad = some p) : run prog (m + 2) .f_part_at [enc t, adD ad] = .ok (enc p) := by
  refine run_is rfl fun tb ht => ?_
  show Wp _ b_part_at _ _ _
  unfold b_part_at
  refine wp_for [adD ad] (ad.map fun i : Nat => .int i) (fun i r => ∃ u x2 x3, r = [.val (enc u), .val (adD ad), x2, x3] ∧ partT u (ad.drop i) = some p) (by simp [e_var, e_kst, e_tup, e_lst, e_bin, e_cmp, e_idx, e_call, e_blt, es_nil, es_cons, start, prog]) rfl ⟨t, .un, .un, by simp [start, prog], by simpa using h⟩ (fun i x r hx hp => ?_) (fun r hp => ?_)
  · obtain ⟨u, x2, x3, rfl, hu⟩ := hp
    rw [List.getElem?_map] at hx
    cases hi : ad[i]? with
    | none => rw [hi] at hx; cases hx
    | some n =>
      rw [hi] at hx
      cases hx
      have hdr : ad.drop i = n :: ad.drop (i + 1) := by
        obtain ⟨h1, h2⟩ := List.getElem?_eq_some_iff.mp hi
        rw [← h2]; exact List.drop_eq_getElem_cons h1
      rw [hdr, partT] at hu
      cases hk : (kidsT u)[n]? with
      | none => rw [hk] at hu; cases hu
      | some k =>
        rw [hk] at hu
        have hl : n < (kidsT u).length := (List.getElem?_eq_some_iff.mp hk).1
        refine ⟨_, asg_nm (by simp), ?_⟩
        simp only [List.set_cons_succ, List.set_cons_zero]
        refine wp_setN (.tup (encs (kidsT u))) (by simp [e_var, e_kst, e_tup, e_lst, e_bin, e_cmp, e_idx, e_call, e_blt, es_nil, es_cons, ht, r_kids_of]) (by simp) rfl ?_
        simp only [List.set_cons_succ, List.set_cons_zero]
        refine wp_if0 false ?_ (fun h => by cases h) (fun _ => ?_)
        · rw [e_not (k := true)]
          · rfl
          · rw [e_chain (x := .int 0) (y := .int n) (z := .int (kidsT u).length) (k := true) (k' := true)]
            · rfl
            · simp [e_var, e_kst, e_tup, e_lst, e_bin, e_cmp, e_idx, e_call, e_blt, es_nil, es_cons]
            · simp [e_var, e_kst, e_tup, e_lst, e_bin, e_cmp, e_idx, e_call, e_blt, es_nil, es_cons]
            · simp [e_var, e_kst, e_tup, e_lst, e_bin, e_cmp, e_idx, e_call, e_blt, es_nil, es_cons, bltD, encs_len]
            · simp [cmpD]
            · simp [cmpD, hl]
        · refine wp_setN (enc k) (by simp [e_var, e_kst, e_tup, e_lst, e_bin, e_cmp, e_idx, e_call, e_blt, es_nil, es_cons, encs_get hk]) (by simp) rfl (wp_nil ⟨k, _, _, rfl, hu⟩)
  · obtain ⟨u, x2, x3, rfl, hu⟩ := hp
    rw [List.length_map, List.drop_length] at hu
    cases hu
    exact wp_ret _ (by simp [e_var, e_kst, e_tup, e_lst, e_bin, e_cmp, e_idx, e_call, e_blt, es_nil, es_cons]) rfl
theorem r_mark_at (m : Nat) (t : Tr) (ad : List Nat) (n : List Nat) (vs : Sc) (ks : List Tr) (h : partT t ad = some (.mark n vs ks)) : run prog (m + 3) .f_mark_at [enc t, adD ad] = .ok (enc (.mark n vs ks)) := by
  refine run_is rfl fun tb ht => ?_
  show Wp _ b_mark_at _ _ _
  unfold b_mark_at
  refine wp_setN _ (by simp [e_var, e_kst, e_tup, e_lst, e_bin, e_cmp, e_idx, e_call, e_blt, es_nil, es_cons, start, prog, ht, r_part_at m t ad _ h]; rfl) (by simp [start, prog]) rfl ?_
  refine wp_if0 false (by simp [e_var, e_kst, e_tup, e_lst, e_bin, e_cmp, e_idx, e_call, e_blt, es_nil, es_cons, start, prog, enc_0, ne_str, kindT, kMark]) (fun h => by cases h) (fun _ => ?_)
  exact wp_ret _ (by simp [e_var, e_kst, e_tup, e_lst, e_bin, e_cmp, e_idx, e_call, e_blt, es_nil, es_cons, start, prog]) rfl
end Mk
end
section
set_option linter.all false
set_option maxRecDepth 100000
set_option maxHeartbeats 2000000
namespace Mk
mutual
def addrs : Tr → List (List Nat)
  | .text _ => [[]]
  | .rem _ => [[]]
  | .mark _ _ ks => [] :: addrsK 0 ks
def addrsK : Nat → List Tr → List (List Nat)
  | _, [] => []
  | n, k :: r => (addrs k).map (n :: ·) ++ addrsK (n + 1) r
end
def depthOk : Nat → Tr → Prop
  | _, .text _ => True
  | _, .rem _ => True
  | 0, .mark _ _ _ => False
  | d + 1, .mark _ vs ks => ks.length ≤ 9 ∧ ∀ k ∈ ks, depthOk d k
theorem depth_of : ∀ (d : Nat) (sc : Sc) (t : Tr), TrOk d sc t → depthOk d t
  | d, sc, .text s, h => by cases d <;> trivial
  | d, sc, .rem s, h => by cases d <;> trivial
  | 0, sc, .mark _ _ _, h => h.elim
  | d + 1, sc, .mark n vs ks, h => by
    obtain ⟨wi, ps, _, _, _, _, _, _, _, _, h9, _, h11⟩ := h
    exact ⟨by omega, fun k hk => depth_of d wi k (h11 k hk)⟩
theorem addrs_len : ∀ (d : Nat) (t : Tr), depthOk d t → (addrs t).length ≤ 10 ^ d
  | d, .text s, _ => by rw [addrs]; exact Nat.one_le_pow _ _ (by decide)
  | d, .rem s, _ => by rw [addrs]; exact Nat.one_le_pow _ _ (by decide)
  | 0, .mark _ _ _, h => h.elim
  | d + 1, .mark n vs ks, h => by
    rw [addrs, List.length_cons]
    have key : ∀ (ks : List Tr) (n : Nat), (∀ k ∈ ks, depthOk d k) → (addrsK n ks).length ≤ ks.length * 10 ^ d := by
      intro ks
      induction ks with
      | nil => intro n _; rw [addrsK]; simp
      | cons k r ih =>
        intro n hk
        rw [addrsK, List.length_append, List.length_map, List.length_cons, Nat.add_mul, Nat.one_mul]
        have := ih (n + 1) fun x hx => hk x (List.mem_cons_of_mem _ hx)
        have := addrs_len d k (hk k List.mem_cons_self)
        omega
    have h1 := key ks 0 h.2
    have h2 : ks.length * 10 ^ d ≤ 9 * 10 ^ d := Nat.mul_le_mul_right _ h.1
    have h3 : 1 ≤ 10 ^ d := Nat.one_le_pow _ _ (by decide)
    rw [Nat.pow_succ]; omega
theorem enumD_get' : ∀ (n i : Nat) (ds : List D) (x : D), (enumD n ds)[i]? = some x → ∃ d, ds[i]? = some d ∧ x = .tpl [.int ((n + i : Nat) : Int), d]
  | _, _, [], _, h => by simp [enumD] at h
  | n, 0, d :: ds, x, h => by simp [enumD] at h; exact ⟨d, by simp, by rw [← h]; simp⟩
  | n, i + 1, d :: ds, x, h => by
    rw [enumD, List.getElem?_cons_succ] at h
    obtain ⟨d', h1, h2⟩ := enumD_get' (n + 1) i ds x h
    exact ⟨d', by simpa using h1, by rw [h2, show n + 1 + i = n + (i + 1) by omega]⟩
theorem enumD_len' : ∀ (n : Nat) (ds : List D), (enumD n ds).length = ds.length
  | _, [] => rfl
  | n, d :: ds => by simp [enumD, enumD_len' (n + 1) ds]
theorem add_tup {a b : List D} (h : a.length + b.length ≤ LIM) : binD .add (.tup a) (.tup b) = .ok (.tup (a ++ b)) := by
  simp only [binD]; rw [if_pos h]
theorem addrs_short : ∀ (d : Nat) (t : Tr), depthOk d t → ∀ x ∈ addrs t, x.length ≤ d
  | d, .text s, _, x, hx => by rw [addrs, List.mem_singleton] at hx; subst hx; simp
  | d, .rem s, _, x, hx => by rw [addrs, List.mem_singleton] at hx; subst hx; simp
  | 0, .mark _ _ _, h, _, _ => h.elim
  | d + 1, .mark n vs ks, h, x, hx => by
    rw [addrs, List.mem_cons] at hx
    rcases hx with rfl | hx
    · simp
    · have key : ∀ (ks : List Tr) (n : Nat), (∀ k ∈ ks, depthOk d k) → ∀ x ∈ addrsK n ks, x.length ≤ d + 1 := by
        intro ks
        induction ks with
        | nil => intro n _ x hx; rw [addrsK] at hx; simp at hx
        | cons k r ih =>
          intro n hk x hx
          rw [addrsK, List.mem_append] at hx
          rcases hx with hx | hx
          · obtain ⟨y, hy, rfl⟩ := List.mem_map.mp hx
            have := addrs_short d k (hk k List.mem_cons_self) y hy
            simp; omega
          · exact ih (n + 1) (fun z hz => hk z (List.mem_cons_of_mem _ hz)) x hx
      exact key ks 0 h.2 x hx
theorem addrs_eq (t : Tr) : addrs t = [] :: addrsK 0 (kidsT t) := by
  cases t with
  | text s => rw [addrs]; show [[]] = [] :: addrsK 0 []; rw [addrsK]
  | rem s => rw [addrs]; show [[]] = [] :: addrsK 0 []; rw [addrsK]
  | mark n vs ks => rw [addrs, kidsT]
theorem kids_depth {d : Nat} {t : Tr} (h : depthOk d t) : ∀ k ∈ kidsT t, depthOk (d - 1) k ∧ 1 ≤ d := by
  intro k hk
  cases t with
  | text s => simp [kidsT] at hk
  | rem s => simp [kidsT] at hk
  | mark n vs ks =>
    cases d with
    | zero => exact h.elim
    | succ d => exact ⟨h.2 k hk, by omega⟩
theorem addrsK_app : ∀ (a b : List Tr) (n : Nat), addrsK n (a ++ b) = addrsK n a ++ addrsK (n + a.length) b
  | [], b, n => by rw [List.nil_append, addrsK]; rfl
  | k :: a, b, n => by
    rw [List.cons_append, addrsK, addrsK, addrsK_app a b (n + 1), List.append_assoc, List.length_cons, show n + 1 + a.length = n + (a.length + 1) by omega]
end Mk
end
section
set_option linter.all false
set_option maxRecDepth 100000
set_option maxHeartbeats 2000000
namespace Mk
section
variable {F : Type} {t : Tb F} {r : List Slot} {ss : List (S F)} {x : Ex}
theorem x_ex {s : S F} (h : ex t s r = .ex x) : exs t (s :: ss) r = .ex x := by rw [exs, h]; rfl
theorem x_setX {i : Nat} {e : E F} (h : ev t e false r = .ex x) : exs t (.set i e :: ss) r = .ex x := x_ex (by rw [ex, h]; rfl)
theorem x_exprX {e : E F} (h : ev t e false r = .ex x) : exs t (.expr e :: ss) r = .ex x := x_ex (by rw [ex, h]; rfl)
theorem x_retX {e : E F} (h : ev t e true r = .ex x) : exs t (.ret e :: ss) r = .ex x := x_ex (by rw [ex, h]; rfl)
theorem x_thenX {c : E F} {a b : List (S F)} (h : ev t c false r = .ok (.bl true)) (ha : exs t a r = .ex x) : exs t (.ife c a b :: ss) r = .ex x := x_ex (by rw [ex, h]; simp [truth, ha])
theorem x_rai : exs t (.rai x :: ss) r = .ex x := x_ex (by rw [ex])
theorem x_forX {tg : Tg} {k : Sk} {es : List (E F)} {body : List (S F)} {src items : List D} (h : evs t es false r = .ok src) (hs : srcD k src = .ok items)
    (hf : forL (fun x r => do let r' ← asg tg x r; exs t body r') items r = .ex x) : exs t (.forr tg k es body :: ss) r = .ex x :=
  x_ex (by rw [ex, h]; simp only [R.ok_bind, hs]; exact hf)
theorem run_ex {p : F → Df F} {m : Nat} {f : F} {args : List D} (hn : args.length = (p f).np) (h : ∀ t : Tb F, t.c = run p m → exs t (p f).body (start (p f).ns args) = .ex x) : run p (m + 1) f args = .ex x := by
  rw [run_succ]
  unfold exe
  rw [if_pos hn, h (tbOf p m) (tb_c p m)]
theorem run_ok {p : F → Df F} {m : Nat} {f : F} {args : List D} {d : D} (hn : args.length = (p f).np) (h : ∀ t : Tb F, t.c = run p m → exs t (p f).body (start (p f).ns args) = .ok (.rt d)) : run p (m + 1) f args = .ok d :=
  run_of hn (h (tbOf p m) (tb_c p m))
end
def adI (l : List Int) : D := .tup (l.map .int)
def ofN (l : List Nat) : List Int := l.map fun i : Nat => (i : Int)
theorem adD_I (l : List Nat) : adD l = adI (ofN l) := by unfold adD adI ofN; rw [List.map_map]; rfl
def partI : Tr → List Int → Option Tr
  | t, [] => some t
  | t, i :: r => if 0 ≤ i then (match (kidsT t)[i.toNat]? with | some k => partI k r | none => none) else none
theorem partI_N : ∀ (l : List Nat) (t : Tr), partI t (ofN l) = partT t l
  | [], t => rfl
  | i :: l, t => by
    show partI t ((i : Int) :: ofN l) = _
    rw [partI, if_pos (by omega), partT, Int.toNat_natCast]
    cases (kidsT t)[i]? with
    | none => rfl
    | some k => exact partI_N l k
/-- an address step -/
theorem step_in {ks : List Tr} {i : Int} : (decide (0 ≤ i) && decide (i < ks.length)) = (if 0 ≤ i then (ks[i.toNat]?).isSome else false) := by
  by_cases h : 0 ≤ i
  · rw [if_pos h]
    by_cases h2 : i < ks.length
    · have : i.toNat < ks.length := by omega
      simp [h, h2, List.getElem?_eq_getElem this]
    · have : ¬ i.toNat < ks.length := by omega
      simp [h, h2, List.getElem?_eq_none (Nat.le_of_not_lt this)]
  · simp [h]
theorem encs_getI {ks : List Tr} {i : Int} {k : Tr} (h0 : 0 ≤ i) (h : ks[i.toNat]? = some k) : idxD (.tup (encs ks)) (.int i) = .ok (enc k) := by
  have := encs_get h
  rw [Int.toNat_of_nonneg h0] at this
  exact this
theorem r_part_I (m : Nat) (t : Tr) (ad : List Int) : run prog (m + 2) .f_part_at [enc t, adI ad] = (match partI t ad with | some p => .ok (enc p) | none => .ex .noPart) := by
  have key : ∀ (tb : Tb Fn), tb.c = run prog (m + 1) → ∀ (l : List Int) (u : Tr) (x2 x3 : Slot),
      (∃ p, partI u l = some p ∧ ∃ y2 y3, forL (fun x r => do let r' ← asg (.nm 2) x r; exs tb [.set 3 (.call .f_kids_of [(.var 0)]), .ife (.not (.chain .le .lt (.kst (.int 0)) (.var 2) (.blt .len [(.var 3)]))) [.rai .noPart] [], .set 0 (.idx (.var 3) (.var 2))] r') (l.map .int) [.val (enc u), .val (adI ad), x2, x3] = .ok (.nx [.val (enc p), .val (adI ad), y2, y3])) ∨
      (partI u l = none ∧ forL (fun x r => do let r' ← asg (.nm 2) x r; exs tb [.set 3 (.call .f_kids_of [(.var 0)]), .ife (.not (.chain .le .lt (.kst (.int 0)) (.var 2) (.blt .len [(.var 3)]))) [.rai .noPart] [], .set 0 (.idx (.var 3) (.var 2))] r') (l.map .int) [.val (enc u), .val (adI ad), x2, x3] = .ex .noPart) := by
    intro tb ht l
    induction l with
    | nil => intro u x2 x3; exact .inl ⟨u, rfl, x2, x3, rfl⟩
    | cons i l ih =>
      intro u x2 x3
      rw [List.map_cons, forL, asg_nm (by simp)]
      simp only [R.ok_bind, List.set_cons_succ, List.set_cons_zero]
      have h1 : ev tb (.call .f_kids_of [(.var 0)]) false [.val (enc u), .val (adI ad), .val (.int i), x3] = .ok (.tup (encs (kidsT u))) := by simp [e_var, e_kst, e_tup, e_lst, e_bin, e_cmp, e_idx, e_call, e_blt, es_nil, es_cons, ht, r_kids_of]
      have h2 : ev tb (.not (.chain .le .lt (.kst (.int 0)) (.var 2) (.blt .len [(.var 3)]))) false [.val (enc u), .val (adI ad), .val (.int i), .val (.tup (encs (kidsT u)))] = .ok (.bl (!(decide (0 ≤ i) && decide (i < (kidsT u).length)))) := by
        rw [e_not]
        rw [e_chain (x := .int 0) (y := .int i) (z := .int (kidsT u).length) (k := decide (0 ≤ i)) (k' := decide (i < (kidsT u).length))]
        · simp [e_var, e_kst, e_tup, e_lst, e_bin, e_cmp, e_idx, e_call, e_blt, es_nil, es_cons]
        · simp [e_var, e_kst, e_tup, e_lst, e_bin, e_cmp, e_idx, e_call, e_blt, es_nil, es_cons]
        · simp [e_var, e_kst, e_tup, e_lst, e_bin, e_cmp, e_idx, e_call, e_blt, es_nil, es_cons, bltD, encs_len]
        · simp [cmpD]
        · simp [cmpD]
      rw [step_in] at h2
      rw [x_setN h1 (by simp) rfl]
      simp only [List.set_cons_succ, List.set_cons_zero]
      rw [partI]
      by_cases h0 : 0 ≤ i
      · rw [if_pos h0] at h2 ⊢
        cases hk : (kidsT u)[i.toNat]? with
        | none =>
          rw [hk] at h2
          rw [x_thenX h2 x_rai]
          exact .inr ⟨rfl, rfl⟩
        | some k =>
          rw [hk] at h2
          have h3 : ev tb (.idx (.var 3) (.var 2)) false [.val (enc u), .val (adI ad), .val (.int i), .val (.tup (encs (kidsT u)))] = .ok (enc k) := by simp [e_var, e_kst, e_tup, e_lst, e_bin, e_cmp, e_idx, e_call, e_blt, es_nil, es_cons, encs_getI h0 hk]
          rw [x_skip h2, x_setN h3 (by simp) rfl, x_nil]
          exact ih k _ _
      · rw [if_neg h0] at h2 ⊢
        rw [x_thenX h2 x_rai]
        exact .inr ⟨rfl, rfl⟩
  have hst : start (prog .f_part_at).ns [enc t, adI ad] = [.val (enc t), .val (adI ad), .un, .un] := by simp [start, prog]
  cases hp : partI t ad with
  | some p =>
    refine run_ok rfl fun tb ht => ?_
    show exs _ b_part_at _ = _
    rw [hst]
    unfold b_part_at
    rcases key tb ht ad t .un .un with ⟨p', h1, y2, y3, h2⟩ | ⟨h1, _⟩
    · rw [hp] at h1
      cases h1
      rw [x_for (src := [adI ad]) (items := ad.map .int) (by simp [e_var, e_kst, e_tup, e_lst, e_bin, e_cmp, e_idx, e_call, e_blt, es_nil, es_cons]) rfl h2, x_ret]
      simp [e_var, e_kst, e_tup, e_lst, e_bin, e_cmp, e_idx, e_call, e_blt, es_nil, es_cons]
    · rw [hp] at h1; cases h1
  | none =>
    refine run_ex rfl fun tb ht => ?_
    show exs _ b_part_at _ = _
    rw [hst]
    unfold b_part_at
    rcases key tb ht ad t .un .un with ⟨p', h1, _⟩ | ⟨_, h2⟩
    · rw [hp] at h1; cases h1
    · exact x_forX (src := [adI ad]) (items := ad.map .int) (by simp [e_var, e_kst, e_tup, e_lst, e_bin, e_cmp, e_idx, e_call, e_blt, es_nil, es_cons]) rfl h2
def orNon : Option Tr → D
  | some p => enc p
  | none => .non
theorem r_law_at (m : Nat) (t : Tr) (ad : List Int) : run prog (m + 1) .f_law_at [enc t, adI ad] = .ok (orNon (partI t ad)) := by
  refine run_is rfl fun tb ht => ?_
  show Wp _ b_law_at _ _ _
  unfold b_law_at
  refine wp_for [adI ad] (ad.map .int) (fun i r => ∃ u x2, r = [.val (enc u), .val (adI ad), x2] ∧ partI u (ad.drop i) = partI t ad) (by simp [e_var, e_kst, e_tup, e_lst, e_bin, e_cmp, e_idx, e_call, e_blt, es_nil, es_cons, start, prog]) rfl ⟨t, .un, by simp [start, prog], by simp⟩ (fun i x r hx hp => ?_) (fun r hp => ?_)
  · obtain ⟨u, x2, rfl, hu⟩ := hp
    rw [List.getElem?_map] at hx
    cases hi : ad[i]? with
    | none => rw [hi] at hx; cases hx
    | some n =>
      rw [hi] at hx
      cases hx
      have hdr : ad.drop i = n :: ad.drop (i + 1) := by
        obtain ⟨h1, h2⟩ := List.getElem?_eq_some_iff.mp hi
        rw [← h2]; exact List.drop_eq_getElem_cons h1
      rw [hdr, partI] at hu
      refine ⟨_, asg_nm (by simp), ?_⟩
      simp only [List.set_cons_succ, List.set_cons_zero]
      have hk : ev tb (.cmp .ne (.idx (.var 0) (.kst (.int 0))) (.kst (.str [109, 97, 114, 107]))) false [.val (enc u), .val (adI ad), .val (.int n)] = .ok (.bl (!(kindT u == kMark))) := by simp [e_var, e_kst, e_tup, e_lst, e_bin, e_cmp, e_idx, e_call, e_blt, es_nil, es_cons, enc_0, ne_str, kMark]
      refine wp_if0 (!(if 0 ≤ n then ((kidsT u)[n.toNat]?).isSome else false)) ?_ (fun hb => ?_) (fun hb => ?_)
      · rw [e_or hk]
        cases u with
        | text s => simp [kindT, kText, kMark, kidsT]
        | rem s => simp [kindT, kRem, kMark, kidsT]
        | mark nm vs ks =>
          have h3 : idxD (enc (.mark nm vs ks)) (.int 3) = .ok (.tup (encs ks)) := by rw [enc]; exact idx_t3
          rw [show (!(kindT (.mark nm vs ks) == kMark)) = false from rfl]
          simp only [Bool.false_eq_true, if_false]
          rw [e_not, ← step_in]
          rw [e_chain (x := .int 0) (y := .int n) (z := .int ks.length) (k := decide (0 ≤ n)) (k' := decide (n < ks.length))]
          · rfl
          · simp [e_var, e_kst, e_tup, e_lst, e_bin, e_cmp, e_idx, e_call, e_blt, es_nil, es_cons]
          · simp [e_var, e_kst, e_tup, e_lst, e_bin, e_cmp, e_idx, e_call, e_blt, es_nil, es_cons]
          · simp [e_var, e_kst, e_tup, e_lst, e_bin, e_cmp, e_idx, e_call, e_blt, es_nil, es_cons, bltD, encs_len, h3]
          · simp [cmpD]
          · simp [cmpD]
      · have : partI t ad = none := by
          rw [← hu]
          split at hb
          · rename_i h0
            rw [if_pos h0]
            cases hq : (kidsT u)[n.toNat]? with
            | none => rfl
            | some k => rw [hq] at hb; cases hb
          · rename_i h0
            rw [if_neg h0]
        rw [this]
        exact wp_ret .non (by simp [e_var, e_kst, e_tup, e_lst, e_bin, e_cmp, e_idx, e_call, e_blt, es_nil, es_cons]) rfl
      · split at hb
        · rename_i h0
          rw [if_pos h0] at hu
          cases hq : (kidsT u)[n.toNat]? with
          | none => rw [hq] at hb; cases hb
          | some k =>
            rw [hq] at hu
            cases u with
            | text s => simp [kidsT] at hq
            | rem s => simp [kidsT] at hq
            | mark nm vs ks =>
              have h3 : idxD (enc (.mark nm vs ks)) (.int 3) = .ok (.tup (encs ks)) := by rw [enc]; exact idx_t3
              refine wp_setN (enc k) (by simp [e_var, e_kst, e_tup, e_lst, e_bin, e_cmp, e_idx, e_call, e_blt, es_nil, es_cons, h3, encs_getI (ks := ks) h0 hq]) (by simp) rfl (wp_nil ⟨k, _, rfl, hu⟩)
        · cases hb
  · obtain ⟨u, x2, rfl, hu⟩ := hp
    rw [List.length_map, List.drop_length] at hu
    rw [← hu]
    exact wp_ret (enc u) (by simp [e_var, e_kst, e_tup, e_lst, e_bin, e_cmp, e_idx, e_call, e_blt, es_nil, es_cons]) rfl
theorem r_law_addresses : ∀ (d m : Nat) (t : Tr), depthOk d t → d ≤ 5 → run prog (m + 1 + d) .f_law_addresses [enc t] = .ok (.lst ((addrs t).map adD))
  | d, m, t, hd, h5 => by
    obtain ⟨M, hM⟩ : ∃ M, m + 1 + d = M + 1 := ⟨m + d, by omega⟩
    rw [hM]
    refine run_is rfl fun tb ht => ?_
    show Wp _ b_law_addresses _ _ _
    unfold b_law_addresses
    refine wp_setO (.lst [adD []]) (by simp [e_var, e_kst, e_tup, e_lst, e_bin, e_cmp, e_idx, e_call, e_blt, es_nil, es_cons, adD]) (by simp [start, prog]) rfl rfl ?_
    have hst : (start (prog .f_law_addresses).ns [enc t]).set 1 (.own (.lst [adD []])) = [.val (enc t), .own (.lst [adD []]), .un, .un, .un] := by simp [start, prog]
    rw [hst]
    refine wp_if0 (kindT t == kMark) (by simp [e_var, e_kst, e_tup, e_lst, e_bin, e_cmp, e_idx, e_call, e_blt, es_nil, es_cons, enc_0, eq_str, kMark]) (fun hb => ?_) (fun hb => ?_)
    · cases t with
      | text s => cases hb
      | rem s => cases hb
      | mark n vs ks =>
        have h3 : idxD (enc (.mark n vs ks)) (.int 3) = .ok (.tup (encs ks)) := by rw [enc]; exact idx_t3
        refine wp_for [.tup (encs ks)] (enumD 0 (encs ks)) (fun i r => ∃ x2 x3, r = [.val (enc (.mark n vs ks)), .own (.lst (([] :: addrsK 0 (ks.take i)).map adD)), x2, x3, .un]) (by simp [e_var, e_kst, e_tup, e_lst, e_bin, e_cmp, e_idx, e_call, e_blt, es_nil, es_cons, h3]) rfl ⟨.un, .un, by simp [addrsK]⟩ (fun i x r hx hp => ?_) (fun r hp => ?_)
        · obtain ⟨x2, x3, rfl⟩ := hp
          obtain ⟨y, hy, rfl⟩ := enumD_get' 0 i _ x hx
          rw [encs_map, List.getElem?_map] at hy
          cases hk : ks[i]? with
          | none => rw [hk] at hy; cases hy
          | some k =>
            rw [hk] at hy
            cases hy
            have hmem := List.mem_of_getElem? hk
            obtain ⟨hkd, h1⟩ := kids_depth hd k hmem
            have hrec : run prog M .f_law_addresses [enc k] = .ok (.lst ((addrs k).map adD)) := by
              have := r_law_addresses (d - 1) m k hkd (by omega)
              rw [show m + 1 + (d - 1) = M by omega] at this
              exact this
            have hlt : i < ks.length := (List.getElem?_eq_some_iff.mp hk).1
            have htk : ks.take (i + 1) = ks.take i ++ [k] := by rw [List.take_succ, hk]; rfl
            have hks : addrsK 0 (ks.take (i + 1)) = addrsK 0 (ks.take i) ++ (addrs k).map (i :: ·) := by
              rw [htk, addrsK_app, addrsK, addrsK, List.length_take, Nat.min_eq_left (by omega)]; simp
            have hbig := addrs_len d _ hd
            have h105 : 10 ^ d ≤ 100000 := Nat.pow_le_pow_right (show 0 < 10 by decide) h5
            have hle : (addrsK 0 (ks.take (i + 1))).length ≤ (addrs (.mark n vs ks)).length := by
              rw [addrs_eq, List.length_cons]
              have := addrsK_app (ks.take (i + 1)) (ks.drop (i + 1)) 0
              rw [List.take_append_drop] at this
              show _ ≤ (addrsK 0 ks).length + 1
              rw [this, List.length_append]; omega
            refine ⟨_, asg_2t (by simp) (by simp), ?_⟩
            simp only [List.set_cons_succ, List.set_cons_zero]
            refine wp_setO (.lst (([] :: addrsK 0 (ks.take (i + 1))).map adD)) ?_ (by simp) rfl rfl (wp_nil ⟨.val (.int ((0 + i : Nat) : Int)), .val (enc k), rfl⟩)
            have e1 : lcL (lcB tb (.nm 4) [Slot.val (enc (.mark n vs ks)), .own (.lst (([] :: addrsK 0 (ks.take i)).map adD)), .val (.int ((0 + i : Nat) : Int)), .val (enc k), .un] [] (.bin .add (.tup [(.var 2)]) (.var 4))) ((addrs k).map adD) = .ok (((addrs k).map (i :: ·)).map adD) := by
              rw [lcL_map (g := fun d => match d with | .tup l => .tup (.int i :: l) | d => d)]
              · rw [List.map_map, List.map_map]; rfl
              · intro x hx
                obtain ⟨y, hy, rfl⟩ := List.mem_map.mp hx
                have hyl := addrs_short (d - 1) k hkd y hy
                refine lcB_0 (asg_nm (by simp)) ?_
                simp [e_var, e_kst, e_tup, e_lst, e_bin, e_cmp, e_idx, e_call, e_blt, es_nil, es_cons, adD]
                rw [add_tup (by simp; unfold LIM; omega)]
                rfl
            simp only [e_bin, e_lc, es_cons, es_nil, e_call, e_var, R.ok_bind, List.getElem?_cons_succ, List.getElem?_cons_zero, if_true, ht, hrec, srcD, itemsD, opt, id]
            rw [e1]
            simp only [R.ok_bind]
            rw [hks, List.length_append] at hle
            rw [add_lst (by simp only [List.length_map, List.length_cons] at hle ⊢; unfold LIM; omega), ← List.map_append, hks]; rfl
        · obtain ⟨x2, x3, rfl⟩ := hp
          rw [enumD_len', encs_len, List.take_length]
          exact wp_nil (wp_ret (.lst (([] :: addrsK 0 ks).map adD)) (by simp [e_var, e_kst, e_tup, e_lst, e_bin, e_cmp, e_idx, e_call, e_blt, es_nil, es_cons]) (by rw [addrs]))
    · cases t with
      | mark n vs ks => cases hb
      | text s => exact wp_ret (.lst [adD []]) (by simp [e_var, e_kst, e_tup, e_lst, e_bin, e_cmp, e_idx, e_call, e_blt, es_nil, es_cons]) (by rw [addrs]; rfl)
      | rem s => exact wp_ret (.lst [adD []]) (by simp [e_var, e_kst, e_tup, e_lst, e_bin, e_cmp, e_idx, e_call, e_blt, es_nil, es_cons]) (by rw [addrs]; rfl)
termination_by d m t => d
decreasing_by omega
end Mk
end
section
set_option linter.all false
set_option maxRecDepth 100000
set_option maxHeartbeats 4000000
namespace Mk
theorem run_is2 {F : Type} {p : F → Df F} {m : Nat} {f : F} {args : List D} {v : D} (hn : args.length = (p f).np) (h : ∀ t : Tb F, t.c = run p (m + 2) → t.c2 = run p m → Wp t (p f).body (start (p f).ns args) (fun _ => .non = v) (fun d => d = v)) : run p (m + 3) f args = .ok v := by
  have k := h (tbOf p (m + 2)) (tb_c p (m + 2)) (tb_c2 p m)
  show run p (m + 2 + 1) f args = .ok v
  rw [run_succ]
  unfold exe
  rw [if_pos hn]
  unfold Wp at k
  split at k
  · rename_i e; rw [e]; exact congrArg _ k
  · rename_i e; rw [e]; exact congrArg _ k
  · exact k.elim
theorem Wp_cutA {F : Type} {t : Tb F} {s : S F} {ss : List (S F)} {r : List Slot} {N : List Slot → Prop} {Q : D → Prop} (P : List Slot → Prop) (h : Wp t [s] r P Q) (k : ∀ r, P r → Wp t ss r N Q) : Wp t (s :: ss) r N Q := by
  unfold Wp at h
  cases he : ex t s r with
  | ok o =>
    cases o with
    | nx r' =>
      rw [x_cons he, x_nil] at h
      exact .eq (x_cons he) (k r' h)
    | rt d =>
      rw [x_stop he] at h
      unfold Wp
      rw [x_stop he]
      exact h
  | ex e => rw [exs, he] at h; exact h.elim
  | no => rw [exs, he] at h; exact h.elim
theorem addrs_partA : ∀ (d : Nat) (t : Tr), depthOk d t → ∀ ad ∈ addrs t, ad.length ≤ d := addrs_short
mutual
theorem eqvA : ∀ (d : D) (n : Nat), fl d n = true → eqv d d = true
  | .non, _, _ => by simp [eqv]
  | .bl _, _, _ => by simp [eqv]
  | .int _, _, _ => by simp [eqv]
  | .str _, _, _ => by simp [eqv]
  | .tup ds, 0, h => by simp [fl] at h
  | .lst ds, 0, h => by simp [fl] at h
  | .tup ds, n + 1, h => by rw [fl] at h; rw [eqv]; exact eqvsA ds n h
  | .lst ds, n + 1, h => by rw [fl] at h; rw [eqv]; exact eqvsA ds n h
  | .dct _ _, _, h => by simp [fl] at h
  | .scr _, _, h => by simp [fl] at h
  | .tpl _, n, h => by cases n <;> simp [fl] at h
theorem eqvsA : ∀ (ds : List D) (n : Nat), fls ds n = true → eqvs ds ds = true
  | [], _, _ => by simp [eqvs]
  | d :: ds, n, h => by
    rw [fls, Bool.and_eq_true] at h
    rw [eqvs, eqvA d n h.1, eqvsA ds n h.2]; rfl
end
theorem neA {d : D} (h : fl d 60 = true) : cmpD .ne d d = .ok (.bl false) := by
  have : cmpD .ne d d = if fl d 60 && fl d 60 then .ok (.bl (!eqv d d)) else .no := rfl
  rw [this, h, eqvA d 60 h]; rfl
theorem eqA {d : D} (h : fl d 60 = true) : cmpD .eq d d = .ok (.bl true) := by
  have : cmpD .eq d d = if fl d 60 && fl d 60 then .ok (.bl (eqv d d)) else .no := rfl
  rw [this, h, eqvA d 60 h]; rfl
theorem fl_adI (l : List Int) (n : Nat) : fl (adI l) (n + 1) = true := by
  unfold adI
  rw [fl]
  refine fls_all fun x hx => ?_
  obtain ⟨i, _, rfl⟩ := List.mem_map.mp hx
  simp [fl]
theorem fl_dep : ∀ (d : Nat) (sc : Sc) (t : Tr), TrOk d sc t → ∀ (ad : List Int) (p : Tr), partI t ad = some p → fl (enc p) (2 * d + 1) = true
  | d, sc, t, h, [], p, hp => by cases hp; exact fl_enc d sc t h
  | d, sc, .text s, h, i :: ad, p, hp => by simp [partI, kidsT] at hp
  | d, sc, .rem s, h, i :: ad, p, hp => by simp [partI, kidsT] at hp
  | 0, sc, .mark n vs ks, h, i :: ad, p, hp => h.elim
  | d + 1, sc, .mark n vs ks, h, i :: ad, p, hp => by
    rw [partI] at hp
    simp only [kidsT] at hp
    split at hp
    · cases hk : ks[i.toNat]? with
      | none => rw [hk] at hp; cases hp
      | some k =>
        rw [hk] at hp
        obtain ⟨wi, ps, _, _, _, _, _, _, _, _, _, _, h11⟩ := h
        exact fl_le (fl_dep d wi k (h11 k (List.mem_of_getElem? hk)) ad p hp) (by omega)
    · cases hp
theorem last_lst {x : List D} (h : x ≠ []) : ∃ y ∈ x, idxD (.lst x) (.int (-1)) = .ok y := by
  obtain ⟨l, a, rfl⟩ : ∃ l a, x = l ++ [a] := ⟨x.dropLast, x.getLast h, (List.dropLast_concat_getLast h).symm⟩
  exact ⟨a, by simp, idx_last⟩
end Mk
end
section
set_option linter.all false
set_option maxRecDepth 100000
set_option maxHeartbeats 2000000
namespace Mk
/-- depth and sizes -/
def Sm : Nat → Tr → Prop
  | _, .text s => s.length ≤ 1000
  | _, .rem _ => True
  | 0, .mark _ _ _ => False
  | d + 1, .mark _ vs ks => ks.length ≤ 9 ∧ vs.length ≤ 9 ∧ NoAdj ks ∧ ∀ k ∈ ks, Sm d k
def Dep : Nat → Tr → Prop
  | _, .text _ => True
  | _, .rem _ => True
  | 0, .mark _ _ _ => False
  | d + 1, .mark _ _ ks => ∀ k ∈ ks, Dep d k
theorem Sm_of : ∀ (d : Nat) (sc : Sc) (t : Tr), TrOk d sc t → Sm d t
  | d, sc, .text s, h => by
    cases d <;> (show s.length ≤ 1000; have := h.2.1; omega)
  | d, sc, .rem s, h => by cases d <;> trivial
  | 0, sc, .mark _ _ _, h => h.elim
  | d + 1, sc, .mark n vs ks, h => by
    obtain ⟨wi, ps, _, _, _, _, _, h6, _, _, h9, h10, h11⟩ := h
    exact ⟨by omega, by omega, h10, fun k hk => Sm_of d wi k (h11 k hk)⟩
theorem Dep_of : ∀ (d : Nat) (t : Tr), Sm d t → Dep d t
  | d, .text s, h => by cases d <;> trivial
  | d, .rem s, h => by cases d <;> trivial
  | 0, .mark _ _ _, h => h.elim
  | d + 1, .mark n vs ks, h => fun k hk => Dep_of d k (h.2.2.2 k hk)
theorem Dep_mono : ∀ (d : Nat) (t : Tr), Dep d t → Dep (d + 1) t
  | d, .text s, h => trivial
  | d, .rem s, h => trivial
  | 0, .mark _ _ _, h => h.elim
  | d + 1, .mark n vs ks, h => fun k hk => Dep_mono d k (h k hk)
theorem Dep_le {d e : Nat} {t : Tr} (h : Dep d t) (hl : d ≤ e) : Dep e t := by
  induction e with
  | zero => have : d = 0 := by omega
            subst this; exact h
  | succ n ih =>
    by_cases e : d = n + 1
    · subst e; exact h
    · exact Dep_mono _ _ (ih (by omega))
theorem Sm_mono : ∀ (d : Nat) (t : Tr), Sm d t → Sm (d + 1) t
  | d, .text s, h => by cases d <;> exact h
  | d, .rem s, h => trivial
  | 0, .mark _ _ _, h => h.elim
  | d + 1, .mark n vs ks, h => ⟨h.1, h.2.1, h.2.2.1, fun k hk => Sm_mono d k (h.2.2.2 k hk)⟩
theorem fl_Dep : ∀ (d : Nat) (t : Tr), Dep d t → fl (enc t) (2 * d + 3) = true
  | d, .text s, _ => by rw [enc]; simp [fl, fls]
  | d, .rem s, _ => by rw [enc]; simp [fl, fls]
  | 0, .mark _ _ _, h => h.elim
  | d + 1, .mark n vs ks, h => by
    rw [enc]
    have h1 : fls (encs ks) (2 * d + 3) = true := by
      rw [encs_map]
      refine fls_all fun x hx => ?_
      obtain ⟨k, hm, rfl⟩ := List.mem_map.mp hx
      exact fl_Dep d k (h k hm)
    have h2 := fls_pr (2 * d + 2) vs
    show fls _ (2 * d + 4) = true
    simp [fls, fl, h1, h2]
def txtOf : Tr → List Nat
  | .text s => s
  | _ => []
def jstep (f : List Tr) (k : Tr) : List Tr := match k, f.getLast? with
  | .text s, some (.text s') => f.dropLast ++ [.text (s' ++ s)]
  | _, _ => f ++ [k]
def joinT (ks : List Tr) : List Tr := ks.foldl jstep []
def tsum : List Tr → Nat
  | [] => 0
  | k :: r => (txtOf k).length + tsum r
theorem tsum_app : ∀ a b : List Tr, tsum (a ++ b) = tsum a + tsum b
  | [], b => by simp [tsum]
  | k :: a, b => by simp [tsum, tsum_app a b]; omega
theorem jstep_txt {f : List Tr} {s s' : List Nat} (h : f.getLast? = some (.text s')) : jstep f (.text s) = f.dropLast ++ [.text (s' ++ s)] := by
  unfold jstep; rw [h]
theorem jstep_oth {f : List Tr} {k : Tr} (h : isText k = false ∨ ∀ l, f.getLast? = some l → isText l = false) : jstep f k = f ++ [k] := by
  unfold jstep
  split
  · rename_i s s' e
    rcases h with h | h
    · cases h
    · have := h _ e; cases this
  · rfl
theorem getLast_split {α : Type} {f : List α} {l : α} (h : f.getLast? = some l) : f = f.dropLast ++ [l] := by
  have hne : f ≠ [] := fun e => by rw [e] at h; cases h
  have := List.dropLast_concat_getLast hne
  rw [List.getLast?_eq_some_getLast hne] at h
  cases h
  exact this.symm
theorem tsum_jstep (f : List Tr) (k : Tr) : tsum (jstep f k) = tsum f + (txtOf k).length := by
  unfold jstep
  split
  · rename_i s s' e
    have h := getLast_split e
    have h2 : tsum f = tsum f.dropLast + s'.length := by
      have := congrArg tsum h
      rw [tsum_app] at this
      simpa [tsum, txtOf] using this
    rw [tsum_app, h2]
    simp [tsum, txtOf]; omega
  · rw [tsum_app]; simp [tsum]
theorem jstep_len (f : List Tr) (k : Tr) : (jstep f k).length ≤ f.length + 1 := by
  unfold jstep
  split
  · rename_i s s' e
    have := congrArg List.length (getLast_split e)
    simp at this ⊢ <;> omega
  · simp
theorem last_tsum {f : List Tr} {s' : List Nat} (h : f.getLast? = some (.text s')) : s'.length ≤ tsum f := by
  have := congrArg tsum (getLast_split h)
  rw [tsum_app] at this
  rw [this]; simp [tsum, txtOf]
theorem joinT_no : ∀ (ks f : List Tr), NoAdj (f ++ ks) → ks.foldl jstep f = f ++ ks
  | [], f, _ => by simp
  | k :: r, f, h => by
    have hj : jstep f k = f ++ [k] := by
      refine jstep_oth ?_
      cases hk : isText k with
      | false => exact .inl rfl
      | true =>
        refine .inr fun l hl => ?_
        have hs := getLast_split hl
        rw [hs] at h
        have key : ∀ (a : List Tr), NoAdj (a ++ l :: k :: r) → ¬ (isText l = true ∧ isText k = true) := by
          intro a
          induction a with
          | nil => intro h; exact h.1
          | cons x a ih =>
            intro h
            cases a with
            | nil => exact ih h.2
            | cons y a => exact ih h.2
        have := key f.dropLast (by simpa using h)
        cases hl2 : isText l with
        | false => rfl
        | true => exact absurd ⟨hl2, hk⟩ this
    rw [List.foldl_cons, hj, joinT_no r (f ++ [k]) (by simpa using h)]
    simp
/-- nothing to put together -/
theorem joinT_id {ks : List Tr} (h : NoAdj ks) : joinT ks = ks := by
  have := joinT_no ks [] (by simpa using h)
  simpa [joinT] using this
theorem joinT_take (ks : List Tr) (i : Nat) (k : Tr) (h : ks[i]? = some k) : joinT (ks.take (i + 1)) = jstep (joinT (ks.take i)) k := by
  unfold joinT
  rw [List.take_succ, h]
  simp
theorem joinT_len : ∀ (ks f : List Tr), (ks.foldl jstep f).length ≤ f.length + ks.length
  | [], f => by simp
  | k :: r, f => by
    have := joinT_len r (jstep f k)
    have := jstep_len f k
    simp only [List.foldl_cons, List.length_cons]; omega
theorem joinT_tsum : ∀ (ks f : List Tr), tsum (ks.foldl jstep f) = tsum f + tsum ks
  | [], f => by simp [tsum]
  | k :: r, f => by rw [List.foldl_cons, joinT_tsum r, tsum_jstep, tsum]; omega
theorem tsum_take (ks : List Tr) (i : Nat) : tsum (ks.take i) ≤ tsum ks := by
  have := tsum_app (ks.take i) (ks.drop i)
  rw [List.take_append_drop] at this; omega
theorem jstep_Dep {d : Nat} {f : List Tr} {k : Tr} (hf : ∀ x ∈ f, Dep d x) (hk : Dep d k) : ∀ x ∈ jstep f k, Dep d x := by
  intro x hx
  unfold jstep at hx
  split at hx
  · rcases List.mem_append.mp hx with h | h
    · exact hf x (List.dropLast_subset _ h)
    · rw [List.mem_singleton] at h; subst h; cases d <;> trivial
  · rcases List.mem_append.mp hx with h | h
    · exact hf x h
    · rw [List.mem_singleton] at h; subst h; exact hk
theorem joinT_Dep {d : Nat} : ∀ (ks f : List Tr), (∀ x ∈ f, Dep d x) → (∀ x ∈ ks, Dep d x) → ∀ x ∈ ks.foldl jstep f, Dep d x
  | [], f, hf, _ => hf
  | k :: r, f, hf, hk => joinT_Dep r (jstep f k) (jstep_Dep hf (hk k List.mem_cons_self)) fun x hx => hk x (List.mem_cons_of_mem _ hx)
theorem dropLast_enc (f : List Tr) : (encs f).dropLast = encs f.dropLast := by rw [encs_map, encs_map, List.map_dropLast]
theorem put_end {g : List Tr} {l : Tr} {d : D} : putR (.lst (encs (g ++ [l]))) (.int (-1)) d = .ok (.lst (encs g ++ [d])) := by
  have hi : ixN (encs (g ++ [l])).length (-1) = some g.length := by
    rw [encs_len, List.length_append, List.length_singleton]
    unfold ixN
    rw [if_neg (by omega), if_pos (by omega)]
    congr 1; omega
  have hp : putR (.lst (encs (g ++ [l]))) (.int (-1)) d = (match ixN (encs (g ++ [l])).length (-1) with | some n => R.ok (.lst ((encs (g ++ [l])).set n d)) | none => .no) := rfl
  rw [hp, hi]
  have e : (encs (g ++ [l])).set g.length d = encs g ++ [d] := by
    rw [encs_app, show encs [l] = [enc l] by rw [encs, encs], List.set_append_right _ _ (by rw [encs_len]; omega), encs_len, Nat.sub_self]; rfl
  simp only [e]
theorem put_last {f : List Tr} {l : Tr} {d : D} (h : f.getLast? = some l) : putR (.lst (encs f)) (.int (-1)) d = .ok (.lst (encs f.dropLast ++ [d])) := by
  have hs := getLast_split h
  have := put_end (g := f.dropLast) (l := l) (d := d)
  rw [← hs] at this
  exact this
theorem last_enc' {f : List Tr} {l : Tr} (h : f.getLast? = some l) : idxD (.lst (encs f)) (.int (-1)) = .ok (enc l) := by
  rw [getLast_split h, encs_app, show encs [l] = [enc l] by rw [encs, encs]]
  exact idx_last
end Mk
end
section
set_option linter.all false
set_option maxRecDepth 100000
set_option maxHeartbeats 2000000
namespace Mk
def lastB (f : List Tr) : Bool := match f.getLast? with
  | some l => isText l
  | none => false
theorem kind_t (t : Tr) : (kindT t == [116, 101, 120, 116]) = isText t := by cases t <;> rfl
theorem idx_m1 {tb : Tb Fn} {r : List Slot} {f : List Tr} {l : Tr} {pk : Bool} (hr : r[1]? = some (.own (.lst (encs f)))) (h : f.getLast? = some l) : ev tb (.idx (.var 1) (.neg (.kst (.int 1)))) pk r = .ok (enc l) := by
  rw [e_idx, e_var, hr]
  simp only [if_true, R.ok_bind, e_neg (i := 1) e_kst, last_enc' h]
theorem enc_1t (s : List Nat) : idxD (enc (.text s)) (.int 1) = .ok (.str s) := by rw [enc]; exact idx_t1
/-- one step of putting together -/
theorem join_step {tb : Tb Fn} {f : List Tr} {k : Tr} {x0 : Slot} {N : List Slot → Prop} {Q : D → Prop} {c : E Fn} (hc : ev tb c false [x0, .own (.lst (encs f)), .val (enc k)] = .ok (.bl (isText k && lastB f))) (hs : tsum f + (txtOf k).length < LIM) (hl : f.length < LIM)
    (hN : N [x0, .own (.lst (encs (jstep f k))), .val (enc k)]) :
    Wp tb [.ife c [.put 1 (.neg (.kst (.int 1))) (.tup [(.kst (.str [116, 101, 120, 116])), (.bin .add (.idx (.idx (.var 1) (.neg (.kst (.int 1)))) (.kst (.int 1))) (.idx (.var 2) (.kst (.int 1))))])] [.app 1 (.var 2)]] [x0, .own (.lst (encs f)), .val (enc k)] N Q := by
  refine wp_if _ hc (fun hb => ?_) (fun hb => ?_)
  · rw [Bool.and_eq_true] at hb
    cases k with
    | rem s => cases hb.1
    | mark n vs ks => cases hb.1
    | text s =>
      have hb2 := hb.2
      unfold lastB at hb2
      cases hl2 : f.getLast? with
      | none => rw [hl2] at hb2; cases hb2
      | some l =>
        rw [hl2] at hb2
        cases l with
        | rem s' => cases hb2
        | mark n vs ks => cases hb2
        | text s' =>
          have hlen := last_tsum hl2
          have e1 : ev tb (.idx (.idx (.var 1) (.neg (.kst (.int 1)))) (.kst (.int 1))) true [x0, .own (.lst (encs f)), .val (enc (.text s))] = .ok (.str s') := by
            rw [e_idx, idx_m1 rfl hl2]
            simp only [R.ok_bind, e_kst, enc_1t]
          refine wp_put (.tup [.str [116, 101, 120, 116], .str (s' ++ s)]) (.int (-1)) (.lst (encs f.dropLast ++ [enc (.text (s' ++ s))])) rfl ?_ (e_neg e_kst) ?_ (wp_nil ?_)
          · simp only [e_tup, e_bin, e_idx, e_kst, e_var, es_cons, es_nil, R.ok_bind] at e1 ⊢
            rw [e1]
            simp only [R.ok_bind, List.getElem?_cons_succ, List.getElem?_cons_zero, if_true, enc_1t]
            rw [add_str (by simp only [txtOf] at hs; omega)]
            rfl
          · rw [put_last hl2]
            rw [enc]; rfl
          · refine wp_nil ?_
            rw [jstep_txt hl2, encs_app, show encs [Tr.text (s' ++ s)] = [enc (.text (s' ++ s))] by rw [encs, encs]] at hN
            exact hN
  · have hj : jstep f k = f ++ [k] := by
      refine jstep_oth ?_
      rw [Bool.and_eq_false_iff] at hb
      rcases hb with hb | hb
      · exact .inl hb
      · refine .inr fun l hl2 => ?_
        unfold lastB at hb
        rw [hl2] at hb
        exact hb
    refine wp_app (ds := encs f) (enc k) rfl (by simp [e_var, e_kst, e_tup, e_lst, e_bin, e_cmp, e_idx, e_call, e_blt, es_nil, es_cons]) (by rw [encs_len]; exact hl) (wp_nil (wp_nil ?_))
    rw [hj, encs_app, show encs [k] = [enc k] by rw [encs, encs]] at hN
    exact hN
end Mk
end
section
set_option linter.all false
set_option maxRecDepth 100000
set_option maxHeartbeats 2000000
namespace Mk
def updJ : Tr → List Nat → List Tr → Option Tr
  | _, [], ss => ss.head?
  | .mark n vs ks, [i], ss => if i < ks.length then some (.mark n vs (joinT (ks.take i ++ ss ++ ks.drop (i + 1)))) else none
  | .mark n vs ks, i :: j :: r, ss => match ks[i]? with
    | some k => match updJ k (j :: r) ss with
      | some k' => some (.mark n vs (ks.take i ++ [k'] ++ ks.drop (i + 1)))
      | none => none
    | none => none
  | _, _, _ => none
theorem slcTi (l : List D) (i : Nat) : slcD (.tup l) none (some (i : Int)) = .ok (.tup (l.take i)) := by simp only [slcD, cut_to]
theorem slcTf (l : List D) (i : Nat) : slcD (.tup l) (some (i : Int)) none = .ok (.tup (l.drop i)) := by simp only [slcD, cut_from]
theorem encsTake (ks : List Tr) (n : Nat) : (encs ks).take n = encs (ks.take n) := by rw [encs_map, encs_map, List.map_take]
theorem encsDrop (ks : List Tr) (n : Nat) : (encs ks).drop n = encs (ks.drop n) := by rw [encs_map, encs_map, List.map_drop]
theorem encs_1 (x : Tr) : encs [x] = [enc x] := by rw [encs, encs]
theorem adLen (ad : List Nat) : bltD .len [adD ad] = .ok (.int ad.length) := by simp [bltD, adD]
theorem eqInt (a b : Int) : cmpD .eq (.int a) (.int b) = .ok (.bl (a == b)) := by simp [cmpD, fl, eqv]
theorem eqAd0 (ad : List Nat) : cmpD .eq (adD ad) (.tup []) = .ok (.bl ad.isEmpty) := by
  have h : fl (adD ad) 60 = true := by rw [adD_I]; exact fl_adI _ 59
  have : cmpD .eq (adD ad) (.tup []) = if fl (adD ad) 60 && fl (.tup []) 60 then .ok (.bl (eqv (adD ad) (.tup []))) else .no := rfl
  rw [this, h, show fl (.tup []) 60 = true from rfl]
  cases ad <;> rfl
theorem neAd0 (ad : List Nat) : cmpD .ne (adD ad) (.tup []) = .ok (.bl (!ad.isEmpty)) := by
  have h : fl (adD ad) 60 = true := by rw [adD_I]; exact fl_adI _ 59
  have : cmpD .ne (adD ad) (.tup []) = if fl (adD ad) 60 && fl (.tup []) 60 then .ok (.bl (!eqv (adD ad) (.tup []))) else .no := rfl
  rw [this, h, show fl (.tup []) 60 = true from rfl]
  cases ad <;> rfl
theorem noAdj_upd : ∀ (ks : List Tr) (i : Nat) (k' : Tr), NoAdj ks → isText k' = false → NoAdj (ks.take i ++ [k'] ++ ks.drop (i + 1))
  | [], i, k', _, _ => by simp; trivial
  | [a], 0, k', _, _ => trivial
  | [a], i + 1, k', _, h => by simp; exact ⟨(fun z => by rw [h] at z; cases z.2), trivial⟩
  | a :: b :: r, 0, k', hn, h => ⟨(fun z => by rw [h] at z; cases z.1), hn.2⟩
  | a :: b :: r, i + 1, k', hn, h => by
    have ih := noAdj_upd (b :: r) i k' hn.2 h
    cases i with
    | zero => exact ⟨(fun z => by rw [h] at z; cases z.2), ih⟩
    | succ i => exact ⟨hn.1, ih⟩
theorem tsum_Sm : ∀ (d : Nat) (ks : List Tr), (∀ k ∈ ks, Sm d k) → tsum ks ≤ ks.length * 1000
  | d, [], _ => by simp [tsum]
  | d, k :: r, h => by
    have ih := tsum_Sm d r fun x hx => h x (List.mem_cons_of_mem _ hx)
    have : (txtOf k).length ≤ 1000 := by
      have := h k List.mem_cons_self
      cases k with
      | text s => cases d <;> exact this
      | rem s => simp [txtOf]
      | mark n vs ks => simp [txtOf]
    simp only [tsum, List.length_cons]; omega
theorem updJ_mark {k t' : Tr} {j : Nat} {r : List Nat} {ss : List Tr} (h : updJ k (j :: r) ss = some t') : (∃ n vs ks, k = .mark n vs ks) ∧ isText t' = false := by
  cases k with
  | text s => cases r <;> cases h
  | rem s => cases r <;> cases h
  | mark n vs ks =>
    refine ⟨⟨_, _, _, rfl⟩, ?_⟩
    cases r with
    | nil =>
      rw [updJ] at h
      split at h
      · cases h; rfl
      · cases h
    | cons j2 r2 =>
      rw [updJ] at h
      split at h
      · split at h
        · cases h; rfl
        · cases h
      · cases h
theorem tsum_drop (ks : List Tr) (i : Nat) : tsum (ks.drop i) ≤ tsum ks := by
  have := tsum_app (ks.take i) (ks.drop i)
  rw [List.take_append_drop] at this; omega
end Mk
end
section
set_option linter.all false
set_option maxRecDepth 100000
set_option maxHeartbeats 2000000
namespace Mk
theorem partI_some : ∀ (ad : List Int) (t p : Tr), partI t ad = some p → ∃ l, ad = ofN l ∧ partT t l = some p
  | [], t, p, h => ⟨[], rfl, h⟩
  | i :: ad, t, p, h => by
    rw [partI] at h
    split at h
    · rename_i h0
      cases hk : (kidsT t)[i.toNat]? with
      | none => rw [hk] at h; cases h
      | some k =>
        rw [hk] at h
        obtain ⟨l, rfl, h2⟩ := partI_some ad k p h
        refine ⟨i.toNat :: l, ?_, ?_⟩
        · show i :: ofN l = ((i.toNat : Nat) : Int) :: ofN l
          rw [Int.toNat_of_nonneg h0]
        · rw [partT, hk]; exact h2
    · cases h
theorem updJ_some : ∀ (l : List Nat) (t p : Tr) (ss : List Tr), partT t l = some p → (l ≠ [] ∨ ss ≠ []) → ∃ t', updJ t l ss = some t'
  | [], t, p, ss, h, hs => by
    cases ss with
    | nil => simp at hs
    | cons s r => exact ⟨s, rfl⟩
  | i :: l, .text s, p, ss, h, _ => by simp [partT, kidsT] at h
  | i :: l, .rem s, p, ss, h, _ => by simp [partT, kidsT] at h
  | [i], .mark n vs ks, p, ss, h, _ => by
    rw [partT] at h
    simp only [kidsT] at h
    cases hk : ks[i]? with
    | none => rw [hk] at h; cases h
    | some k => exact ⟨_, by rw [updJ, if_pos (List.getElem?_eq_some_iff.mp hk).1]⟩
  | i :: j :: r, .mark n vs ks, p, ss, h, _ => by
    rw [partT] at h
    simp only [kidsT] at h
    cases hk : ks[i]? with
    | none => rw [hk] at h; cases h
    | some k =>
      rw [hk] at h
      obtain ⟨k', hk'⟩ := updJ_some (j :: r) k p ss h (.inl (by simp))
      exact ⟨.mark n vs (ks.take i ++ [k'] ++ ks.drop (i + 1)), by rw [updJ, hk]; simp only [hk']⟩
theorem updJ_Dep : ∀ (l : List Nat) (d e : Nat) (t t' : Tr) (ss : List Tr), Dep d t → (∀ s ∈ ss, Dep e s) → updJ t l ss = some t' → Dep (d + e) t'
  | [], d, e, t, t', ss, hd, hs, h => by
    cases ss with
    | nil => cases h
    | cons s r =>
      cases h
      exact Dep_le (d := e) (hs _ List.mem_cons_self) (by omega)
  | i :: l, d, e, .text s, t', ss, hd, hs, h => by cases l <;> cases h
  | i :: l, d, e, .rem s, t', ss, hd, hs, h => by cases l <;> cases h
  | i :: l, 0, e, .mark n vs ks, t', ss, hd, hs, h => hd.elim
  | [i], d + 1, e, .mark n vs ks, t', ss, hd, hs, h => by
    rw [updJ] at h
    split at h
    · cases h
      rw [show d + 1 + e = (d + e) + 1 by omega]
      refine joinT_Dep _ [] (by simp) fun x hx => ?_
      rw [List.mem_append, List.mem_append] at hx
      rcases hx with (hx | hx) | hx
      · exact Dep_le (hd x (List.mem_of_mem_take hx)) (by omega)
      · exact Dep_le (hs x hx) (by omega)
      · exact Dep_le (hd x (List.mem_of_mem_drop hx)) (by omega)
    · cases h
  | i :: j :: r, d + 1, e, .mark n vs ks, t', ss, hd, hs, h => by
    rw [updJ] at h
    cases hk : ks[i]? with
    | none => rw [hk] at h; cases h
    | some k =>
      rw [hk] at h
      cases hk2 : updJ k (j :: r) ss with
      | none => simp only [hk2] at h; cases h
      | some k' =>
        simp only [hk2] at h
        cases h
        have ih := updJ_Dep (j :: r) d e k k' ss (hd k (List.mem_of_getElem? hk)) hs hk2
        rw [show d + 1 + e = (d + e) + 1 by omega]
        intro x hx
        rw [List.mem_append, List.mem_append] at hx
        rcases hx with (hx | hx) | hx
        · exact Dep_le (hd x (List.mem_of_mem_take hx)) (by omega)
        · rw [List.mem_singleton] at hx; subst hx; exact ih
        · exact Dep_le (hd x (List.mem_of_mem_drop hx)) (by omega)
/-- the mark at an address -/
def markI (t : Tr) (ad : List Int) : Bool := match partI t ad with
  | some (.mark _ _ _) => true
  | _ => false
theorem r_mark_no (m : Nat) (t : Tr) (ad : List Int) (h : markI t ad = false) : run prog (m + 3) .f_mark_at [enc t, adI ad] = .ex .noPart := by
  have hp := r_part_I m t ad
  unfold markI at h
  refine run_ex rfl fun tb ht => ?_
  show exs _ b_mark_at _ = _
  unfold b_mark_at
  have key : ∀ p, partI t ad = some p → isText p = true ∨ (∃ s, p = .rem s) → exs tb [.set 2 (.call .f_part_at [(.var 0), (.var 1)]), .ife (.cmp .ne (.idx (.var 2) (.kst (.int 0))) (.kst (.str [109, 97, 114, 107]))) [.rai .noPart] [], .ret (.var 2)] (start (prog .f_mark_at).ns [enc t, adI ad]) = .ex .noPart := by
    intro p hpp hk
    rw [hpp] at hp
    have hst : start (prog .f_mark_at).ns [enc t, adI ad] = [.val (enc t), .val (adI ad), .un] := by simp [start, prog]
    rw [hst, x_setN (d := enc p) (by simp [e_var, e_kst, e_tup, e_lst, e_bin, e_cmp, e_idx, e_call, e_blt, es_nil, es_cons, ht, hp]) (by simp) rfl]
    simp only [List.set_cons_succ, List.set_cons_zero]
    refine x_thenX ?_ x_rai
    simp only [e_var, e_kst, e_tup, e_lst, e_bin, e_cmp, e_idx, e_call, e_blt, es_nil, es_cons, List.getElem?_cons_succ, List.getElem?_cons_zero, if_true, R.ok_bind, enc_0, ne_str]
    rcases hk with hk | ⟨s, rfl⟩
    · cases p with
      | text s => rfl
      | rem s => cases hk
      | mark n vs ks => cases hk
    · rfl
  cases hpp : partI t ad with
  | none =>
    rw [hpp] at hp
    exact x_setX (by simp [e_var, e_kst, e_tup, e_lst, e_bin, e_cmp, e_idx, e_call, e_blt, es_nil, es_cons, start, prog, ht, hp])
  | some p =>
    cases p with
    | text s => exact key _ hpp (.inl rfl)
    | rem s => exact key _ hpp (.inr ⟨s, rfl⟩)
    | mark n vs ks => rw [hpp] at h; cases h
section
variable {m : Nat} {t t' : Tr}
theorem r_part_N (m : Nat) {l : List Nat} {p : Tr} (h : partT t l = some p) : run prog (m + 2) .f_part_at [enc t, adD l] = .ok (enc p) := by
  have := r_part_I m t (ofN l)
  rw [partI_N, h, ← adD_I] at this
  exact this
theorem r_mark_N (m : Nat) {l : List Nat} {n : List Nat} {vs : Sc} {ks : List Tr} (h : partT t l = some (.mark n vs ks)) : run prog (m + 3) .f_mark_at [enc t, adD l] = .ok (enc (.mark n vs ks)) := r_mark_at m t l n vs ks h
theorem e_between {tb : Tb Fn} {r : List Slot} {i : Int} {j k : Nat} {e : E Fn} (h1 : r[j]? = some (.val (.int i))) (h2 : ev tb e true r = .ok (.int k)) : ev tb (.chain .le .le (.kst (.int 0)) (.var j) e) false r = .ok (.bl (decide (0 ≤ i) && decide (i ≤ k))) := by
  rw [e_chain (x := .int 0) (y := .int i) (z := .int k) (k := decide (0 ≤ i)) (k' := decide (i ≤ k))]
  · simp [e_var, e_kst, e_tup, e_lst, e_bin, e_cmp, e_idx, e_call, e_blt, es_nil, es_cons]
  · rw [e_var, h1]
  · exact h2
  · simp [cmpD]
  · simp [cmpD]
end
end Mk
end
section
set_option linter.all false
set_option maxRecDepth 100000
namespace Mk
def seq (x : R Out) (f : List Slot → R Out) : R Out := x >>= fun o => match o with | .nx r => f r | .rt d => .ok (.rt d)
theorem seq_nx (r : List Slot) (f : List Slot → R Out) : seq (.ok (.nx r)) f = f r := Eq.trans (Eq.refl _) (Eq.refl _)
theorem seq_rt (d : D) (f : List Slot → R Out) : seq (.ok (.rt d)) f = .ok (.rt d) := Eq.trans (Eq.refl _) (Eq.refl _)
theorem seq_no (f : List Slot → R Out) : seq .no f = .no := Eq.trans (Eq.refl _) (Eq.refl _)
theorem seq_ex (x : Ex) (f : List Slot → R Out) : seq (.ex x) f = .ex x := Eq.trans (Eq.refl _) (Eq.refl _)
theorem seq_ite (c : Prop) [Decidable c] (a b : R Out) (f : List Slot → R Out) : seq (if c then a else b) f = if c then seq a f else seq b f := by split <;> rfl
theorem bind_ite {α β : Type} (c : Prop) [Decidable c] (a b : R α) (f : α → R β) : ((if c then a else b) >>= f) = if c then a >>= f else b >>= f := by split <;> rfl
def fin : R Out → R D
  | .ok (.rt v) => .ok v
  | .ok (.nx _) => .ok .non
  | .ex e => .ex e
  | .no => .no
theorem fin_rt (d : D) : fin (.ok (.rt d)) = .ok d := Eq.trans (Eq.refl _) (Eq.refl _)
theorem fin_nx (r : List Slot) : fin (.ok (.nx r)) = .ok .non := Eq.trans (Eq.refl _) (Eq.refl _)
theorem fin_ex (x : Ex) : fin (.ex x) = .ex x := Eq.trans (Eq.refl _) (Eq.refl _)
theorem fin_no : fin .no = .no := Eq.trans (Eq.refl _) (Eq.refl _)
theorem fin_ite (c : Prop) [Decidable c] (a b : R Out) : fin (if c then a else b) = if c then fin a else fin b := by split <;> rfl
theorem tr_bl (b : Bool) : truth (.bl b) = .ok b := Eq.trans (Eq.refl _) (Eq.refl _)
theorem run_fin {F : Type} {p : F → Df F} {m : Nat} {f : F} {args : List D} (hn : args.length = (p f).np) : run p (m + 1) f args = fin (exs (tbOf p m) (p f).body (start (p f).ns args)) := by
  have h : exe (tbOf p m) (p f) args = fin (exs (tbOf p m) (p f).body (start (p f).ns args)) := by
    unfold exe
    rw [if_pos hn] <;> (cases exs (tbOf p m) (p f).body (start (p f).ns args) with
      | ok o => cases o <;> rfl
      | ex x => rfl
      | no => rfl)
  rw [run_succ]; exact h
/-- the same, told for any table -/
theorem run_sx {F : Type} {p : F → Df F} {m : Nat} {f : F} {args : List D} {v : R D} (hn : args.length = (p f).np) (h : ∀ t : Tb F, t.c = run p m → fin (exs t (p f).body (start (p f).ns args)) = v) : run p (m + 1) f args = v := by
  rw [run_fin hn]; exact h _ (tb_c p m)
section
variable {F : Type} {t : Tb F} {r : List Slot} {ss : List (S F)} {pk : Bool}
theorem s_nil : exs t ([] : List (S F)) r = .ok (.nx r) := x_nil
theorem s_cons {s : S F} : exs t (s :: ss) r = seq (ex t s r) (exs t ss) := by
  rw [exs]; unfold seq
  cases ex t s r with
  | ok o => cases o <;> rfl
  | ex x => rfl
  | no => rfl
theorem s_set {i : Nat} {e : E F} : exs t (.set i e :: ss) r = (ev t e false r >>= fun d => if i < r.length then exs t ss (r.set i (if fresh e && isMut d then .own d else .val d)) else .no) := by
  rw [s_cons, ex]
  cases ev t e false r with
  | ok d =>
    simp only [R.ok_bind]
    split
    · exact seq_nx _ _
    · exact seq_no _
  | ex x => rfl
  | no => rfl
theorem s_unp {is : List Nat} {e : E F} : exs t (.unp is e :: ss) r = (ev t e false r >>= fun d => asg (.tp is) d r >>= fun r' => exs t ss r') := by
  rw [s_cons, ex]
  cases ev t e false r with
  | ok d =>
    simp only [R.ok_bind]
    cases asg (.tp is) d r with
    | ok r' => rfl
    | ex x => rfl
    | no => rfl
  | ex x => rfl
  | no => rfl
theorem s_ret {e : E F} : exs t (.ret e :: ss) r = (ev t e true r >>= fun d => .ok (.rt d)) := by
  rw [s_cons, ex]
  cases ev t e true r with
  | ok d => rfl
  | ex x => rfl
  | no => rfl
theorem s_retF {e : E F} : exs t (.retF e :: ss) r = (ev t e false (frzR r) >>= fun d => .ok (.rt d)) := by
  rw [s_cons, ex]
  cases ev t e false (frzR r) with
  | ok d => rfl
  | ex x => rfl
  | no => rfl
theorem s_expr {e : E F} : exs t (.expr e :: ss) r = (ev t e false r >>= fun _ => exs t ss r) := by
  rw [s_cons, ex]
  cases ev t e false r with
  | ok d => rfl
  | ex x => rfl
  | no => rfl
theorem s_frz {s : S F} : exs t (.frz s :: ss) r = exs t (s :: ss) (frzR r) := by rw [s_cons, s_cons, ex]
theorem s_rai {x : Ex} : exs t (.rai x :: ss) r = .ex x := by rw [s_cons, ex]; rfl
theorem s_if {c : E F} {a b : List (S F)} : exs t (.ife c a b :: ss) r = (ev t c false r >>= fun x => truth x >>= fun k => if k = true then seq (exs t a r) (exs t ss) else seq (exs t b r) (exs t ss)) := by
  rw [s_cons, ex]
  cases ev t c false r with
  | ok d =>
    simp only [R.ok_bind]
    cases truth d with
    | ok k => cases k <;> rfl
    | ex x => rfl
    | no => rfl
  | ex x => rfl
  | no => rfl
def fb (t : Tb F) (tg : Tg) (body : List (S F)) : D → List Slot → R Out := fun x r => asg tg x r >>= fun r' => exs t body r'
theorem s_for {tg : Tg} {k : Sk} {es : List (E F)} {body : List (S F)} : exs t (.forr tg k es body :: ss) r = (evs t es false r >>= fun src => srcD k src >>= fun items => seq (forL (fb t tg body) items r) (exs t ss)) := by
  rw [s_cons, ex]
  cases evs t es false r with
  | ok src =>
    simp only [R.ok_bind]
    cases srcD k src with
    | ok items => rfl
    | ex x => rfl
    | no => rfl
  | ex x => rfl
  | no => rfl
theorem s_app {i : Nat} {e : E F} : exs t (.app i e :: ss) r = (match r[i]? with | some (.own (.lst ds)) => (ev t e false r >>= fun d => if ds.length < LIM then exs t ss (r.set i (.own (.lst (ds ++ [d])))) else .no) | _ => .no) := by
  rw [s_cons, ex] <;> (cases r[i]? with
    | none => rfl
    | some q =>
      cases q with
      | un => rfl
      | val d => rfl
      | own o =>
        cases o with
        | lst ds =>
          simp only
          cases ev t e false r with
          | ok d =>
            simp only [R.ok_bind]
            by_cases hl : ds.length < LIM
            · rw [if_pos hl, if_pos hl]; exact seq_nx _ _
            · rw [if_neg hl, if_neg hl]; exact seq_no _
          | ex x => rfl
          | no => rfl
        | _ => rfl)
theorem s_put {i : Nat} {k e : E F} : exs t (.put i k e :: ss) r = (match r[i]? with | some (.own o) => (ev t e false r >>= fun d => ev t k false r >>= fun x => putR o x d >>= fun o' => exs t ss (r.set i (.own o'))) | _ => .no) := by
  rw [s_cons, ex] <;> (cases r[i]? with
    | none => rfl
    | some q =>
      cases q with
      | un => rfl
      | val d => rfl
      | own o =>
        simp only
        cases ev t e false r with
        | ok d =>
          simp only [R.ok_bind]
          cases ev t k false r with
          | ok x =>
            simp only [R.ok_bind]
            cases putR o x d with
            | ok o' => rfl
            | ex x => rfl
            | no => rfl
          | ex x => rfl
          | no => rfl
        | ex x => rfl
        | no => rfl)
theorem v_and {a b : E F} : ev t (.and a b) pk r = (ev t a false r >>= fun x => truth x >>= fun k => if k = true then ev t b false r else .ok (.bl false)) := by
  rw [ev]
  cases ev t a false r with
  | ok d =>
    simp only [R.ok_bind]
    cases truth d with
    | ok k => cases k <;> rfl
    | ex x => rfl
    | no => rfl
  | ex x => rfl
  | no => rfl
theorem v_or {a b : E F} : ev t (.or a b) pk r = (ev t a false r >>= fun x => truth x >>= fun k => if k = true then .ok (.bl true) else ev t b false r) := by
  rw [ev]
  cases ev t a false r with
  | ok d =>
    simp only [R.ok_bind]
    cases truth d with
    | ok k => cases k <;> rfl
    | ex x => rfl
    | no => rfl
  | ex x => rfl
  | no => rfl
theorem v_not {a : E F} : ev t (.not a) pk r = (ev t a false r >>= fun x => truth x >>= fun k => .ok (.bl (!k))) := by
  rw [ev]
theorem v_neg {a : E F} : ev t (.neg a) pk r = (ev t a false r >>= fun x => match x with | .int i => .ok (.int (-i)) | _ => .no) := by
  rw [ev] <;> rfl
theorem v_chain {op op' : Cop} {a b c : E F} : ev t (.chain op op' a b c) pk r = (ev t a true r >>= fun x => ev t b true r >>= fun y => cmpD op x y >>= fun z => truth z >>= fun k => if k = true then (ev t c true r >>= fun w => cmpD op' y w) else .ok (.bl false)) := by
  rw [ev]
  cases ev t a true r with
  | ok x =>
    simp only [R.ok_bind]
    cases ev t b true r with
    | ok y =>
      simp only [R.ok_bind]
      cases cmpD op x y with
      | ok z =>
        simp only [R.ok_bind]
        cases truth z with
        | ok k => cases k <;> rfl
        | ex x => rfl
        | no => rfl
      | ex x => rfl
      | no => rfl
    | ex x => rfl
    | no => rfl
  | ex x => rfl
  | no => rfl
theorem v_rev {a : E F} : ev t (.rev a) pk r = (ev t a true r >>= fun x => match x with | .tup ds => .ok (.tup ds.reverse) | _ => .no) := by
  rw [ev] <;> rfl
end
theorem ite_and (k b : Bool) : (if k = true then R.ok (D.bl b) else R.ok (D.bl false)) = R.ok (D.bl (k && b)) := by cases k <;> simp
theorem ite_or (k b : Bool) : (if k = true then R.ok (D.bl true) else R.ok (D.bl b)) = R.ok (D.bl (k || b)) := by cases k <;> simp
theorem ite_same {α : Type} (c : Prop) [Decidable c] (a : α) : (if c then a else a) = a := by split <;> rfl
theorem isa_val {ty : Ty} {d : D} (h : match d with | .scr _ => False | .dct _ _ => False | .tpl _ => False | _ => True) : (match d with | .scr _ => R.no | .dct _ _ => R.no | .tpl _ => R.no | x => R.ok (D.bl (isaD ty x))) = R.ok (D.bl (isaD ty d)) := by
  cases d <;> first | rfl | exact h.elim
end Mk
end
section
set_option linter.all false
set_option maxRecDepth 100000
set_option maxHeartbeats 4000000
namespace Mk
/-- neither a dict nor a script -/
def Nd : D → Prop
  | .dct _ _ => False
  | .scr _ => False
  | .tpl _ => False
  | _ => True
def signB (c : Nat) : Bool := c == 10 || (decide (32 ≤ c) && decide (c ≤ 126) && !(c == 37))
theorem lt_one (a b : Nat) : ltS [a] [b] = decide (a < b) := by
  simp only [ltS]
  split
  · rename_i h; subst h; simp
  · rfl
theorem le_str (a b : List Nat) : cmpD .le (.str a) (.str b) = .ok (.bl (!ltS b a)) := Eq.trans (Eq.refl _) (Eq.refl _)
theorem eq_int (a b : Int) : cmpD .eq (.int a) (.int b) = .ok (.bl (a == b)) := by simp [cmpD, fl, eqv]
theorem ne_int (a b : Int) : cmpD .ne (.int a) (.int b) = .ok (.bl (!(a == b))) := by simp [cmpD, fl, eqv]
theorem bools_map {α : Type} (f : α → Bool) (l : List α) : bools (l.map fun x => .bl (f x)) = some (l.map f) := by
  induction l with
  | nil => rfl
  | cons a r ih => simp [bools, ih]
theorem all_bl {α : Type} (f : α → Bool) (l : List α) : bltD .all [.lst (l.map fun x => .bl (f x))] = .ok (.bl (l.all f)) := by
  simp only [bltD, bools_map, opt, List.all_map, List.any_map]
  rfl
theorem any_bl {α : Type} (f : α → Bool) (l : List α) : bltD .any [.lst (l.map fun x => .bl (f x))] = .ok (.bl (l.any f)) := by
  simp only [bltD, bools_map, opt, List.all_map, List.any_map]
  rfl
/-- a comprehension over an image -/
theorem lcL_im {α : Type} {f : D → R (Option D)} {u : α → D} {g : α → D} : ∀ (l : List α), (∀ x ∈ l, f (u x) = .ok (some (g x))) → lcL f (l.map u) = .ok (l.map g)
  | [], _ => rfl
  | x :: xs, h => by
    rw [List.map_cons, lcL, h x List.mem_cons_self]
    simp only [R.still_ok, R.ok_bind]
    rw [lcL_im xs fun y hy => h y (List.mem_cons_of_mem _ hy)]
    rfl
theorem lcL_imF {α : Type} {f : D → R (Option D)} {u : α → D} {g : α → D} {p : α → Bool} : ∀ (l : List α), (∀ x ∈ l, f (u x) = .ok (if p x then some (g x) else none)) → lcL f (l.map u) = .ok ((l.filter p).map g)
  | [], _ => rfl
  | x :: xs, h => by
    rw [List.map_cons, lcL, h x List.mem_cons_self]
    simp only [R.still_ok, R.ok_bind]
    rw [lcL_imF xs fun y hy => h y (List.mem_cons_of_mem _ hy)]
    cases hp : p x <;> simp [hp]
def sgnB : D → Bool
  | .str x => x.all signB
  | _ => false
theorem src_it_str (x : List Nat) : srcD .it [.str x] = .ok (x.map fun c => .str [c]) := Eq.trans (Eq.refl _) (Eq.refl _)
theorem src_it_lst (x : List D) : srcD .it [.lst x] = .ok x := Eq.trans (Eq.refl _) (Eq.refl _)
theorem src_it_tup (x : List D) : srcD .it [.tup x] = .ok x := Eq.trans (Eq.refl _) (Eq.refl _)
def wordB (x : List Nat) : Bool := decide (1 ≤ x.length) && decide (x.length ≤ 5) && x.all isLow
theorem low_iff (c : Nat) : isIn [c] kLow = isLow c := by
  have h : ∀ l : List Nat, isIn [c] l = l.any (· == c) := by
    intro l
    induction l with
    | nil => rfl
    | cons a r ih =>
      simp only [isIn, isPre, ih, List.any_cons, Bool.and_true]
      congr 1
      rw [Bool.eq_iff_iff, beq_iff_eq, beq_iff_eq]; exact eq_comm
  rw [h, Bool.eq_iff_iff]
  simp only [isLow, kLow, List.any_cons, List.any_nil, Bool.or_false, Bool.or_eq_true, beq_iff_eq, Bool.and_eq_true, decide_eq_true_eq]
  omega
theorem isin_str (a b : List Nat) : cmpD .isin (.str a) (.str b) = .ok (.bl (isIn a b)) := Eq.trans (Eq.refl _) (Eq.refl _)
theorem notin_strS (a b : List Nat) : cmpD .notin (.str a) (.str b) = .ok (.bl (!isIn a b)) := Eq.trans (Eq.refl _) (Eq.refl _)
theorem le_int (a b : Int) : cmpD .le (.int a) (.int b) = .ok (.bl (decide (a ≤ b))) := Eq.trans (Eq.refl _) (Eq.refl _)
theorem lt_int (a b : Int) : cmpD .lt (.int a) (.int b) = .ok (.bl (decide (a < b))) := Eq.trans (Eq.refl _) (Eq.refl _)
theorem gt_int (a b : Int) : cmpD .gt (.int a) (.int b) = .ok (.bl (decide (b < a))) := Eq.trans (Eq.refl _) (Eq.refl _)
theorem len_str (a : List Nat) : bltD .len [.str a] = .ok (.int a.length) := Eq.trans (Eq.refl _) (Eq.refl _)
theorem len_lst (a : List D) : bltD .len [.lst a] = .ok (.int a.length) := Eq.trans (Eq.refl _) (Eq.refl _)
theorem len_tup (a : List D) : bltD .len [.tup a] = .ok (.int a.length) := Eq.trans (Eq.refl _) (Eq.refl _)
def nameS (x : List Nat) : Bool := decide ((splitOn 58 [] x).length ≤ 2) && (splitOn 58 [] x).all wordB
def nameB : D → Bool
  | .str x => nameS x
  | _ => false
theorem split_str (x : List Nat) (c : Nat) : mthD .split (.str x) [.str [c]] = .ok (.lst ((splitOn c [] x).map .str)) := Eq.trans (Eq.refl _) (Eq.refl _)
theorem low_le (c : Nat) : (!ltS [c] [97] && !ltS [122] [c]) = isLow c := by
  rw [lt_one, lt_one]; unfold isLow
  rw [Bool.eq_iff_iff]; simp
/-- a for that goes on, or returns no -/
theorem forL_all {f : D → List Slot → R Out} {α : Type} {u : α → D} {p : α → Bool} {v : D} {P : List Slot → Prop} : ∀ (l : List α) (r : List Slot), P r → (∀ x ∈ l, ∀ r, P r → if p x then ∃ r', f (u x) r = .ok (.nx r') ∧ P r' else f (u x) r = .ok (.rt v)) → if l.all p then ∃ r', forL f (l.map u) r = .ok (.nx r') ∧ P r' else forL f (l.map u) r = .ok (.rt v)
  | [], r, h, _ => ⟨r, rfl, h⟩
  | x :: xs, r, h, hs => by
    have h1 := hs x List.mem_cons_self r h
    rw [List.map_cons, forL, List.all_cons]
    cases hp : p x with
    | false =>
      rw [hp] at h1
      simp only [Bool.false_eq_true, if_false, Bool.false_and] at h1 ⊢
      rw [h1]; rfl
    | true =>
      rw [hp] at h1
      simp only [if_true, Bool.true_and] at h1 ⊢
      obtain ⟨r', h2, h3⟩ := h1
      rw [h2]
      exact forL_all xs r' h3 fun y hy => hs y (List.mem_cons_of_mem _ hy)
theorem eq_lnil {l : List D} (h : fls l 59 = true) : cmpD .eq (.lst l) (.lst []) = .ok (.bl l.isEmpty) := by
  have : cmpD .eq (.lst l) (.lst []) = if fl (.lst l) 60 && fl (.lst []) 60 then .ok (.bl (eqv (.lst l) (.lst []))) else .no := rfl
  rw [this, show fl (.lst l) 60 = fls l 59 by rw [fl], h]
  cases l <;> rfl
theorem ne_lnil {l : List D} (h : fls l 59 = true) : cmpD .ne (.lst l) (.lst []) = .ok (.bl (!l.isEmpty)) := by
  have : cmpD .ne (.lst l) (.lst []) = if fl (.lst l) 60 && fl (.lst []) 60 then .ok (.bl (!eqv (.lst l) (.lst []))) else .no := rfl
  rw [this, show fl (.lst l) 60 = fls l 59 by rw [fl], h]
  cases l <;> rfl
theorem fls_one (n : Nat) (l : List Nat) : fls (l.map fun c => .str [c]) n = true := fls_all fun d hd => by
  obtain ⟨c, _, rfl⟩ := List.mem_map.mp hd; simp [fl]
theorem empty_filter {α : Type} (p : α → Bool) (l : List α) : (l.filter fun x => !p x).isEmpty = l.all p := by
  induction l with
  | nil => rfl
  | cons a r ih => cases h : p a <;> simp [h, ← ih]
theorem map_empty {α β : Type} (f : α → β) (l : List α) : (l.map f).isEmpty = l.isEmpty := by cases l <;> rfl
theorem sign_iff (c : Nat) : isIn [c] kSigns = signB c := by
  have h : ∀ l : List Nat, isIn [c] l = l.any (· == c) := by
    intro l
    induction l with
    | nil => rfl
    | cons a r ih =>
      simp only [isIn, isPre, ih, List.any_cons, Bool.and_true]
      congr 1
      rw [Bool.eq_iff_iff, beq_iff_eq, beq_iff_eq]; exact eq_comm
  rw [h, Bool.eq_iff_iff]
  simp only [signB, kSigns, b_law_signs, List.any_cons, List.any_nil, Bool.or_false, Bool.or_eq_true, beq_iff_eq, Bool.and_eq_true, decide_eq_true_eq, Bool.not_eq_true', beq_eq_false_iff_ne]
  omega
end Mk
end
section
set_option linter.all false
set_option maxRecDepth 100000
set_option maxHeartbeats 4000000
namespace Mk
theorem kS_lit : ([115, 112, 97, 99, 101] : List Nat) = kS := rfl
theorem kSC_lit : ([115, 112, 97, 99, 101, 58] : List Nat) = kSC := rfl
theorem kMark_lit : ([109, 97, 114, 107] : List Nat) = kMark := rfl
theorem kText_lit : ([116, 101, 120, 116] : List Nat) = kText := rfl
theorem kRem_lit : ([114, 101, 109, 97, 114, 107] : List Nat) = kRem := rfl
theorem nodup_mapi {α β : Type} {f : α → β} (hf : ∀ a b, f a = f b → a = b) : ∀ {l : List α}, (l.map f).Nodup ↔ l.Nodup
  | [] => by simp
  | a :: l => by
    rw [List.map_cons, List.nodup_cons, List.nodup_cons, nodup_mapi hf]
    have : f a ∈ l.map f ↔ a ∈ l := by
      rw [List.mem_map]
      exact ⟨fun ⟨b, hb, e⟩ => hf b a e ▸ hb, fun h => ⟨a, h, rfl⟩⟩
    rw [this]
theorem word_iff (w : List Nat) : wordB w = true ↔ IsWord w := by
  unfold wordB IsWord
  simp only [Bool.and_eq_true, decide_eq_true_eq, List.all_eq_true, and_assoc]
def unsplit (c : Nat) : List (List Nat) → List Nat
  | [] => []
  | [a] => a
  | a :: b :: r => a ++ c :: unsplit c (b :: r)
theorem split_ne (c : Nat) : ∀ (x acc : List Nat), splitOn c acc x ≠ []
  | [], acc => by simp [splitOn]
  | y :: r, acc => by
    rw [splitOn]
    split
    · simp
    · exact split_ne c r _
theorem unsplit_split (c : Nat) : ∀ (x acc : List Nat), unsplit c (splitOn c acc x) = acc ++ x
  | [], acc => by simp [splitOn, unsplit]
  | y :: r, acc => by
    rw [splitOn]
    split
    · rename_i h
      subst h
      cases hs : splitOn y [] r with
      | nil => exact absurd hs (split_ne _ _ _)
      | cons a l =>
        have := unsplit_split y r []
        rw [hs] at this
        rw [unsplit, this]; simp
    · rw [unsplit_split c r]; simp
theorem name_cases {n : List Nat} (h : nameS n = true) : (IsWord n ∧ splitOn 58 [] n = [n]) ∨ ∃ p w, IsWord p ∧ IsWord w ∧ n = p ++ 58 :: w ∧ splitOn 58 [] n = [p, w] := by
  unfold nameS at h
  rw [Bool.and_eq_true, decide_eq_true_eq] at h
  obtain ⟨h1, h2⟩ := h
  have hu := unsplit_split 58 n []
  cases hs : splitOn 58 [] n with
  | nil => exact absurd hs (split_ne _ _ _)
  | cons a l =>
    rw [hs] at h1 h2 hu
    cases l with
    | nil =>
      simp only [unsplit, List.nil_append] at hu
      subst hu
      simp only [List.all_cons, List.all_nil, Bool.and_true, word_iff] at h2
      exact .inl ⟨h2, rfl⟩
    | cons b l =>
      cases l with
      | nil =>
        simp only [unsplit, List.nil_append] at hu
        simp only [List.all_cons, List.all_nil, Bool.and_true, Bool.and_eq_true, word_iff] at h2
        exact .inr ⟨a, b, h2.1, h2.2, hu.symm, rfl⟩
      | cons c l => simp at h1
theorem name_of {w : List Nat} (h : IsWord w) : nameS w = true ∧ splitOn 58 [] w = [w] := by
  have e : splitOn 58 [] w = [w] := by simpa using split_no w [] (word_no h)
  unfold nameS
  rw [e]
  exact ⟨by simp [(word_iff w).mpr h], rfl⟩
theorem name_of2 {p w : List Nat} (hp : IsWord p) (h : IsWord w) : nameS (p ++ 58 :: w) = true ∧ splitOn 58 [] (p ++ 58 :: w) = [p, w] := by
  have e : splitOn 58 [] (p ++ 58 :: w) = [p, w] := by simpa using split_one w (word_no h) p [] (word_no hp)
  unfold nameS
  rw [e]
  exact ⟨by simp [(word_iff w).mpr h, (word_iff p).mpr hp], rfl⟩
theorem idx_l0 {a : D} {l : List D} : idxD (.lst (a :: l)) (.int 0) = .ok a := by
  rw [show (0 : Int) = ((0 : Nat) : Int) from rfl, idx_lst (by simp)]; rfl
theorem idx_l1 {a b : D} {l : List D} : idxD (.lst (a :: b :: l)) (.int 1) = .ok b := by
  rw [show (1 : Int) = ((1 : Nat) : Int) from rfl, idx_lst (by simp)]; rfl
def splitN (n : List Nat) : List Nat × List Nat := match splitOn 58 [] n with
  | a :: b :: _ => (a, b)
  | _ => ([], n)
theorem r_split_name (m : Nat) (n : List Nat) : run prog (m + 1) .f_split_name [.str n] = .ok (pr (splitN n)) := by
  refine run_sx rfl fun t ht => ?_
  simp only [prog, b_split_name]
  unfold splitN
  cases hs : splitOn 58 [] n with
  | nil => exact absurd hs (split_ne _ _ _)
  | cons a l =>
    cases l with
    | nil => simp only [e_var, e_kst, e_tup, e_lst, e_bin, e_cmp, e_idx, e_call, e_blt, es_nil, es_cons, v_and, v_or, v_not, v_neg, v_chain, v_rev, e_slc, e_isa, e_mth, s_nil, s_set, s_unp, s_ret, s_if, s_for, s_app, s_put, s_expr, s_rai, s_frz, frzR, Slot.frz, seq_nx, seq_rt, seq_no, seq_ex, seq_ite, bind_ite, fin_rt, fin_nx, fin_ex, fin_no, fin_ite, tr_bl, start, part1, ite_and, ite_or, List.getElem?_cons_zero, List.getElem?_cons_succ, List.set_cons_zero, List.set_cons_succ, List.length_cons, List.length_nil, Nat.reduceAdd, Nat.reduceLT, Nat.reduceSub, Nat.zero_add, if_true, if_false, Bool.false_eq_true, List.map_cons, List.map_nil, List.replicate, List.cons_append, List.nil_append, R.ok_bind, Bool.and_true, Bool.true_and, Bool.and_false, Bool.false_and, Bool.or_true, Bool.or_false, Bool.true_or, Bool.false_or, Bool.not_true, Bool.not_false, fresh, isMut, isaD, mthOk, split_str, hs, len_lst, eq_int, pr]; rfl
    | cons b l =>
      have e : ((((l.map D.str).length + 1 + 1 : Nat) : Int) == 1) = false := by
        rw [beq_eq_false_iff_ne]; omega
      simp only [e_var, e_kst, e_tup, e_lst, e_bin, e_cmp, e_idx, e_call, e_blt, es_nil, es_cons, v_and, v_or, v_not, v_neg, v_chain, v_rev, e_slc, e_isa, e_mth, s_nil, s_set, s_unp, s_ret, s_if, s_for, s_app, s_put, s_expr, s_rai, s_frz, frzR, Slot.frz, seq_nx, seq_rt, seq_no, seq_ex, seq_ite, bind_ite, fin_rt, fin_nx, fin_ex, fin_no, fin_ite, tr_bl, start, part1, ite_and, ite_or, List.getElem?_cons_zero, List.getElem?_cons_succ, List.set_cons_zero, List.set_cons_succ, List.length_cons, List.length_nil, Nat.reduceAdd, Nat.reduceLT, Nat.reduceSub, Nat.zero_add, if_true, if_false, Bool.false_eq_true, List.map_cons, List.map_nil, List.replicate, List.cons_append, List.nil_append, R.ok_bind, Bool.and_true, Bool.true_and, Bool.and_false, Bool.false_and, Bool.or_true, Bool.or_false, Bool.true_or, Bool.false_or, Bool.not_true, Bool.not_false, fresh, isMut, isaD, mthOk, split_str, hs, len_lst, eq_int, pr, e, idx_l0, idx_l1]
def laysFor (n : List Nat) : Option (List Nat) := if (splitN n).1 == kS then some (splitN n).2 else if n == kS then some [] else none
def optD : Option (List Nat) → D
  | some x => .str x
  | none => .non
theorem asg2_pr {i j : Nat} {p : List Nat × List Nat} {r : List Slot} (hi : i < r.length) (hj : j < r.length) : asg (.tp [i, j]) (pr p) r = .ok ((r.set i (.val (.str p.1))).set j (.val (.str p.2))) := asg_2 hi hj
theorem r_lays_for (m : Nat) (n : List Nat) : run prog (m + 2) .f_lays_for [.str n] = .ok (optD (laysFor n)) := by
  refine run_sx rfl fun t ht => ?_
  simp only [prog, b_lays_for]
  simp only [e_var, e_kst, e_tup, e_lst, e_bin, e_cmp, e_idx, e_call, e_blt, es_nil, es_cons, v_and, v_or, v_not, v_neg, v_chain, v_rev, e_slc, e_isa, e_mth, s_nil, s_set, s_unp, s_ret, s_if, s_for, s_app, s_put, s_expr, s_rai, s_frz, frzR, Slot.frz, seq_nx, seq_rt, seq_no, seq_ex, seq_ite, bind_ite, fin_rt, fin_nx, fin_ex, fin_no, fin_ite, tr_bl, start, part1, ite_and, ite_or, List.getElem?_cons_zero, List.getElem?_cons_succ, List.set_cons_zero, List.set_cons_succ, List.length_cons, List.length_nil, Nat.reduceAdd, Nat.reduceLT, Nat.reduceSub, Nat.zero_add, if_true, if_false, Bool.false_eq_true, List.map_cons, List.map_nil, List.replicate, List.cons_append, List.nil_append, R.ok_bind, Bool.and_true, Bool.true_and, Bool.and_false, Bool.false_and, Bool.or_true, Bool.or_false, Bool.true_or, Bool.false_or, Bool.not_true, Bool.not_false, fresh, isMut, isaD, mthOk, ht, r_split_name]
  rw [asg2_pr (by simp) (by simp)]
  simp only [e_var, e_kst, e_tup, e_lst, e_bin, e_cmp, e_idx, e_call, e_blt, es_nil, es_cons, v_and, v_or, v_not, v_neg, v_chain, v_rev, e_slc, e_isa, e_mth, s_nil, s_set, s_unp, s_ret, s_if, s_for, s_app, s_put, s_expr, s_rai, s_frz, frzR, Slot.frz, seq_nx, seq_rt, seq_no, seq_ex, seq_ite, bind_ite, fin_rt, fin_nx, fin_ex, fin_no, fin_ite, tr_bl, start, part1, ite_and, ite_or, List.getElem?_cons_zero, List.getElem?_cons_succ, List.set_cons_zero, List.set_cons_succ, List.length_cons, List.length_nil, Nat.reduceAdd, Nat.reduceLT, Nat.reduceSub, Nat.zero_add, if_true, if_false, Bool.false_eq_true, List.map_cons, List.map_nil, List.replicate, List.cons_append, List.nil_append, R.ok_bind, Bool.and_true, Bool.true_and, Bool.and_false, Bool.false_and, Bool.or_true, Bool.or_false, Bool.true_or, Bool.false_or, Bool.not_true, Bool.not_false, fresh, isMut, isaD, mthOk, eq_str]
  unfold laysFor kS
  split
  · rfl
  · split <;> rfl
/-- of a name, by its first signs -/
theorem lays_name {n : List Nat} (h : nameS n = true) : laysFor n = if n = kS then some [] else if n.take 6 = kSC then some (n.drop 6) else none := by
  rcases name_cases h with ⟨hw, hs⟩ | ⟨p, w, hp, hw, rfl, hs⟩
  · unfold laysFor splitN
    rw [hs]
    have h6 : ¬ n.take 6 = kSC := low_ne hw
    rw [if_neg h6]
    by_cases hk : n = kS
    · subst hk; decide
    · have h2 : (n == kS) = false := by simpa using hk
      simp only [h2, show (([] : List Nat) == kS) = false from rfl, if_neg hk]
      rfl
  · unfold laysFor splitN
    rw [hs]
    have hk : ¬ p ++ 58 :: w = kS := fun e => by
      have : (58 : Nat) ∈ kS := by rw [← e]; simp
      simp [kS] at this
    rw [if_neg hk]
    by_cases hp' : p = kS
    · subst hp'
      simp [kS, kSC]
    · have h6 : ¬ (p ++ 58 :: w).take 6 = kSC := fun e => by
        have h5 : ∀ (q z : List Nat), (∀ c ∈ q, isLow c = true) → (q ++ 58 :: w).take (z.length + 1) = z ++ [58] → (∀ c ∈ z, isLow c = true) → q = z := by
          intro q
          induction q with
          | nil =>
            intro z _ e hz
            cases z with
            | nil => rfl
            | cons y z =>
              simp at e
              have := hz y List.mem_cons_self
              rw [← e.1] at this; simp [isLow] at this
          | cons a q ih =>
            intro z hq e hz
            cases z with
            | nil =>
              simp at e
              have := hq a List.mem_cons_self
              rw [e] at this; simp [isLow] at this
            | cons y z =>
              simp only [List.cons_append, List.length_cons, List.take_succ_cons, List.cons.injEq] at e
              rw [e.1, ih z (fun c hc => hq c (List.mem_cons_of_mem _ hc)) e.2 (fun c hc => hz c (List.mem_cons_of_mem _ hc))]
        exact hp' (h5 p kS hp.2.2 e (by decide))
      simp [hp', h6, hk]
def laidQ (sc : Sc) : Sc → Option Sc
  | [] => some sc
  | p :: r => match laysFor p.1 with
    | none => laidQ sc r
    | some q => if (q == kS || (!(q == []) && p.2 == [])) = true then none else laidQ (putS q p.2 sc) r
def optS : Option Sc → D
  | some s => scD s
  | none => .non
abbrev bLd : List (S Fn) := [.set 5 (.call .f_lays_for [(.var 3)]),
      .ife (.cmp .isnot (.var 5) (.kst .non)) [.ife (.or (.cmp .eq (.var 5) (.kst (.str [115, 112, 97, 99, 101]))) (.and (.cmp .ne (.var 5) (.kst (.str []))) (.cmp .eq (.var 4) (.kst (.str []))))) [.ret (.kst .non)] [],
        .put 2 (.var 5) (.var 4)] []]
theorem isnot_non (d : D) : cmpD .isnot d .non = .ok (.bl (!isNon d)) := by cases d <;> rfl
theorem is_non (d : D) : cmpD .is d .non = .ok (.bl (isNon d)) := by cases d <;> rfl
theorem laid_loop {t : Tb Fn} {m : Nat} (ht : t.c = run prog (m + 2)) (A B : D) : ∀ (vs a : Sc) (x3 x4 x5 : Slot), a.length + vs.length < LIM →
    match laidQ a vs with
    | some a' => ∃ y3 y4 y5, forL (fb t (.tp [3, 4]) bLd) (vs.map pr) [.val A, .val B, .own (scD a), x3, x4, x5] = .ok (.nx [.val A, .val B, .own (scD a'), y3, y4, y5])
    | none => forL (fb t (.tp [3, 4]) bLd) (vs.map pr) [.val A, .val B, .own (scD a), x3, x4, x5] = .ok (.rt .non)
  | [], a, x3, x4, x5, _ => ⟨x3, x4, x5, rfl⟩
  | p :: vs, a, x3, x4, x5, hl => by
    rw [List.length_cons] at hl
    rw [List.map_cons, forL, fb, asg2_pr (by simp) (by simp), laidQ]
    simp only [bLd, e_var, e_kst, e_tup, e_lst, e_bin, e_cmp, e_idx, e_call, e_blt, es_nil, es_cons, v_and, v_or, v_not, v_neg, v_chain, v_rev, e_slc, e_isa, e_mth, s_nil, s_set, s_unp, s_ret, s_if, s_for, s_app, s_put, s_expr, s_rai, s_frz, frzR, Slot.frz, seq_nx, seq_rt, seq_no, seq_ex, seq_ite, bind_ite, fin_rt, fin_nx, fin_ex, fin_no, fin_ite, tr_bl, start, part1, ite_and, ite_or, List.getElem?_cons_zero, List.getElem?_cons_succ, List.set_cons_zero, List.set_cons_succ, List.length_cons, List.length_nil, Nat.reduceAdd, Nat.reduceLT, Nat.reduceSub, Nat.zero_add, if_true, if_false, Bool.false_eq_true, List.map_cons, List.map_nil, List.replicate, List.cons_append, List.nil_append, R.ok_bind, Bool.and_true, Bool.true_and, Bool.and_false, Bool.false_and, Bool.or_true, Bool.or_false, Bool.true_or, Bool.false_or, Bool.not_true, Bool.not_false, fresh, isMut, isaD, mthOk, ht, r_lays_for, isnot_non]
    cases hq : laysFor p.1 with
    | none =>
      simp only [optD, isNon, Bool.not_true, Bool.false_eq_true, if_false]
      exact laid_loop ht A B vs a _ _ _ (by omega)
    | some q =>
      simp only [optD, isNon, Bool.not_false, if_true, eq_str, ne_str, e_var, e_kst, e_tup, e_lst, e_bin, e_cmp, e_idx, e_call, e_blt, es_nil, es_cons, v_and, v_or, v_not, v_neg, v_chain, v_rev, e_slc, e_isa, e_mth, s_nil, s_set, s_unp, s_ret, s_if, s_for, s_app, s_put, s_expr, s_rai, s_frz, frzR, Slot.frz, seq_nx, seq_rt, seq_no, seq_ex, seq_ite, bind_ite, fin_rt, fin_nx, fin_ex, fin_no, fin_ite, tr_bl, start, part1, ite_and, ite_or, List.getElem?_cons_zero, List.getElem?_cons_succ, List.set_cons_zero, List.set_cons_succ, List.length_cons, List.length_nil, Nat.reduceAdd, Nat.reduceLT, Nat.reduceSub, Nat.zero_add, if_true, if_false, Bool.false_eq_true, List.map_cons, List.map_nil, List.replicate, List.cons_append, List.nil_append, R.ok_bind, Bool.and_true, Bool.true_and, Bool.and_false, Bool.false_and, Bool.or_true, Bool.or_false, Bool.true_or, Bool.false_or, Bool.not_true, Bool.not_false, fresh, isMut, isaD, mthOk, kS_lit]
      cases hb : (q == kS || (!(q == []) && p.2 == [])) with
      | true => simp only [if_true]
      | false =>
        simp only [Bool.false_eq_true, if_false]
        rw [put_sc (by omega)]
        simp only [e_var, e_kst, e_tup, e_lst, e_bin, e_cmp, e_idx, e_call, e_blt, es_nil, es_cons, v_and, v_or, v_not, v_neg, v_chain, v_rev, e_slc, e_isa, e_mth, s_nil, s_set, s_unp, s_ret, s_if, s_for, s_app, s_put, s_expr, s_rai, s_frz, frzR, Slot.frz, seq_nx, seq_rt, seq_no, seq_ex, seq_ite, bind_ite, fin_rt, fin_nx, fin_ex, fin_no, fin_ite, tr_bl, start, part1, ite_and, ite_or, List.getElem?_cons_zero, List.getElem?_cons_succ, List.set_cons_zero, List.set_cons_succ, List.length_cons, List.length_nil, Nat.reduceAdd, Nat.reduceLT, Nat.reduceSub, Nat.zero_add, if_true, if_false, Bool.false_eq_true, List.map_cons, List.map_nil, List.replicate, List.cons_append, List.nil_append, R.ok_bind, Bool.and_true, Bool.true_and, Bool.and_false, Bool.false_and, Bool.or_true, Bool.or_false, Bool.true_or, Bool.false_or, Bool.not_true, Bool.not_false, fresh, isMut, isaD, mthOk]
        have := put_len q p.2 a
        exact laid_loop ht A B vs (putS q p.2 a) _ _ _ (by omega)
theorem r_laidQ (m : Nat) (sc vs : Sc) (hl : sc.length + vs.length < LIM) : run prog (m + 3) .f_laid [scD sc, .tup (vs.map pr)] = .ok (optS (laidQ sc vs)) := by
  refine run_sx rfl fun t ht => ?_
  simp only [prog, b_laid]
  have hd : bltD .dict [scD sc] = .ok (scD sc) := rfl
  have hm : isMut (scD sc) = true := rfl
  have k := laid_loop ht (scD sc) (.tup (vs.map pr)) vs sc .un .un .un hl
  unfold bLd at k
  simp only [e_var, e_kst, e_tup, e_lst, e_bin, e_cmp, e_idx, e_call, e_blt, es_nil, es_cons, v_and, v_or, v_not, v_neg, v_chain, v_rev, e_slc, e_isa, e_mth, s_nil, s_set, s_unp, s_ret, s_if, s_for, s_app, s_put, s_expr, s_rai, s_frz, frzR, Slot.frz, seq_nx, seq_rt, seq_no, seq_ex, seq_ite, bind_ite, fin_rt, fin_nx, fin_ex, fin_no, fin_ite, tr_bl, start, part1, ite_and, ite_or, List.getElem?_cons_zero, List.getElem?_cons_succ, List.set_cons_zero, List.set_cons_succ, List.length_cons, List.length_nil, Nat.reduceAdd, Nat.reduceLT, Nat.reduceSub, Nat.zero_add, if_true, if_false, Bool.false_eq_true, List.map_cons, List.map_nil, List.replicate, List.cons_append, List.nil_append, R.ok_bind, Bool.and_true, Bool.true_and, Bool.and_false, Bool.false_and, Bool.or_true, Bool.or_false, Bool.true_or, Bool.false_or, Bool.not_true, Bool.not_false, fresh, isMut, isaD, mthOk, hd, src_it_tup]
  simp only [scD] at k ⊢
  simp only [e_var, e_kst, e_tup, e_lst, e_bin, e_cmp, e_idx, e_call, e_blt, es_nil, es_cons, v_and, v_or, v_not, v_neg, v_chain, v_rev, e_slc, e_isa, e_mth, s_nil, s_set, s_unp, s_ret, s_if, s_for, s_app, s_put, s_expr, s_rai, s_frz, frzR, Slot.frz, seq_nx, seq_rt, seq_no, seq_ex, seq_ite, bind_ite, fin_rt, fin_nx, fin_ex, fin_no, fin_ite, tr_bl, start, part1, ite_and, ite_or, List.getElem?_cons_zero, List.getElem?_cons_succ, List.set_cons_zero, List.set_cons_succ, List.length_cons, List.length_nil, Nat.reduceAdd, Nat.reduceLT, Nat.reduceSub, Nat.zero_add, if_true, if_false, Bool.false_eq_true, List.map_cons, List.map_nil, List.replicate, List.cons_append, List.nil_append, R.ok_bind, Bool.and_true, Bool.true_and, Bool.and_false, Bool.false_and, Bool.or_true, Bool.or_false, Bool.true_or, Bool.false_or, Bool.not_true, Bool.not_false, fresh, isMut, isaD, mthOk, src_it_tup]
  cases hq : laidQ sc vs with
  | some a' =>
    rw [hq] at k
    obtain ⟨y3, y4, y5, k⟩ := k
    rw [k]
    simp only [e_var, e_kst, e_tup, e_lst, e_bin, e_cmp, e_idx, e_call, e_blt, es_nil, es_cons, v_and, v_or, v_not, v_neg, v_chain, v_rev, e_slc, e_isa, e_mth, s_nil, s_set, s_unp, s_ret, s_if, s_for, s_app, s_put, s_expr, s_rai, s_frz, frzR, Slot.frz, seq_nx, seq_rt, seq_no, seq_ex, seq_ite, bind_ite, fin_rt, fin_nx, fin_ex, fin_no, fin_ite, tr_bl, start, part1, ite_and, ite_or, List.getElem?_cons_zero, List.getElem?_cons_succ, List.set_cons_zero, List.set_cons_succ, List.length_cons, List.length_nil, Nat.reduceAdd, Nat.reduceLT, Nat.reduceSub, Nat.zero_add, if_true, if_false, Bool.false_eq_true, List.map_cons, List.map_nil, List.replicate, List.cons_append, List.nil_append, R.ok_bind, Bool.and_true, Bool.true_and, Bool.and_false, Bool.false_and, Bool.or_true, Bool.or_false, Bool.true_or, Bool.false_or, Bool.not_true, Bool.not_false, fresh, isMut, isaD, mthOk, optS, scD]
  | none =>
    rw [hq] at k
    simp only at k
    rw [k]
    simp only [e_var, e_kst, e_tup, e_lst, e_bin, e_cmp, e_idx, e_call, e_blt, es_nil, es_cons, v_and, v_or, v_not, v_neg, v_chain, v_rev, e_slc, e_isa, e_mth, s_nil, s_set, s_unp, s_ret, s_if, s_for, s_app, s_put, s_expr, s_rai, s_frz, frzR, Slot.frz, seq_nx, seq_rt, seq_no, seq_ex, seq_ite, bind_ite, fin_rt, fin_nx, fin_ex, fin_no, fin_ite, tr_bl, start, part1, ite_and, ite_or, List.getElem?_cons_zero, List.getElem?_cons_succ, List.set_cons_zero, List.set_cons_succ, List.length_cons, List.length_nil, Nat.reduceAdd, Nat.reduceLT, Nat.reduceSub, Nat.zero_add, if_true, if_false, Bool.false_eq_true, List.map_cons, List.map_nil, List.replicate, List.cons_append, List.nil_append, R.ok_bind, Bool.and_true, Bool.true_and, Bool.and_false, Bool.false_and, Bool.or_true, Bool.or_false, Bool.true_or, Bool.false_or, Bool.not_true, Bool.not_false, fresh, isMut, isaD, mthOk, optS]
def meantV (sc : Sc) (n : List Nat) : Option (List Nat × List Nat) := if (splitN n).1 == [] then some ([], (splitN n).2) else (lookS (splitN n).1 sc).map fun s => (s, (splitN n).2)
def meantM (sc : Sc) (n : List Nat) : Option (List Nat × List Nat) := if (splitN n).1 == [] then some ((lookS [] sc).getD [], (splitN n).2) else if (splitN n).1 == kS then none else (lookS (splitN n).1 sc).map fun s => (s, (splitN n).2)
def optP : Option (List Nat × List Nat) → D
  | some p => pr p
  | none => .non
theorem notin_sc (k : List Nat) (sc : Sc) : cmpD .notin (.str k) (scD sc) = .ok (.bl (!(lookS k sc).isSome)) := by
  unfold scD; simp only [cmpD, look_sc]; cases lookS k sc <;> rfl
theorem isin_sc (k : List Nat) (sc : Sc) : cmpD .isin (.str k) (scD sc) = .ok (.bl (lookS k sc).isSome) := by
  unfold scD; simp only [cmpD, look_sc]; cases lookS k sc <;> rfl
theorem idx_sc {k v : List Nat} {sc : Sc} (h : lookS k sc = some v) : idxD (scD sc) (.str k) = .ok (.str v) := by
  unfold scD; simp only [idxD, look_sc, h]; rfl
theorem get_sc (k d : List Nat) (sc : Sc) : mthD .get (scD sc) [.str k, .str d] = .ok (.str ((lookS k sc).getD d)) := by
  unfold scD; simp only [mthD, look_sc]; cases lookS k sc <;> rfl
theorem ok_get (sc : Sc) : mthOk .get (scD sc) = true := rfl
theorem r_meant_value (m : Nat) (sc : Sc) (n : List Nat) : run prog (m + 2) .f_meant_value [scD sc, .str n] = .ok (optP (meantV sc n)) := by
  refine run_sx rfl fun t ht => ?_
  simp only [prog, b_meant_value]
  simp only [e_var, e_kst, e_tup, e_lst, e_bin, e_cmp, e_idx, e_call, e_blt, es_nil, es_cons, v_and, v_or, v_not, v_neg, v_chain, v_rev, e_slc, e_isa, e_mth, s_nil, s_set, s_unp, s_ret, s_if, s_for, s_app, s_put, s_expr, s_rai, s_frz, frzR, Slot.frz, seq_nx, seq_rt, seq_no, seq_ex, seq_ite, bind_ite, fin_rt, fin_nx, fin_ex, fin_no, fin_ite, tr_bl, start, part1, ite_and, ite_or, List.getElem?_cons_zero, List.getElem?_cons_succ, List.set_cons_zero, List.set_cons_succ, List.length_cons, List.length_nil, Nat.reduceAdd, Nat.reduceLT, Nat.reduceSub, Nat.zero_add, if_true, if_false, Bool.false_eq_true, List.map_cons, List.map_nil, List.replicate, List.cons_append, List.nil_append, R.ok_bind, Bool.and_true, Bool.true_and, Bool.and_false, Bool.false_and, Bool.or_true, Bool.or_false, Bool.true_or, Bool.false_or, Bool.not_true, Bool.not_false, fresh, isMut, isaD, mthOk, ht, r_split_name]
  rw [asg2_pr (by simp) (by simp)]
  simp only [e_var, e_kst, e_tup, e_lst, e_bin, e_cmp, e_idx, e_call, e_blt, es_nil, es_cons, v_and, v_or, v_not, v_neg, v_chain, v_rev, e_slc, e_isa, e_mth, s_nil, s_set, s_unp, s_ret, s_if, s_for, s_app, s_put, s_expr, s_rai, s_frz, frzR, Slot.frz, seq_nx, seq_rt, seq_no, seq_ex, seq_ite, bind_ite, fin_rt, fin_nx, fin_ex, fin_no, fin_ite, tr_bl, start, part1, ite_and, ite_or, List.getElem?_cons_zero, List.getElem?_cons_succ, List.set_cons_zero, List.set_cons_succ, List.length_cons, List.length_nil, Nat.reduceAdd, Nat.reduceLT, Nat.reduceSub, Nat.zero_add, if_true, if_false, Bool.false_eq_true, List.map_cons, List.map_nil, List.replicate, List.cons_append, List.nil_append, R.ok_bind, Bool.and_true, Bool.true_and, Bool.and_false, Bool.false_and, Bool.or_true, Bool.or_false, Bool.true_or, Bool.false_or, Bool.not_true, Bool.not_false, fresh, isMut, isaD, mthOk, eq_str, notin_sc]
  unfold meantV
  cases h0 : (splitN n).1 == [] with
  | true => simp only [if_true]; rfl
  | false =>
    cases hl : lookS (splitN n).1 sc with
    | none => simp only [e_var, e_kst, e_tup, e_lst, e_bin, e_cmp, e_idx, e_call, e_blt, es_nil, es_cons, v_and, v_or, v_not, v_neg, v_chain, v_rev, e_slc, e_isa, e_mth, s_nil, s_set, s_unp, s_ret, s_if, s_for, s_app, s_put, s_expr, s_rai, s_frz, frzR, Slot.frz, seq_nx, seq_rt, seq_no, seq_ex, seq_ite, bind_ite, fin_rt, fin_nx, fin_ex, fin_no, fin_ite, tr_bl, start, part1, ite_and, ite_or, List.getElem?_cons_zero, List.getElem?_cons_succ, List.set_cons_zero, List.set_cons_succ, List.length_cons, List.length_nil, Nat.reduceAdd, Nat.reduceLT, Nat.reduceSub, Nat.zero_add, if_true, if_false, Bool.false_eq_true, List.map_cons, List.map_nil, List.replicate, List.cons_append, List.nil_append, R.ok_bind, Bool.and_true, Bool.true_and, Bool.and_false, Bool.false_and, Bool.or_true, Bool.or_false, Bool.true_or, Bool.false_or, Bool.not_true, Bool.not_false, fresh, isMut, isaD, mthOk, Option.isSome_none, Bool.not_false, Option.map_none, optP]
    | some s => simp only [e_var, e_kst, e_tup, e_lst, e_bin, e_cmp, e_idx, e_call, e_blt, es_nil, es_cons, v_and, v_or, v_not, v_neg, v_chain, v_rev, e_slc, e_isa, e_mth, s_nil, s_set, s_unp, s_ret, s_if, s_for, s_app, s_put, s_expr, s_rai, s_frz, frzR, Slot.frz, seq_nx, seq_rt, seq_no, seq_ex, seq_ite, bind_ite, fin_rt, fin_nx, fin_ex, fin_no, fin_ite, tr_bl, start, part1, ite_and, ite_or, List.getElem?_cons_zero, List.getElem?_cons_succ, List.set_cons_zero, List.set_cons_succ, List.length_cons, List.length_nil, Nat.reduceAdd, Nat.reduceLT, Nat.reduceSub, Nat.zero_add, if_true, if_false, Bool.false_eq_true, List.map_cons, List.map_nil, List.replicate, List.cons_append, List.nil_append, R.ok_bind, Bool.and_true, Bool.true_and, Bool.and_false, Bool.false_and, Bool.or_true, Bool.or_false, Bool.true_or, Bool.false_or, Bool.not_true, Bool.not_false, fresh, isMut, isaD, mthOk, Option.isSome_some, Bool.not_true, Option.map_some, optP, idx_sc hl, pr]
theorem r_meant_mark (m : Nat) (sc : Sc) (n : List Nat) : run prog (m + 2) .f_meant_mark [scD sc, .str n] = .ok (optP (meantM sc n)) := by
  refine run_sx rfl fun t ht => ?_
  simp only [prog, b_meant_mark]
  simp only [e_var, e_kst, e_tup, e_lst, e_bin, e_cmp, e_idx, e_call, e_blt, es_nil, es_cons, v_and, v_or, v_not, v_neg, v_chain, v_rev, e_slc, e_isa, e_mth, s_nil, s_set, s_unp, s_ret, s_if, s_for, s_app, s_put, s_expr, s_rai, s_frz, frzR, Slot.frz, seq_nx, seq_rt, seq_no, seq_ex, seq_ite, bind_ite, fin_rt, fin_nx, fin_ex, fin_no, fin_ite, tr_bl, start, part1, ite_and, ite_or, List.getElem?_cons_zero, List.getElem?_cons_succ, List.set_cons_zero, List.set_cons_succ, List.length_cons, List.length_nil, Nat.reduceAdd, Nat.reduceLT, Nat.reduceSub, Nat.zero_add, if_true, if_false, Bool.false_eq_true, List.map_cons, List.map_nil, List.replicate, List.cons_append, List.nil_append, R.ok_bind, Bool.and_true, Bool.true_and, Bool.and_false, Bool.false_and, Bool.or_true, Bool.or_false, Bool.true_or, Bool.false_or, Bool.not_true, Bool.not_false, fresh, isMut, isaD, mthOk, ht, r_split_name]
  rw [asg2_pr (by simp) (by simp)]
  simp only [e_var, e_kst, e_tup, e_lst, e_bin, e_cmp, e_idx, e_call, e_blt, es_nil, es_cons, v_and, v_or, v_not, v_neg, v_chain, v_rev, e_slc, e_isa, e_mth, s_nil, s_set, s_unp, s_ret, s_if, s_for, s_app, s_put, s_expr, s_rai, s_frz, frzR, Slot.frz, seq_nx, seq_rt, seq_no, seq_ex, seq_ite, bind_ite, fin_rt, fin_nx, fin_ex, fin_no, fin_ite, tr_bl, start, part1, ite_and, ite_or, List.getElem?_cons_zero, List.getElem?_cons_succ, List.set_cons_zero, List.set_cons_succ, List.length_cons, List.length_nil, Nat.reduceAdd, Nat.reduceLT, Nat.reduceSub, Nat.zero_add, if_true, if_false, Bool.false_eq_true, List.map_cons, List.map_nil, List.replicate, List.cons_append, List.nil_append, R.ok_bind, Bool.and_true, Bool.true_and, Bool.and_false, Bool.false_and, Bool.or_true, Bool.or_false, Bool.true_or, Bool.false_or, Bool.not_true, Bool.not_false, fresh, isMut, isaD, mthOk, eq_str, notin_sc, ok_get, get_sc]
  unfold meantM
  cases h0 : (splitN n).1 == [] with
  | true => simp only [if_true, ok_get, e_var, e_kst, e_tup, e_lst, e_bin, e_cmp, e_idx, e_call, e_blt, es_nil, es_cons, v_and, v_or, v_not, v_neg, v_chain, v_rev, e_slc, e_isa, e_mth, s_nil, s_set, s_unp, s_ret, s_if, s_for, s_app, s_put, s_expr, s_rai, s_frz, frzR, Slot.frz, seq_nx, seq_rt, seq_no, seq_ex, seq_ite, bind_ite, fin_rt, fin_nx, fin_ex, fin_no, fin_ite, tr_bl, start, part1, ite_and, ite_or, List.getElem?_cons_zero, List.getElem?_cons_succ, List.set_cons_zero, List.set_cons_succ, List.length_cons, List.length_nil, Nat.reduceAdd, Nat.reduceLT, Nat.reduceSub, Nat.zero_add, if_true, if_false, Bool.false_eq_true, List.map_cons, List.map_nil, List.replicate, List.cons_append, List.nil_append, R.ok_bind, Bool.and_true, Bool.true_and, Bool.and_false, Bool.false_and, Bool.or_true, Bool.or_false, Bool.true_or, Bool.false_or, Bool.not_true, Bool.not_false, fresh, isMut, isaD, mthOk, get_sc]; rfl
  | false =>
    unfold kS
    cases h1 : (splitN n).1 == [115, 112, 97, 99, 101] with
    | true => simp only [e_var, e_kst, e_tup, e_lst, e_bin, e_cmp, e_idx, e_call, e_blt, es_nil, es_cons, v_and, v_or, v_not, v_neg, v_chain, v_rev, e_slc, e_isa, e_mth, s_nil, s_set, s_unp, s_ret, s_if, s_for, s_app, s_put, s_expr, s_rai, s_frz, frzR, Slot.frz, seq_nx, seq_rt, seq_no, seq_ex, seq_ite, bind_ite, fin_rt, fin_nx, fin_ex, fin_no, fin_ite, tr_bl, start, part1, ite_and, ite_or, List.getElem?_cons_zero, List.getElem?_cons_succ, List.set_cons_zero, List.set_cons_succ, List.length_cons, List.length_nil, Nat.reduceAdd, Nat.reduceLT, Nat.reduceSub, Nat.zero_add, if_true, if_false, Bool.false_eq_true, List.map_cons, List.map_nil, List.replicate, List.cons_append, List.nil_append, R.ok_bind, Bool.and_true, Bool.true_and, Bool.and_false, Bool.false_and, Bool.or_true, Bool.or_false, Bool.true_or, Bool.false_or, Bool.not_true, Bool.not_false, fresh, isMut, isaD, mthOk, Bool.true_or]; rfl
    | false =>
      cases hl : lookS (splitN n).1 sc with
      | none => simp only [e_var, e_kst, e_tup, e_lst, e_bin, e_cmp, e_idx, e_call, e_blt, es_nil, es_cons, v_and, v_or, v_not, v_neg, v_chain, v_rev, e_slc, e_isa, e_mth, s_nil, s_set, s_unp, s_ret, s_if, s_for, s_app, s_put, s_expr, s_rai, s_frz, frzR, Slot.frz, seq_nx, seq_rt, seq_no, seq_ex, seq_ite, bind_ite, fin_rt, fin_nx, fin_ex, fin_no, fin_ite, tr_bl, start, part1, ite_and, ite_or, List.getElem?_cons_zero, List.getElem?_cons_succ, List.set_cons_zero, List.set_cons_succ, List.length_cons, List.length_nil, Nat.reduceAdd, Nat.reduceLT, Nat.reduceSub, Nat.zero_add, if_true, if_false, Bool.false_eq_true, List.map_cons, List.map_nil, List.replicate, List.cons_append, List.nil_append, R.ok_bind, Bool.and_true, Bool.true_and, Bool.and_false, Bool.false_and, Bool.or_true, Bool.or_false, Bool.true_or, Bool.false_or, Bool.not_true, Bool.not_false, fresh, isMut, isaD, mthOk, Option.isSome_none, Bool.not_false, Option.map_none, optP, Bool.false_or]
      | some s => simp only [e_var, e_kst, e_tup, e_lst, e_bin, e_cmp, e_idx, e_call, e_blt, es_nil, es_cons, v_and, v_or, v_not, v_neg, v_chain, v_rev, e_slc, e_isa, e_mth, s_nil, s_set, s_unp, s_ret, s_if, s_for, s_app, s_put, s_expr, s_rai, s_frz, frzR, Slot.frz, seq_nx, seq_rt, seq_no, seq_ex, seq_ite, bind_ite, fin_rt, fin_nx, fin_ex, fin_no, fin_ite, tr_bl, start, part1, ite_and, ite_or, List.getElem?_cons_zero, List.getElem?_cons_succ, List.set_cons_zero, List.set_cons_succ, List.length_cons, List.length_nil, Nat.reduceAdd, Nat.reduceLT, Nat.reduceSub, Nat.zero_add, if_true, if_false, Bool.false_eq_true, List.map_cons, List.map_nil, List.replicate, List.cons_append, List.nil_append, R.ok_bind, Bool.and_true, Bool.true_and, Bool.and_false, Bool.false_and, Bool.or_true, Bool.or_false, Bool.true_or, Bool.false_or, Bool.not_true, Bool.not_false, fresh, isMut, isaD, mthOk, Option.isSome_some, Bool.not_true, Option.map_some, optP, idx_sc hl, pr, Bool.false_or]
def plainV (vs : Sc) : Sc := vs.filter fun p => (laysFor p.1).isNone
theorem isNon_optD (o : Option (List Nat)) : isNon (optD o) = o.isNone := by cases o <;> rfl
theorem isNon_optS (o : Option Sc) : isNon (optS o) = o.isNone := by cases o <;> rfl
theorem isNon_optP (o : Option (List Nat × List Nat)) : isNon (optP o) = o.isNone := by cases o <;> rfl
theorem idx_pr0 (p : List Nat × List Nat) : idxD (pr p) (.int 0) = .ok (.str p.1) := idx_t0
theorem idx_pr1 (p : List Nat × List Nat) : idxD (pr p) (.int 1) = .ok (.str p.2) := idx_t1
theorem r_plain_values (m : Nat) (vs : Sc) (d : D) (hd : itemsD d = some (vs.map pr)) : run prog (m + 3) .f_plain_values [d] = .ok (.lst ((plainV vs).map pr)) := by
  refine run_sx rfl fun t ht => ?_
  simp only [prog, b_plain_values]
  have e : lcL (lcB t (.nm 1) [Slot.val d, .un] [(.cmp .is (.call .f_lays_for [(.idx (.var 1) (.kst (.int 0)))]) (.kst .non))] (.var 1)) (vs.map pr) = .ok ((plainV vs).map pr) := by
    refine lcL_imF _ fun p _ => lcB_1 (asg_nm (by simp)) ?_ fun _ => ?_
    · simp only [e_var, e_kst, e_tup, e_lst, e_bin, e_cmp, e_idx, e_call, e_blt, es_nil, es_cons, v_and, v_or, v_not, v_neg, v_chain, v_rev, e_slc, e_isa, e_mth, s_nil, s_set, s_unp, s_ret, s_if, s_for, s_app, s_put, s_expr, s_rai, s_frz, frzR, Slot.frz, seq_nx, seq_rt, seq_no, seq_ex, seq_ite, bind_ite, fin_rt, fin_nx, fin_ex, fin_no, fin_ite, tr_bl, start, part1, ite_and, ite_or, List.getElem?_cons_zero, List.getElem?_cons_succ, List.set_cons_zero, List.set_cons_succ, List.length_cons, List.length_nil, Nat.reduceAdd, Nat.reduceLT, Nat.reduceSub, Nat.zero_add, if_true, if_false, Bool.false_eq_true, List.map_cons, List.map_nil, List.replicate, List.cons_append, List.nil_append, R.ok_bind, Bool.and_true, Bool.true_and, Bool.and_false, Bool.false_and, Bool.or_true, Bool.or_false, Bool.true_or, Bool.false_or, Bool.not_true, Bool.not_false, fresh, isMut, isaD, mthOk, idx_pr0, ht, r_lays_for, is_non, isNon_optD]
    · simp only [e_var, e_kst, e_tup, e_lst, e_bin, e_cmp, e_idx, e_call, e_blt, es_nil, es_cons, v_and, v_or, v_not, v_neg, v_chain, v_rev, e_slc, e_isa, e_mth, s_nil, s_set, s_unp, s_ret, s_if, s_for, s_app, s_put, s_expr, s_rai, s_frz, frzR, Slot.frz, seq_nx, seq_rt, seq_no, seq_ex, seq_ite, bind_ite, fin_rt, fin_nx, fin_ex, fin_no, fin_ite, tr_bl, start, part1, ite_and, ite_or, List.getElem?_cons_zero, List.getElem?_cons_succ, List.set_cons_zero, List.set_cons_succ, List.length_cons, List.length_nil, Nat.reduceAdd, Nat.reduceLT, Nat.reduceSub, Nat.zero_add, if_true, if_false, Bool.false_eq_true, List.map_cons, List.map_nil, List.replicate, List.cons_append, List.nil_append, R.ok_bind, Bool.and_true, Bool.true_and, Bool.and_false, Bool.false_and, Bool.or_true, Bool.or_false, Bool.true_or, Bool.false_or, Bool.not_true, Bool.not_false, fresh, isMut, isaD, mthOk]
  simp only [e_var, e_kst, e_tup, e_lst, e_bin, e_cmp, e_idx, e_call, e_blt, es_nil, es_cons, v_and, v_or, v_not, v_neg, v_chain, v_rev, e_slc, e_isa, e_mth, s_nil, s_set, s_unp, s_ret, s_if, s_for, s_app, s_put, s_expr, s_rai, s_frz, frzR, Slot.frz, seq_nx, seq_rt, seq_no, seq_ex, seq_ite, bind_ite, fin_rt, fin_nx, fin_ex, fin_no, fin_ite, tr_bl, start, part1, ite_and, ite_or, List.getElem?_cons_zero, List.getElem?_cons_succ, List.set_cons_zero, List.set_cons_succ, List.length_cons, List.length_nil, Nat.reduceAdd, Nat.reduceLT, Nat.reduceSub, Nat.zero_add, if_true, if_false, Bool.false_eq_true, List.map_cons, List.map_nil, List.replicate, List.cons_append, List.nil_append, R.ok_bind, Bool.and_true, Bool.true_and, Bool.and_false, Bool.false_and, Bool.or_true, Bool.or_false, Bool.true_or, Bool.false_or, Bool.not_true, Bool.not_false, fresh, isMut, isaD, mthOk, e_lc, srcD, hd, opt, id, e]
section
variable {α : Type} [DecidableEq α]
theorem mem_dedup (x : α) : ∀ l : List α, x ∈ dedup l ↔ x ∈ l
  | [] => by simp [dedup]
  | y :: l => by
    rw [dedup, List.mem_cons, List.mem_filter, mem_dedup x l, List.mem_cons]
    by_cases h : x = y
    · simp [h]
    · simp [h]
theorem dedup_le : ∀ l : List α, (dedup l).length ≤ l.length
  | [] => by simp [dedup]
  | y :: l => by
    have := dedup_le l
    have h2 := List.length_filter_le (fun z => decide (z ≠ y)) (dedup l)
    rw [dedup, List.length_cons, List.length_cons]; omega
theorem dedup_len : ∀ l : List α, (dedup l).length = l.length ↔ l.Nodup
  | [] => by simp [dedup]
  | y :: l => by
    have h1 := dedup_le l
    have h2 := List.length_filter_le (fun z => decide (z ≠ y)) (dedup l)
    have ih := dedup_len l
    rw [dedup, List.length_cons, List.length_cons, List.nodup_cons]
    constructor
    · intro h
      have e1 : ((dedup l).filter fun z => decide (z ≠ y)).length = (dedup l).length := by omega
      have e2 : (dedup l).length = l.length := by omega
      refine ⟨fun hm => ?_, ih.mp e2⟩
      have := (List.length_filter_eq_length_iff.mp e1) y ((mem_dedup y l).mpr hm)
      simp at this
    · rintro ⟨hn, hd⟩
      have e2 := ih.mpr hd
      have e1 : ((dedup l).filter fun z => decide (z ≠ y)).length = (dedup l).length := by
        rw [List.length_filter_eq_length_iff]
        intro z hz
        simp only [decide_eq_true_eq]
        rintro rfl
        exact hn ((mem_dedup _ l).mp hz)
      omega
end
theorem txts_pr (p : List Nat × List Nat) (l : Sc) : txts ((p :: l).map pr) = none := rfl
theorem keys_pr : ∀ l : Sc, keysBy keyF (l.map pr) = some (l.map fun p => [p.1, p.2])
  | [] => rfl
  | p :: l => by
    rw [List.map_cons, keysBy, keys_pr l]; rfl
theorem nodup_two {l : Sc} : (l.map fun p => [p.1, p.2]).Nodup ↔ l.Nodup := by
  refine nodup_mapi fun a b h => ?_
  simp at h
  exact Prod.ext h.1 h.2
theorem lenset_pr {l : Sc} (h : l.length ≤ 4) : ∃ n : Nat, bltD .lenset [.lst (l.map pr)] = .ok (.int n) ∧ (n = l.length ↔ l.Nodup) := by
  cases l with
  | nil => exact ⟨0, rfl, by simp⟩
  | cons p l =>
    refine ⟨(dedup ((p :: l).map fun p => [p.1, p.2])).length, ?_, ?_⟩
    · simp only [bltD, txts_pr, keys_pr, List.length_map]
      rw [if_pos h]
    · rw [← nodup_two, ← dedup_len, List.length_map]
theorem lenset_str {l : List (List Nat)} (h : l.length ≤ 1000) : bltD .lenset [.lst (l.map .str)] = .ok (.int (dedup l).length) := by
  simp only [bltD, txts_map]
  rw [if_pos h]
def areR (sc : Sc) (n : List Nat) (vs : Sc) : Option Sc := match laidQ sc vs with
  | none => none
  | some wi => if (meantM wi n).isNone = true then none else if ((plainV vs).map fun p => meantV wi p.1).any Option.isNone = true then none else if ((plainV vs).map fun p => meantV wi p.1).Nodup then some wi else none
theorem isAny_optP (l : List (Option (List Nat × List Nat))) : isAny .non (l.map optP) = l.any Option.isNone := by
  induction l with
  | nil => rfl
  | cons a r ih =>
    simp only [isAny, List.map_cons, List.any_cons] at ih ⊢
    rw [ih]
    cases a <;> rfl
theorem fls_optP (l : List (Option (List Nat × List Nat))) : fls (l.map optP) 60 = true := fls_all fun d hd => by
  obtain ⟨o, _, rfl⟩ := List.mem_map.mp hd
  cases o <;> simp [optP, pr, fl, fls]
theorem isin_optP (l : List (Option (List Nat × List Nat))) : cmpD .isin .non (.lst (l.map optP)) = .ok (.bl (l.any Option.isNone)) := by
  have : cmpD .isin .non (.lst (l.map optP)) = if fl .non 60 && fls (l.map optP) 60 then .ok (.bl (isAny .non (l.map optP))) else .no := rfl
  rw [this, fls_optP, isAny_optP]; rfl
theorem all_some : ∀ {l : List (Option (List Nat × List Nat))}, l.any Option.isNone = false → ∃ k : Sc, l = k.map some
  | [], _ => ⟨[], rfl⟩
  | none :: l, h => by simp at h
  | some a :: l, h => by
    rw [List.any_cons, Bool.or_eq_false_iff] at h
    obtain ⟨k, rfl⟩ := all_some h.2
    exact ⟨a :: k, rfl⟩
end Mk
end
section
set_option linter.all false
set_option maxRecDepth 100000
set_option maxHeartbeats 4000000
namespace Mk
theorem any_congr {α : Type} {f g : α → Bool} : ∀ {l : List α}, (∀ x ∈ l, f x = g x) → l.any f = l.any g
  | [], _ => rfl
  | x :: l, h => by rw [List.any_cons, List.any_cons, h x List.mem_cons_self, any_congr fun y hy => h y (List.mem_cons_of_mem _ hy)]
/-- the prefix of a name is there -/
def hasP (sc : Sc) (n : List Nat) : Bool := match splitOn 58 [] n with
  | p :: _ :: _ => (lookS p sc).isSome
  | _ => true
theorem r_law_meant (m : Nat) (sc : Sc) (n : List Nat) (b : Bool) (h : hasP sc n = true) : run prog (m + 1) .f_law_meant [scD sc, .str n, .bl b] = .ok (pr (meantS sc n b)) := by
  refine run_sx rfl fun t ht => ?_
  simp only [prog, b_law_meant]
  unfold hasP at h
  unfold meantS
  cases hs : splitOn 58 [] n with
  | nil => exact absurd hs (split_ne _ _ _)
  | cons a l =>
    rw [hs] at h
    cases l with
    | nil =>
      simp only [e_var, e_kst, e_tup, e_lst, e_bin, e_cmp, e_idx, e_call, e_blt, es_nil, es_cons, v_and, v_or, v_not, v_neg, v_chain, v_rev, e_slc, e_isa, e_mth, s_nil, s_set, s_unp, s_ret, s_if, s_for, s_app, s_put, s_expr, s_rai, s_frz, frzR, Slot.frz, seq_nx, seq_rt, seq_no, seq_ex, seq_ite, bind_ite, fin_rt, fin_nx, fin_ex, fin_no, fin_ite, tr_bl, start, part1, ite_and, ite_or, List.getElem?_cons_zero, List.getElem?_cons_succ, List.set_cons_zero, List.set_cons_succ, List.length_cons, List.length_nil, Nat.reduceAdd, Nat.reduceLT, Nat.reduceSub, Nat.zero_add, if_true, if_false, Bool.false_eq_true, List.map_cons, List.map_nil, List.replicate, List.cons_append, List.nil_append, R.ok_bind, Bool.and_true, Bool.true_and, Bool.and_false, Bool.false_and, Bool.or_true, Bool.or_false, Bool.true_or, Bool.false_or, Bool.not_true, Bool.not_false, fresh, isMut, isaD, mthOk, split_str, hs, len_lst, eq_int, ok_get, get_sc, bltD]
      cases b with
      | true => simp only [e_var, e_kst, e_tup, e_lst, e_bin, e_cmp, e_idx, e_call, e_blt, es_nil, es_cons, v_and, v_or, v_not, v_neg, v_chain, v_rev, e_slc, e_isa, e_mth, s_nil, s_set, s_unp, s_ret, s_if, s_for, s_app, s_put, s_expr, s_rai, s_frz, frzR, Slot.frz, seq_nx, seq_rt, seq_no, seq_ex, seq_ite, bind_ite, fin_rt, fin_nx, fin_ex, fin_no, fin_ite, tr_bl, start, part1, ite_and, ite_or, List.getElem?_cons_zero, List.getElem?_cons_succ, List.set_cons_zero, List.set_cons_succ, List.length_cons, List.length_nil, Nat.reduceAdd, Nat.reduceLT, Nat.reduceSub, Nat.zero_add, if_true, if_false, Bool.false_eq_true, List.map_cons, List.map_nil, List.replicate, List.cons_append, List.nil_append, R.ok_bind, Bool.and_true, Bool.true_and, Bool.and_false, Bool.false_and, Bool.or_true, Bool.or_false, Bool.true_or, Bool.false_or, Bool.not_true, Bool.not_false, fresh, isMut, isaD, mthOk, if_true, idx_t1, pr]; rfl
      | false => simp only [e_var, e_kst, e_tup, e_lst, e_bin, e_cmp, e_idx, e_call, e_blt, es_nil, es_cons, v_and, v_or, v_not, v_neg, v_chain, v_rev, e_slc, e_isa, e_mth, s_nil, s_set, s_unp, s_ret, s_if, s_for, s_app, s_put, s_expr, s_rai, s_frz, frzR, Slot.frz, seq_nx, seq_rt, seq_no, seq_ex, seq_ite, bind_ite, fin_rt, fin_nx, fin_ex, fin_no, fin_ite, tr_bl, start, part1, ite_and, ite_or, List.getElem?_cons_zero, List.getElem?_cons_succ, List.set_cons_zero, List.set_cons_succ, List.length_cons, List.length_nil, Nat.reduceAdd, Nat.reduceLT, Nat.reduceSub, Nat.zero_add, if_true, if_false, Bool.false_eq_true, List.map_cons, List.map_nil, List.replicate, List.cons_append, List.nil_append, R.ok_bind, Bool.and_true, Bool.true_and, Bool.and_false, Bool.false_and, Bool.or_true, Bool.or_false, Bool.true_or, Bool.false_or, Bool.not_true, Bool.not_false, fresh, isMut, isaD, mthOk, if_false, idx_t0, pr]; rfl
    | cons w l =>
      simp only at h
      cases hl : lookS a sc with
      | none => rw [hl] at h; cases h
      | some v =>
        have e : ((((l.map D.str).length + 1 + 1 : Nat) : Int) == 1) = false := by
          rw [beq_eq_false_iff_ne]; omega
        simp only [e_var, e_kst, e_tup, e_lst, e_bin, e_cmp, e_idx, e_call, e_blt, es_nil, es_cons, v_and, v_or, v_not, v_neg, v_chain, v_rev, e_slc, e_isa, e_mth, s_nil, s_set, s_unp, s_ret, s_if, s_for, s_app, s_put, s_expr, s_rai, s_frz, frzR, Slot.frz, seq_nx, seq_rt, seq_no, seq_ex, seq_ite, bind_ite, fin_rt, fin_nx, fin_ex, fin_no, fin_ite, tr_bl, start, part1, ite_and, ite_or, List.getElem?_cons_zero, List.getElem?_cons_succ, List.set_cons_zero, List.set_cons_succ, List.length_cons, List.length_nil, Nat.reduceAdd, Nat.reduceLT, Nat.reduceSub, Nat.zero_add, if_true, if_false, Bool.false_eq_true, List.map_cons, List.map_nil, List.replicate, List.cons_append, List.nil_append, R.ok_bind, Bool.and_true, Bool.true_and, Bool.and_false, Bool.false_and, Bool.or_true, Bool.or_false, Bool.true_or, Bool.false_or, Bool.not_true, Bool.not_false, fresh, isMut, isaD, mthOk, split_str, hs, len_lst, eq_int, e, idx_l0, idx_l1, idx_sc hl, pr, hl, Option.getD_some]
theorem meantV_S {sc : Sc} {n : List Nat} (hn : nameS n = true) : meantV sc n = if hasP sc n = true then some (meantS sc n false) else none := by
  unfold meantV hasP meantS splitN
  rcases name_cases hn with ⟨hw, hs⟩ | ⟨p, w, hp, hw, rfl, hs⟩
  · rw [hs]; rfl
  · rw [hs]
    have : (p == []) = false := by
      rw [beq_eq_false_iff_ne]; rintro rfl; have := hp.1; simp at this
    simp only [this, Bool.false_eq_true, if_false]
    cases lookS p sc <;> rfl
theorem meantM_S {sc : Sc} {n : List Nat} (hn : nameS n = true) : (meantM sc n).isNone = !(hasP sc n && !(n.take 6 == kSC)) := by
  have h6 := lays_name hn
  unfold meantM hasP splitN
  unfold laysFor splitN at h6
  rcases name_cases hn with ⟨hw, hs⟩ | ⟨p, w, hp, hw, rfl, hs⟩
  · rw [hs]
    have : (n.take 6 == kSC) = false := by simpa using low_ne hw
    rw [this]; rfl
  · rw [hs] at h6 ⊢
    have h0 : (p == []) = false := by
      rw [beq_eq_false_iff_ne]; rintro rfl; have := hp.1; simp at this
    have hk : ¬ p ++ 58 :: w = kS := fun e => by
      have : (58 : Nat) ∈ kS := by rw [← e]; simp
      simp [kS] at this
    have hkb : (p ++ 58 :: w == kS) = false := by simpa using hk
    simp only [h0, Bool.false_eq_true, if_false, hkb, if_neg hk] at h6 ⊢
    cases hps : p == kS with
    | true =>
      rw [hps] at h6
      simp only [if_true] at h6 ⊢
      have : (p ++ 58 :: w).take 6 = kSC := by
        by_cases e : (p ++ 58 :: w).take 6 = kSC
        · exact e
        · rw [if_neg e] at h6; cases h6
      simp [this]
    | false =>
      rw [hps] at h6
      simp only [Bool.false_eq_true, if_false] at h6 ⊢
      have : ¬ (p ++ 58 :: w).take 6 = kSC := fun e => by rw [if_pos e] at h6; cases h6
      have : ((p ++ 58 :: w).take 6 == kSC) = false := by simpa using this
      rw [this]
      cases lookS p sc <;> rfl
theorem plain_isLay {p : List Nat × List Nat} (h : nameS p.1 = true) : (laysFor p.1).isNone = !isLay p := by
  rw [lays_name h]
  unfold isLay
  by_cases h1 : p.1 = kS
  · simp [h1]
  · by_cases h2 : p.1.take 6 = kSC
    · simp [h1, h2]
    · simp [h1, h2]
def kSS : List Nat := kSC ++ kS
def badL (vs : Sc) : Bool := vs.any fun p => p.1 == kSS || (p.1.take 6 == kSC && p.2 == [])
theorem laid_bad : ∀ (vs sc : Sc), (∀ p ∈ vs, nameS p.1 = true) → laidQ sc vs = if badL vs = true then none else some (laidS sc vs)
  | [], sc, _ => rfl
  | p :: vs, sc, h => by
    have hp := h p List.mem_cons_self
    have ih := fun sc => laid_bad vs sc fun q hq => h q (List.mem_cons_of_mem _ hq)
    rw [laidQ, laidS, lays_name hp]
    unfold badL
    rw [List.any_cons]
    by_cases h1 : p.1 = kS
    · have e1 : (p.1 == kSS) = false := by rw [h1]; decide
      have e2 : (p.1.take 6 == kSC) = false := by rw [h1]; decide
      have e3 : ¬ p.1.take 6 = kSC := by simpa using e2
      simp only [if_pos h1, e1, e2, e3, Bool.false_and, Bool.false_or, if_false]
      rw [show (([] : List Nat) == kS || !(([] : List Nat) == []) && p.2 == []) = false from rfl]
      simp only [Bool.false_eq_true, if_false]
      exact ih _
    · rw [if_neg h1]
      by_cases h2 : p.1.take 6 = kSC
      · have e2 : (p.1.take 6 == kSC) = true := by simpa using h2
        have e4 : p.1 = kSC ++ p.1.drop 6 := by rw [← h2]; exact (List.take_append_drop 6 p.1).symm
        have e5 : (p.1.drop 6 == kS) = (p.1 == kSS) := by
          rw [Bool.eq_iff_iff, beq_iff_eq, beq_iff_eq]
          constructor
          · intro e; rw [e4, e]; rfl
          · intro e; rw [e]; rfl
        have e6 : p.1.drop 6 ≠ [] := fun e => by
          rw [e, List.append_nil] at e4
          rcases name_cases hp with ⟨hw, hs⟩ | ⟨a, w, ha, hw, hh, hs⟩
          · exact low_ne hw h2
          · rw [hh] at e4
            have := congrArg List.getLast? e4
            rw [List.getLast?_append] at this
            simp only [kSC] at this
            have hwl := hw.2.2
            cases hwc : w.getLast? with
            | none => rw [List.getLast?_eq_none_iff] at hwc; have := hw.1; rw [hwc] at this; simp at this
            | some c =>
              have hc := List.mem_of_getLast? hwc
              obtain ⟨y, hy⟩ : ∃ y ys, w = y :: ys := by
                cases w with
                | nil => simp at hwc
                | cons y ys => exact ⟨y, ys, rfl⟩
              obtain ⟨ys, hy⟩ := hy
              rw [hy, List.getLast?_cons_cons, ← hy, hwc] at this
              simp at this
              have := hwl c hc
              rw [‹c = 58›] at this
              simp [isLow] at this
        have e7 : (p.1.drop 6 == []) = false := by simpa using e6
        simp only [if_pos h2, e2, e5, e7, Bool.not_false, Bool.true_and, h1, if_false, if_true]
        cases hb : (p.1 == kSS || p.2 == []) with
        | true => simp
        | false =>
          simp only [Bool.false_eq_true, if_false, Bool.false_or]
          exact ih _
      · have e2 : (p.1.take 6 == kSC) = false := by simpa using h2
        have e1 : (p.1 == kSS) = false := by
          rw [beq_eq_false_iff_ne]; intro e; rw [e] at h2; exact h2 (by decide)
        simp only [if_neg h2, if_neg h1, e1, e2, Bool.false_and, Bool.false_or]
        exact ih _
def chk : Sc → Sc → Bool
  | _, [] => true
  | s, x :: r => !s.any (· == x) && chk (s ++ [x]) r
theorem chk_iff : ∀ (l s : Sc), chk s l = true ↔ (∀ x ∈ l, x ∉ s) ∧ l.Nodup
  | [], s => by simp [chk]
  | x :: l, s => by
    rw [chk, Bool.and_eq_true, chk_iff l, List.nodup_cons]
    have e : (!s.any (· == x)) = true ↔ x ∉ s := by
      rw [Bool.not_eq_true', List.any_eq_false]
      constructor
      · intro h hm; exact h x hm (by simp)
      · intro h y hy e; rw [beq_iff_eq] at e; subst e; exact h hy
    rw [e]
    constructor
    · rintro ⟨h1, h2, h3⟩
      refine ⟨fun y hy => ?_, fun hx => h2 x hx (by simp), h3⟩
      rcases List.mem_cons.mp hy with rfl | hy
      · exact h1
      · exact fun hs => h2 y hy (List.mem_append_left _ hs)
    · rintro ⟨h1, h2, h3⟩
      refine ⟨h1 x List.mem_cons_self, fun y hy hs => ?_, h3⟩
      rcases List.mem_append.mp hs with hs | hs
      · exact h1 y (List.mem_cons_of_mem _ hy) hs
      · rw [List.mem_singleton] at hs; subst hs; exact h2 hy
def plainL (vs : Sc) : Sc := vs.filter fun p => !isLay p
def lawR (sc : Sc) (n : List Nat) (vs : Sc) : Bool := !badL vs && ((n :: (plainL vs).map (·.1)).all (hasP (laidS sc vs)) && (chk [] ((plainL vs).map fun p => meantS (laidS sc vs) p.1 false) && !(n.take 6 == kSC)))
theorem slc6 (x : List Nat) : slcD (.str x) none (some 6) = .ok (.str (x.take 6)) := slc_to6 x
abbrev bR1 : List (S Fn) := [.ife (.or (.cmp .eq (.var 5) (.kst (.str [115, 112, 97, 99, 101, 58, 115, 112, 97, 99, 101]))) (.and (.cmp .eq (.slc (.var 5) [] [(.kst (.int 6))]) (.kst (.str [115, 112, 97, 99, 101, 58]))) (.cmp .eq (.var 6) (.kst (.str []))))) [.ret (.kst (.bl false))] []]
abbrev bR2 : List (S Fn) := [.ife (.and (.cmp .isin (.kst (.str [58])) (.var 5)) (.cmp .notin (.idx (.mth .split (.var 5) [(.kst (.str [58]))]) (.kst (.int 0))) (.var 3))) [.ret (.kst (.bl false))] []]
abbrev bR3 : List (S Fn) := [.ife (.and (.cmp .ne (.var 5) (.kst (.str [115, 112, 97, 99, 101]))) (.cmp .ne (.slc (.var 5) [] [(.kst (.int 6))]) (.kst (.str [115, 112, 97, 99, 101, 58])))) [.set 7 (.call .f_law_meant [(.var 3), (.var 5), (.kst (.bl false))]),
        .ife (.cmp .isin (.var 7) (.var 4)) [.ret (.kst (.bl false))] [],
        .app 4 (.var 7)] []]
theorem isin_pr (x : List Nat × List Nat) (l : Sc) : cmpD .isin (pr x) (.lst (l.map pr)) = .ok (.bl (l.any (· == x))) := by
  have h1 : fl (pr x) 60 = true := by simp [pr, fl, fls]
  have h2 := fls_pr 59 l
  have : cmpD .isin (pr x) (.lst (l.map pr)) = if fl (pr x) 60 && fls (l.map pr) 60 then .ok (.bl (isAny (pr x) (l.map pr))) else .no := rfl
  rw [this, h1, h2, isAny_pr]; rfl
theorem isMut_pr (p : List Nat × List Nat) : isMut (pr p) = false := rfl
theorem loop3 {t : Tb Fn} {m : Nat} (ht : t.c = run prog (m + 1)) (A B C : D) (wi : Sc) : ∀ (vs s : Sc) (x5 x6 x7 x8 : Slot), s.length + vs.length < LIM → (∀ p ∈ vs, isLay p = false → hasP wi p.1 = true) →
    if chk s ((plainL vs).map fun p => meantS wi p.1 false) = true then ∃ s' y5 y6 y7 y8, forL (fb t (.tp [5, 6]) bR3) (vs.map pr) [.val A, .val B, .val C, .val (scD wi), .own (.lst (s.map pr)), x5, x6, x7, x8] = .ok (.nx [.val A, .val B, .val C, .val (scD wi), .own (.lst (List.map pr s')), y5, y6, y7, y8])
    else forL (fb t (.tp [5, 6]) bR3) (vs.map pr) [.val A, .val B, .val C, .val (scD wi), .own (.lst (s.map pr)), x5, x6, x7, x8] = .ok (.rt (.bl false))
  | [], s, x5, x6, x7, x8, _, _ => ⟨s, x5, x6, x7, x8, rfl⟩
  | p :: vs, s, x5, x6, x7, x8, hl, hp => by
    rw [List.length_cons] at hl
    have ih := fun s => loop3 ht A B C wi vs s
    have hvs : ∀ q ∈ vs, isLay q = false → hasP wi q.1 = true := fun q hq => hp q (List.mem_cons_of_mem _ hq)
    rw [List.map_cons, forL, fb, asg2_pr (by simp) (by simp)]
    simp only [bR3, e_var, e_kst, e_tup, e_lst, e_bin, e_cmp, e_idx, e_call, e_blt, es_nil, es_cons, v_and, v_or, v_not, v_neg, v_chain, v_rev, e_slc, e_isa, e_mth, s_nil, s_set, s_unp, s_ret, s_if, s_for, s_app, s_put, s_expr, s_rai, s_frz, frzR, Slot.frz, seq_nx, seq_rt, seq_no, seq_ex, seq_ite, bind_ite, fin_rt, fin_nx, fin_ex, fin_no, fin_ite, tr_bl, start, part1, ite_and, ite_or, List.getElem?_cons_zero, List.getElem?_cons_succ, List.set_cons_zero, List.set_cons_succ, List.length_cons, List.length_nil, Nat.reduceAdd, Nat.reduceLT, Nat.reduceSub, Nat.zero_add, if_true, if_false, Bool.false_eq_true, List.map_cons, List.map_nil, List.replicate, List.cons_append, List.nil_append, R.ok_bind, Bool.and_true, Bool.true_and, Bool.and_false, Bool.false_and, Bool.or_true, Bool.or_false, Bool.true_or, Bool.false_or, Bool.not_true, Bool.not_false, fresh, isMut, isaD, mthOk, eq_str, ne_str, slc6, kS_lit, kSC_lit]
    have hlay : (!(p.1 == kS) && !(p.1.take 6 == kSC)) = !isLay p := by unfold isLay; simp
    rw [hlay]
    cases hq : isLay p with
    | true =>
      have e : plainL (p :: vs) = plainL vs := by unfold plainL; rw [List.filter_cons_of_neg (by rw [hq]; simp)]
      simp only [Bool.not_true, Bool.false_eq_true, if_false, e_var, e_kst, e_tup, e_lst, e_bin, e_cmp, e_idx, e_call, e_blt, es_nil, es_cons, v_and, v_or, v_not, v_neg, v_chain, v_rev, e_slc, e_isa, e_mth, s_nil, s_set, s_unp, s_ret, s_if, s_for, s_app, s_put, s_expr, s_rai, s_frz, frzR, Slot.frz, seq_nx, seq_rt, seq_no, seq_ex, seq_ite, bind_ite, fin_rt, fin_nx, fin_ex, fin_no, fin_ite, tr_bl, start, part1, ite_and, ite_or, List.getElem?_cons_zero, List.getElem?_cons_succ, List.set_cons_zero, List.set_cons_succ, List.length_cons, List.length_nil, Nat.reduceAdd, Nat.reduceLT, Nat.reduceSub, Nat.zero_add, if_true, if_false, Bool.false_eq_true, List.map_cons, List.map_nil, List.replicate, List.cons_append, List.nil_append, R.ok_bind, Bool.and_true, Bool.true_and, Bool.and_false, Bool.false_and, Bool.or_true, Bool.or_false, Bool.true_or, Bool.false_or, Bool.not_true, Bool.not_false, fresh, isMut, isaD, mthOk]
      rw [e]
      exact ih s _ _ _ _ (by omega) hvs
    | false =>
      have e : plainL (p :: vs) = p :: plainL vs := by unfold plainL; rw [List.filter_cons_of_pos (by rw [hq]; rfl)]
      simp only [Bool.not_false, if_true, e_var, e_kst, e_tup, e_lst, e_bin, e_cmp, e_idx, e_call, e_blt, es_nil, es_cons, v_and, v_or, v_not, v_neg, v_chain, v_rev, e_slc, e_isa, e_mth, s_nil, s_set, s_unp, s_ret, s_if, s_for, s_app, s_put, s_expr, s_rai, s_frz, frzR, Slot.frz, seq_nx, seq_rt, seq_no, seq_ex, seq_ite, bind_ite, fin_rt, fin_nx, fin_ex, fin_no, fin_ite, tr_bl, start, part1, ite_and, ite_or, List.getElem?_cons_zero, List.getElem?_cons_succ, List.set_cons_zero, List.set_cons_succ, List.length_cons, List.length_nil, Nat.reduceAdd, Nat.reduceLT, Nat.reduceSub, Nat.zero_add, if_true, if_false, Bool.false_eq_true, List.map_cons, List.map_nil, List.replicate, List.cons_append, List.nil_append, R.ok_bind, Bool.and_true, Bool.true_and, Bool.and_false, Bool.false_and, Bool.or_true, Bool.or_false, Bool.true_or, Bool.false_or, Bool.not_true, Bool.not_false, fresh, isMut, isaD, mthOk, ht, r_law_meant m wi p.1 false (hp p List.mem_cons_self hq), isMut_pr, isin_pr]
      rw [e, List.map_cons, chk]
      cases ha : s.any (· == meantS wi p.1 false) with
      | true => simp only [Bool.not_true, Bool.false_and, Bool.false_eq_true, if_false, if_true, e_var, e_kst, e_tup, e_lst, e_bin, e_cmp, e_idx, e_call, e_blt, es_nil, es_cons, v_and, v_or, v_not, v_neg, v_chain, v_rev, e_slc, e_isa, e_mth, s_nil, s_set, s_unp, s_ret, s_if, s_for, s_app, s_put, s_expr, s_rai, s_frz, frzR, Slot.frz, seq_nx, seq_rt, seq_no, seq_ex, seq_ite, bind_ite, fin_rt, fin_nx, fin_ex, fin_no, fin_ite, tr_bl, start, part1, ite_and, ite_or, List.getElem?_cons_zero, List.getElem?_cons_succ, List.set_cons_zero, List.set_cons_succ, List.length_cons, List.length_nil, Nat.reduceAdd, Nat.reduceLT, Nat.reduceSub, Nat.zero_add, if_true, if_false, Bool.false_eq_true, List.map_cons, List.map_nil, List.replicate, List.cons_append, List.nil_append, R.ok_bind, Bool.and_true, Bool.true_and, Bool.and_false, Bool.false_and, Bool.or_true, Bool.or_false, Bool.true_or, Bool.false_or, Bool.not_true, Bool.not_false, fresh, isMut, isaD, mthOk]
      | false =>
        have hlim : (s.map pr).length < LIM := by rw [List.length_map]; omega
        simp only [Bool.not_false, Bool.true_and, e_var, e_kst, e_tup, e_lst, e_bin, e_cmp, e_idx, e_call, e_blt, es_nil, es_cons, v_and, v_or, v_not, v_neg, v_chain, v_rev, e_slc, e_isa, e_mth, s_nil, s_set, s_unp, s_ret, s_if, s_for, s_app, s_put, s_expr, s_rai, s_frz, frzR, Slot.frz, seq_nx, seq_rt, seq_no, seq_ex, seq_ite, bind_ite, fin_rt, fin_nx, fin_ex, fin_no, fin_ite, tr_bl, start, part1, ite_and, ite_or, List.getElem?_cons_zero, List.getElem?_cons_succ, List.set_cons_zero, List.set_cons_succ, List.length_cons, List.length_nil, Nat.reduceAdd, Nat.reduceLT, Nat.reduceSub, Nat.zero_add, if_true, if_false, Bool.false_eq_true, List.map_cons, List.map_nil, List.replicate, List.cons_append, List.nil_append, R.ok_bind, Bool.and_true, Bool.true_and, Bool.and_false, Bool.false_and, Bool.or_true, Bool.or_false, Bool.true_or, Bool.false_or, Bool.not_true, Bool.not_false, fresh, isMut, isaD, mthOk, hlim]
        have e2 : s.map pr ++ [pr (meantS wi p.1 false)] = (s ++ [meantS wi p.1 false]).map pr := by simp
        rw [e2]
        exact ih (s ++ [meantS wi p.1 false]) _ _ _ _ (by simp; omega) hvs
theorem isIn_one (c : Nat) : ∀ l : List Nat, isIn [c] l = l.any (· == c)
  | [] => rfl
  | a :: r => by
    simp only [isIn, isPre, isIn_one c r, List.any_cons, Bool.and_true]
    congr 1
    rw [Bool.eq_iff_iff, beq_iff_eq, beq_iff_eq]; exact eq_comm
theorem colon_has {wi : Sc} {x : List Nat} (h : nameS x = true) : (if isIn [58] x = true then !(match splitOn 58 [] x with | p :: _ => (lookS p wi).isSome | [] => false) else false) = !hasP wi x := by
  unfold hasP
  rw [isIn_one]
  rcases name_cases h with ⟨hw, hs⟩ | ⟨p, w, hp, hw, rfl, hs⟩
  · rw [hs]
    have : (x.any (· == 58)) = false := by
      rw [List.any_eq_false]
      intro c hc e
      rw [beq_iff_eq] at e; subst e; exact word_no hw hc
    rw [this]; rfl
  · rw [hs]
    have : ((p ++ 58 :: w).any (· == 58)) = true := by simp
    rw [this]; rfl
/-- the law's check is the program's -/
theorem areR_law (sc : Sc) (n : List Nat) (vs : Sc) (hn : nameS n = true) (hv : ∀ p ∈ vs, nameS p.1 = true) : areR sc n vs = if lawR sc n vs = true then some (laidS sc vs) else none := by
  unfold areR lawR
  rw [laid_bad vs sc hv]
  have hpl : plainV vs = plainL vs := by
    unfold plainV plainL
    exact List.filter_congr fun p hp => plain_isLay (hv p hp)
  cases hb : badL vs with
  | true => simp
  | false =>
    simp only [Bool.false_eq_true, if_false, Bool.not_false, Bool.true_and, List.all_cons]
    obtain ⟨wi, hwi⟩ : ∃ wi, wi = laidS sc vs := ⟨_, rfl⟩
    rw [← hwi, meantM_S hn, hpl]
    have hnames : ∀ p ∈ plainL vs, nameS p.1 = true := fun p hp => hv p (List.mem_filter.mp hp).1
    have hany : ((plainL vs).map fun p => meantV wi p.1).any Option.isNone = !((plainL vs).map (·.1)).all (hasP wi) := by
      rw [List.any_map, List.all_map, List.not_all_eq_any_not]
      refine any_congr fun p hp => ?_
      simp only [Function.comp]
      rw [meantV_S (hnames p hp)]
      cases hasP wi p.1 <;> rfl
    rw [hany]
    cases h1 : hasP wi n with
    | false => simp
    | true =>
      cases h2 : (n.take 6 == kSC) with
      | true => simp
      | false =>
        cases h3 : ((plainL vs).map (·.1)).all (hasP wi) with
        | false => simp
        | true =>
          have hm : ((plainL vs).map fun p => meantV wi p.1) = (((plainL vs).map fun p => meantS wi p.1 false)).map some := by
            rw [List.map_map]
            refine List.map_congr_left fun p hp => ?_
            rw [meantV_S (hnames p hp)]
            rw [List.all_eq_true] at h3
            rw [if_pos (h3 p.1 (List.mem_map.mpr ⟨p, hp, rfl⟩))]
            rfl
          rw [hm]
          have hnd : (List.map some ((plainL vs).map fun p => meantS wi p.1 false)).Nodup ↔ ((plainL vs).map fun p => meantS wi p.1 false).Nodup := nodup_mapi fun a b h => Option.some.inj h
          have hck := chk_iff ((plainL vs).map fun p => meantS wi p.1 false) []
          simp only [Bool.not_false, Bool.not_true, Bool.and_self, Bool.true_and, Bool.and_true, Bool.false_eq_true, if_false]
          by_cases hd : ((plainL vs).map fun p => meantS wi p.1 false).Nodup
          · rw [if_pos (hnd.mpr hd), if_pos (hck.mpr ⟨by simp, hd⟩)]
          · rw [if_neg (fun h => hd (hnd.mp h)), if_neg (fun h => hd (hck.mp h).2)]
end Mk
end
section
set_option linter.all false
set_option maxRecDepth 100000
set_option maxHeartbeats 4000000
namespace Mk
/-- a pair that may be a value that lays nothing -/
def pcD : D → Bool
  | .tup [.str n, .str _] => nameS n && (laysFor n).isNone
  | _ => false
/-- a thing, not too deep, not too wide -/
def Th (A C : Nat) : Nat → D → Prop
  | _, .dct _ _ => False
  | _, .scr _ => False
  | _, .tpl _ => False
  | 0, .tup _ => False
  | 0, .lst _ => False
  | n + 1, .tup ds => ds.length ≤ A ∧ (ds.filter pcD).length ≤ C ∧ ∀ d ∈ ds, Th A C n d
  | n + 1, .lst ds => ∀ d ∈ ds, Th A C n d
  | _, .str x => x.length ≤ A
  | _, _ => True
section
variable {A C : Nat}
theorem Th.nd : ∀ {n : Nat} {d : D}, Th A C n d → Nd d
  | n, .dct _ _, h => by cases n <;> exact h.elim
  | n, .scr _, h => by cases n <;> exact h.elim
  | n, .tpl _, h => by cases n <;> exact h.elim
  | n, .non, h => trivial
  | n, .bl _, h => trivial
  | n, .int _, h => trivial
  | n, .str _, h => trivial
  | n, .tup _, h => trivial
  | n, .lst _, h => trivial
theorem Th.fl : ∀ {n : Nat} {d : D}, Th A C n d → fl d n = true
  | n, .dct _ _, h => by cases n <;> exact h.elim
  | n, .scr _, h => by cases n <;> exact h.elim
  | n, .tpl _, h => by cases n <;> exact h.elim
  | n, .non, h => by simp [Mk.fl]
  | n, .bl _, h => by simp [Mk.fl]
  | n, .int _, h => by simp [Mk.fl]
  | n, .str _, h => by simp [Mk.fl]
  | 0, .tup _, h => h.elim
  | 0, .lst _, h => h.elim
  | n + 1, .tup ds, h => by rw [Mk.fl]; exact fls_all fun x hx => (h.2.2 x hx).fl
  | n + 1, .lst ds, h => by rw [Mk.fl]; exact fls_all fun x hx => Th.fl (h x hx)
end
theorem dctE {A C n : Nat} {ks : List (List Nat)} {vs : List D} (h : Th A C n (.dct ks vs)) : False := by cases n <;> exact h
theorem scrE {A C n : Nat} {ns : List Int} (h : Th A C n (.scr ns)) : False := by cases n <;> exact h
theorem tplE {A C n : Nat} {ds : List D} (h : Th A C n (.tpl ds)) : False := by cases n <;> exact h
def valB : D → Bool
  | .tup [a, b] => nameB a && sgnB b
  | _ => false
theorem len3_ne (n : Nat) : (((n + 1 + 1 + 1 : Nat) : Int) == 2) = false := by
  rw [beq_eq_false_iff_ne]; omega
theorem ite_nor {α : Type} (a b : Bool) (x y : α) : (if (!a || !b) = true then x else y) = if (a && b) = true then y else x := by cases a <;> cases b <;> rfl
structure VsOk (vs : Sc) : Prop where
  each : ∀ p ∈ vs, nameS p.1 = true ∧ p.2.all signB = true
  nd : (vs.map (·.1)).Nodup
theorem valB_pr {d : D} : valB d = true ↔ ∃ p : List Nat × List Nat, d = pr p ∧ nameS p.1 = true ∧ p.2.all signB = true := by
  constructor
  · intro h
    unfold valB at h
    split at h
    · rename_i a b
      rw [Bool.and_eq_true] at h
      cases a with
      | str x =>
        cases b with
        | str y => exact ⟨(x, y), rfl, h.1, h.2⟩
        | _ => exact absurd h.2 Bool.false_ne_true
      | _ => exact absurd h.1 Bool.false_ne_true
    · cases h
  · rintro ⟨p, rfl, h1, h2⟩
    show (nameS p.1 && p.2.all signB) = true
    rw [h1, h2]; rfl
theorem vals_iff : ∀ {ds : List D}, ds.all valB = true ↔ ∃ vs : Sc, ds = vs.map pr ∧ ∀ p ∈ vs, nameS p.1 = true ∧ p.2.all signB = true
  | [] => ⟨fun _ => ⟨[], rfl, by simp⟩, fun _ => rfl⟩
  | d :: ds => by
    rw [List.all_cons, Bool.and_eq_true, valB_pr, vals_iff]
    constructor
    · rintro ⟨⟨p, rfl, h⟩, vs, rfl, hv⟩
      refine ⟨p :: vs, rfl, fun q hq => ?_⟩
      rcases List.mem_cons.mp hq with rfl | hq
      · exact h
      · exact hv q hq
    · rintro ⟨vs, e, h⟩
      cases vs with
      | nil => cases e
      | cons p vs =>
        cases e
        exact ⟨⟨p, rfl, h p List.mem_cons_self⟩, vs, rfl, fun q hq => h q (List.mem_cons_of_mem _ hq)⟩
theorem pr_map_inj {a b : Sc} (h : a.map pr = b.map pr) : a = b := by
  induction a generalizing b with
  | nil => cases b with
    | nil => rfl
    | cons _ _ => cases h
  | cons p a ih => cases b with
    | nil => cases h
    | cons q b =>
      simp only [List.map_cons, List.cons.injEq] at h
      have : p = q := by
        have := h.1
        simp only [pr, D.tup.injEq, List.cons.injEq, D.str.injEq, and_true] at this
        exact Prod.ext this.1 this.2
      rw [this, ih h.2]
/-- what is told of a tuple of values -/
theorem names_lc {t : Tb Fn} {r : List Slot} {i : Nat} (hi : i < r.length) (vs : Sc) : lcL (lcB t (.nm i) r [] (.idx (.var i) (.kst (.int 0)))) (vs.map pr) = .ok ((vs.map (·.1)).map .str) := by
  rw [List.map_map]
  refine lcL_im _ fun p _ => lcB_0 (asg_nm hi) ?_
  have : (r.set i (Slot.val (pr p)))[i]? = some (.val (pr p)) := List.getElem?_set_self hi
  simp only [e_idx, e_kst, e_var, this, R.ok_bind, idx_pr0]
  rfl
theorem set_eq {vs : Sc} (h : vs.length ≤ 1000) : (bltD .lenset [.lst ((vs.map fun p => p.1).map .str)] >>= fun x => cmpD .eq x (.int vs.length)) = .ok (.bl (decide ((vs.map fun p => p.1).Nodup))) := by
  rw [lenset_str (by simpa using h)]
  simp only [R.ok_bind, eq_int]
  congr 2
  rw [Bool.eq_iff_iff, beq_iff_eq, decide_eq_true_eq, ← dedup_len, List.length_map]
  omega
end Mk
end
section
set_option linter.all false
set_option maxRecDepth 100000
set_option maxHeartbeats 4000000
namespace Mk
mutual
def PtOk : Tr → Prop
  | .text s => s.all signB = true ∧ s ≠ []
  | .rem s => s.all signB = true ∧ isIn [33] s = false
  | .mark n vs ks => nameS n = true ∧ VsOk vs ∧ PtOks ks ∧ NoAdj ks
def PtOks : List Tr → Prop
  | [] => True
  | k :: ks => PtOk k ∧ PtOks ks
end
theorem PtOks_iff : ∀ {ks : List Tr}, PtOks ks ↔ ∀ k ∈ ks, PtOk k
  | [] => by simp [PtOks]
  | k :: ks => by simp [PtOks, PtOks_iff]
theorem lcL_dec {f : D → R (Option D)} {P : D → Prop} : ∀ (items : List D), (∀ x ∈ items, ∃ b, f x = .ok (some (.bl b)) ∧ (b = true ↔ P x)) → ∃ bs : List Bool, lcL f items = .ok (bs.map D.bl) ∧ (bs.all id = true ↔ ∀ x ∈ items, P x)
  | [], _ => ⟨[], rfl, by simp⟩
  | x :: xs, h => by
    obtain ⟨b, h1, h2⟩ := h x List.mem_cons_self
    obtain ⟨bs, h3, h4⟩ := lcL_dec xs fun y hy => h y (List.mem_cons_of_mem _ hy)
    refine ⟨b :: bs, ?_, ?_⟩
    · rw [lcL, h1]
      simp only [R.still_ok, R.ok_bind, h3]; rfl
    · rw [List.all_cons, Bool.and_eq_true, h4, id, h2]
      simp
theorem all_id (bs : List Bool) : bltD .all [.lst (bs.map D.bl)] = .ok (.bl (bs.all id)) := all_bl id bs
theorem enc_all : ∀ {kd : List D}, (∀ d ∈ kd, ∃ t, d = enc t ∧ PtOk t) ↔ ∃ ks, kd = encs ks ∧ PtOks ks
  | [] => ⟨fun _ => ⟨[], by rw [encs], by simp [PtOks]⟩, fun _ => by simp⟩
  | d :: kd => by
    rw [List.forall_mem_cons, enc_all]
    constructor
    · rintro ⟨⟨t, rfl, h⟩, ks, rfl, hk⟩
      exact ⟨t :: ks, by rw [encs], by rw [PtOks]; exact ⟨h, hk⟩⟩
    · rintro ⟨ks, e, h⟩
      cases ks with
      | nil => rw [encs] at e; cases e
      | cons t ks =>
        rw [encs] at e
        cases e
        rw [PtOks] at h
        exact ⟨⟨t, rfl, h.1⟩, ks, rfl, h.2⟩
mutual
theorem enc_inj : ∀ {a b : Tr}, enc a = enc b → a = b
  | .text s, .text s', h => by rw [enc, enc] at h; cases h; rfl
  | .text s, .rem s', h => by rw [enc, enc] at h; simp [kText, kRem] at h
  | .text s, .mark _ _ _, h => by rw [enc, enc] at h; simp at h
  | .rem s, .text s', h => by rw [enc, enc] at h; simp [kText, kRem] at h
  | .rem s, .rem s', h => by rw [enc, enc] at h; cases h; rfl
  | .rem s, .mark _ _ _, h => by rw [enc, enc] at h; simp at h
  | .mark _ _ _, .text _, h => by rw [enc, enc] at h; simp at h
  | .mark _ _ _, .rem _, h => by rw [enc, enc] at h; simp at h
  | .mark n vs ks, .mark n' vs' ks', h => by
    rw [enc, enc] at h
    simp only [D.tup.injEq, List.cons.injEq, D.str.injEq, true_and, and_true] at h
    obtain ⟨h1, h2, h3⟩ := h
    rw [h1, pr_map_inj h2, encs_inj h3]
theorem encs_inj : ∀ {a b : List Tr}, encs a = encs b → a = b
  | [], [], _ => rfl
  | [], _ :: _, h => by rw [encs, encs] at h; cases h
  | _ :: _, [], h => by rw [encs, encs] at h; cases h
  | x :: a, y :: b, h => by
    rw [encs, encs] at h
    simp only [List.cons.injEq] at h
    rw [enc_inj h.1, encs_inj h.2]
end
def adjP : List Tr → List (Tr × Tr)
  | a :: b :: r => (a, b) :: adjP (b :: r)
  | _ => []
theorem cut_less (xs : List D) : cut xs none (some (-1)) = xs.dropLast := by
  unfold cut sIx
  simp only [List.drop_zero, Nat.sub_zero, List.dropLast_eq_take]
  rw [if_pos (by decide)]
  congr 1
  omega
theorem cut_1 (xs : List D) : cut xs (some 1) none = xs.tail := by
  have := cut_from xs 1
  rw [List.drop_one] at this
  exact this
theorem zip_adj : ∀ ks : List Tr, zipD (encs ks).dropLast (encs ks).tail = (adjP ks).map fun p => .tpl [enc p.1, enc p.2]
  | [] => by rw [encs]; rfl
  | [a] => by rw [encs, encs]; rfl
  | a :: b :: r => by
    have ih := zip_adj (b :: r)
    have e : ∀ (x : Tr) (l : List Tr), encs (x :: l) = enc x :: encs l := fun _ _ => by rw [encs]
    simp only [e] at ih ⊢
    rw [List.dropLast_cons_cons, List.tail_cons, zipD, adjP, List.map_cons, ← ih, List.tail_cons]
theorem adj_no : ∀ ks : List Tr, (adjP ks).any (fun p => isText p.1 && isText p.2) = false ↔ NoAdj ks
  | [] => by simp [adjP, NoAdj]
  | [a] => by simp [adjP, NoAdj]
  | a :: b :: r => by
    rw [adjP, List.any_cons, Bool.or_eq_false_iff, adj_no (b :: r), NoAdj]
    simp
theorem kind_isText (t : Tr) : (kindT t == kText) = isText t := by cases t <;> rfl
theorem asg_zip {i j : Nat} {a b : D} {r : List Slot} (hi : i < r.length) (hj : j < r.length) : asg (.tp [i, j]) (.tpl [a, b]) r = .ok ((r.set i (.val a)).set j (.val b)) := asg_2t hi hj
theorem src_zip (a b : List D) : srcD .zip [.tup a, .tup b] = .ok (zipD a b) := Eq.trans (Eq.refl _) (Eq.refl _)
theorem slc_tup (ds : List D) (lo hi : Option Int) : slcD (.tup ds) lo hi = .ok (.tup (cut ds lo hi)) := Eq.trans (Eq.refl _) (Eq.refl _)
theorem lenI (n : Nat) : (((n + 1 + 1 + 1 + 1 + 1 : Nat) : Int) == 4) = false := by rw [beq_eq_false_iff_ne]; omega
theorem len_lt2 (n : Nat) : decide (((n + 1 + 1 : Nat) : Int) < 2) = false := by rw [decide_eq_false_iff_not]; omega
theorem noT {a : D} {l : List D} (h : ∀ k, a ≠ .str k) : ¬ ∃ t, D.tup (a :: l) = enc t ∧ PtOk t := by
  rintro ⟨t, e, _⟩
  cases t <;> (rw [enc] at e; simp only [D.tup.injEq, List.cons.injEq] at e; exact h _ e.1)
theorem noT1 {l : List D} (h : l.length < 2) : ¬ ∃ t, D.tup l = enc t ∧ PtOk t := by
  rintro ⟨t, e, _⟩
  cases t <;> (rw [enc] at e; cases e; simp at h)
theorem len_text {k : List Nat} {l : List D} : ∀ t, D.tup (.str k :: l) = enc t → (k = kMark ∧ l.length = 3) ∨ ((k = kText ∨ k = kRem) ∧ l.length = 1) := by
  intro t e
  cases t <;> (rw [enc] at e; cases e; simp)
theorem kRem_lit2 : (114 :: 101 :: kMark : List Nat) = kRem := rfl
def NoPt : D → Prop
  | .dct _ _ => False
  | .scr _ => False
  | .tpl _ => False
  | .tup (_ :: _ :: _) => False
  | _ => True
end Mk
end
section
set_option linter.all false
set_option maxRecDepth 100000
set_option maxHeartbeats 4000000
namespace Mk
mutual
def spB : Sc → Tr → Bool
  | sc, .mark n vs ks => lawR sc n vs && spsB (laidS sc vs) ks
  | _, .text _ => true
  | _, .rem _ => true
def spsB : Sc → List Tr → Bool
  | _, [] => true
  | sc, k :: ks => spB sc k && spsB sc ks
end
theorem spsB_all (sc : Sc) : ∀ ks : List Tr, spsB sc ks = ks.all (spB sc)
  | [] => by rw [spsB]; rfl
  | k :: ks => by rw [spsB, spsB_all sc ks]; rfl
theorem laidS_len : ∀ (vs sc : Sc), (laidS sc vs).length ≤ sc.length + 2 * vs.length
  | [], sc => by simp [laidS]
  | p :: vs, sc => by
    rw [laidS, List.length_cons]
    have ih := fun s => laidS_len vs s
    have h1 := put_len [] p.2 sc
    simp only
    have key : ∀ a : Sc, a.length ≤ sc.length + 1 → (laidS (if p.1.take 6 = kSC then putS (p.1.drop 6) p.2 a else a) vs).length ≤ sc.length + 2 * (vs.length + 1) := by
      intro a ha
      have h2 := put_len (p.1.drop 6) p.2 a
      split
      · have := ih (putS (p.1.drop 6) p.2 a); omega
      · have := ih a; omega
    exact key (if p.1 = kS then putS [] p.2 sc else sc) (by split <;> omega)
theorem plainV_pc : ∀ (vs : Sc), (∀ p ∈ vs, nameS p.1 = true) → (plainV vs).length = ((vs.map pr).filter pcD).length
  | [], _ => rfl
  | p :: vs, h => by
    have ih := plainV_pc vs fun q hq => h q (List.mem_cons_of_mem _ hq)
    unfold plainV at ih ⊢
    have : pcD (pr p) = (laysFor p.1).isNone := by
      show (nameS p.1 && (laysFor p.1).isNone) = _
      rw [h p List.mem_cons_self]; rfl
    rw [List.map_cons, List.filter_cons, List.filter_cons, this]
    split
    · simp [ih]
    · exact ih
theorem Th.kids {A C n : Nat} {nm : List Nat} {vs : Sc} {ks : List Tr} (h : Th A C n (enc (.mark nm vs ks))) (hn : ∀ p ∈ vs, nameS p.1 = true) : ∃ n', n = n' + 2 ∧ vs.length ≤ A ∧ (plainV vs).length ≤ C ∧ ks.length ≤ A ∧ ∀ k ∈ ks, Th A C n' (enc k) := by
  rw [enc] at h
  match n, h with
  | 1, h => exact (h.2.2 (.tup (vs.map pr)) (by simp)).elim
  | n' + 2, h =>
    have hv : Th A C (n' + 1) (.tup (vs.map pr)) := h.2.2 _ (by simp)
    have hk : Th A C (n' + 1) (.tup (encs ks)) := h.2.2 _ (by simp)
    refine ⟨n', rfl, by simpa using hv.1, by rw [plainV_pc vs hn]; exact hv.2.1, by simpa [encs_len] using hk.1, fun k hkm => ?_⟩
    exact hk.2.2 _ (by rw [encs_map]; exact List.mem_map.mpr ⟨k, hkm, rfl⟩)
/-- a tree, of any thing -/
def IsTree (d : D) : Prop := ∃ t, d = enc t ∧ PtOk t ∧ IsMk t ∧ spB [] t = true
theorem dnewS : (.dct [] [] : D) = scD [] := rfl
theorem enc_allS {kd : List D} {wi : Sc} : (∀ d ∈ kd, ∃ t, d = enc t ∧ PtOk t ∧ spB wi t = true) ↔ ∃ ks, kd = encs ks ∧ PtOks ks ∧ spsB wi ks = true := by
  induction kd with
  | nil => exact ⟨fun _ => ⟨[], by rw [encs], by simp [PtOks], by simp [spsB]⟩, fun _ => by simp⟩
  | cons d kd ih =>
    rw [List.forall_mem_cons, ih]
    constructor
    · rintro ⟨⟨t, rfl, h, hs⟩, ks, rfl, hk, hks⟩
      exact ⟨t :: ks, by rw [encs], by rw [PtOks]; exact ⟨h, hk⟩, by rw [spsB, hs, hks]; rfl⟩
    · rintro ⟨ks, e, h, hs⟩
      cases ks with
      | nil => rw [encs] at e; cases e
      | cons t ks =>
        rw [encs] at e
        cases e
        rw [PtOks] at h
        rw [spsB, Bool.and_eq_true] at hs
        exact ⟨⟨t, rfl, h.1, hs.1⟩, ks, rfl, h.2, hs.2⟩
/-- those of which it is not so -/
theorem lcL_not {f : D → R (Option D)} {P : D → Prop} : ∀ (items : List D), (∀ x ∈ items, ∃ b, f x = .ok (if b = true then none else some x) ∧ (b = true ↔ P x)) → ∃ ys, lcL f items = .ok ys ∧ (∀ y ∈ ys, y ∈ items) ∧ (ys.isEmpty = true ↔ ∀ x ∈ items, P x)
  | [], _ => ⟨[], rfl, by simp, by simp⟩
  | x :: xs, h => by
    obtain ⟨b, h1, h2⟩ := h x List.mem_cons_self
    obtain ⟨ys, h3, h5, h4⟩ := lcL_not xs fun y hy => h y (List.mem_cons_of_mem _ hy)
    cases b with
    | true =>
      refine ⟨ys, ?_, fun y hy => List.mem_cons_of_mem _ (h5 y hy), ?_⟩
      · rw [lcL, h1]
        simp only [if_true, R.still_ok, R.ok_bind, h3]
      · rw [h4, List.forall_mem_cons]
        exact ⟨fun z => ⟨h2.mp rfl, z⟩, fun z => z.2⟩
    | false =>
      refine ⟨x :: ys, ?_, fun y hy => ?_, ?_⟩
      · rw [lcL, h1]
        simp only [Bool.false_eq_true, if_false, R.still_ok, R.ok_bind, h3]
      · rcases List.mem_cons.mp hy with rfl | hy
        · exact List.mem_cons_self
        · exact List.mem_cons_of_mem _ (h5 y hy)
      · rw [List.forall_mem_cons]
        constructor
        · intro z; cases z
        · intro z; have := h2.mpr z.1; cases this
theorem isin_two (k : List Nat) : cmpD .isin (.str k) (.tup [.str kText, .str kRem]) = .ok (.bl (k == kText || k == kRem)) := by
  have : cmpD .isin (.str k) (.tup [.str kText, .str kRem]) = .ok (.bl (isAny (.str k) [.str kText, .str kRem])) := rfl
  rw [this]
  congr 2
  have c : ∀ a b : List Nat, (a == b) = (b == a) := fun a b => by rw [Bool.eq_iff_iff, beq_iff_eq, beq_iff_eq]; exact eq_comm
  simp only [isAny, List.any_cons, List.any_nil, eqv, Bool.or_false]
  rw [c kText, c kRem]
theorem int_bl (b : Bool) : bltD .int [.bl b] = .ok (.int (if b = true then 1 else 0)) := by cases b <;> rfl
theorem fls_sub {ys l : List D} {n : Nat} (h : ∀ y ∈ ys, y ∈ l) (hl : ∀ y ∈ l, fl y n = true) : fls ys n = true := fls_all fun y hy => hl y (h y hy)
end Mk
end
section
set_option linter.all false
set_option maxRecDepth 100000
set_option maxHeartbeats 4000000
namespace Mk
theorem sgn_all {s : List Nat} (h : Sgn s) : s.all signB = true := by
  rw [List.all_eq_true]
  intro c hc
  rw [← sign_iff, isIn_one, List.any_eq_true]
  exact ⟨c, h c hc, by simp⟩
theorem nodup_split {α : Type} (q : α → Bool) : ∀ {l : List α}, (l.filter q).Nodup → (l.filter fun x => !q x).Nodup → l.Nodup
  | [], _, _ => List.nodup_nil
  | x :: l, h1, h2 => by
    rw [List.nodup_cons]
    cases hq : q x with
    | true =>
      rw [List.filter_cons_of_pos hq, List.nodup_cons] at h1
      rw [List.filter_cons_of_neg (by rw [hq]; simp)] at h2
      exact ⟨fun hm => h1.1 (List.mem_filter.mpr ⟨hm, hq⟩), nodup_split q h1.2 h2⟩
    | false =>
      rw [List.filter_cons_of_neg (by rw [hq]; simp)] at h1
      rw [List.filter_cons_of_pos (by rw [hq]; rfl), List.nodup_cons] at h2
      exact ⟨fun hm => h2.1 (List.mem_filter.mpr ⟨hm, by rw [hq]; rfl⟩), nodup_split q h1 h2.2⟩
theorem nodup_of_map {α β : Type} (f : α → β) : ∀ {l : List α}, (l.map f).Nodup → l.Nodup
  | [], _ => List.nodup_nil
  | x :: l, h => by
    rw [List.map_cons, List.nodup_cons] at h
    rw [List.nodup_cons]
    exact ⟨fun hm => h.1 (List.mem_map.mpr ⟨x, hm, rfl⟩), nodup_of_map f h.2⟩
def layB (n : List Nat) : Bool := n == kS || n.take 6 == kSC
theorem filter_fst (vs : Sc) : (vs.map (·.1)).filter layB = (vs.filter isLay).map (·.1) ∧ ((vs.map (·.1)).filter fun n => !layB n) = (vs.filter fun p => !isLay p).map (·.1) := by
  constructor
  · rw [List.filter_map]; rfl
  · rw [List.filter_map]; rfl
theorem pf_word {p : List Nat} (h : p ∈ kPf) (h0 : p ≠ []) : IsWord p := by
  simp only [kPf, List.mem_cons, List.not_mem_nil, or_false] at h
  rcases h with rfl | rfl | rfl | rfl
  · exact absurd rfl h0
  · exact ⟨by decide, by decide, by decide⟩
  · exact ⟨by decide, by decide, by decide⟩
  · exact ⟨by decide, by decide, by decide⟩
theorem lay_name_ok : ∀ pf ∈ kPf, nameS (layNm pf) = true := by decide
theorem lay_not_ss : ∀ pf ∈ kPf, layNm pf ≠ kSS := by decide
theorem nm_name {wi : Sc} {n : List Nat} (h : ScOk wi) (hn : NmOk wi n) : nameS n = true ∧ hasP wi n = true ∧ n.take 6 ≠ kSC := by
  obtain ⟨w, hw, e⟩ := hn
  rcases e with rfl | ⟨p, hp0, hpm, rfl⟩
  · obtain ⟨h1, h2⟩ := name_of hw
    refine ⟨h1, ?_, low_ne hw⟩
    unfold hasP; rw [h2]
  · obtain ⟨x, hx, rfl⟩ := List.mem_map.mp hpm
    obtain ⟨h1, h2⟩ := name_of2 (pf_word (h.mem x hx).1 hp0) hw
    obtain ⟨v, hv⟩ := lookS_in hpm
    refine ⟨h1, ?_, (pf_ne _ (h.mem x hx).1 hp0 w).1⟩
    unfold hasP; rw [h2]
    simp [hv]
theorem vok_names {wi ps vs : Sc} (h : ScOk wi) (hv : VOk wi ps vs) : ∀ p ∈ vs, nameS p.1 = true ∧ p.2.all signB = true := by
  intro p hp
  rcases hv.each p hp with ⟨hl, _⟩ | ⟨hn, _, _, _, hs⟩
  · obtain ⟨pf, hpf, e, _⟩ := hl.nm
    rw [e]
    exact ⟨lay_name_ok pf hpf, sgn_all hl.sgn⟩
  · exact ⟨(nm_name h hn).1, sgn_all hs⟩
theorem vok_vs {wi ps vs : Sc} (h : ScOk wi) (hv : VOk wi ps vs) (hp : (ps.map (·.1)).Nodup) : VsOk vs := by
  refine ⟨vok_names h hv, nodup_split layB ?_ ?_⟩
  · rw [(filter_fst vs).1, hv.lays]; exact hp
  · rw [(filter_fst vs).2]
    have := hv.nd
    unfold plainM at this
    rw [show (fun p : List Nat × List Nat => meantS wi p.1 false) = (fun n => meantS wi n false) ∘ (fun p => p.1) from rfl, ← List.map_map] at this
    exact nodup_of_map _ this
theorem vok_law {sc wi ps vs : Sc} {n : List Nat} (h : ScOk wi) (hw : wi = laidS sc vs) (hv : VOk wi ps vs) (hn : NmOk wi n) : lawR sc n vs = true := by
  unfold lawR
  have hpl : ∀ p ∈ plainL vs, NmOk wi p.1 := fun p hp => by
    obtain ⟨hm, hl⟩ := List.mem_filter.mp hp
    rcases hv.each p hm with ⟨_, h1⟩ | ⟨h1, _⟩
    · rw [h1] at hl; cases hl
    · exact h1
  obtain ⟨a1, a2, a3⟩ := nm_name h hn
  rw [← hw, Bool.and_eq_true, Bool.and_eq_true, Bool.and_eq_true]
  refine ⟨?_, ?_, ?_, ?_⟩
  · rw [Bool.not_eq_true']
    unfold badL
    rw [List.any_eq_false]
    intro p hp
    rw [Bool.not_eq_true, Bool.or_eq_false_iff, beq_eq_false_iff_ne, Bool.and_eq_false_iff, beq_eq_false_iff_ne, beq_eq_false_iff_ne]
    rcases hv.each p hp with ⟨hl, _⟩ | ⟨_, _, hl, _⟩
    · obtain ⟨pf, hpf, e, hne⟩ := hl.nm
      refine ⟨by rw [e]; exact lay_not_ss pf hpf, ?_⟩
      by_cases h0 : pf = []
      · exact .inl (by rw [e, Ne, (lay_is pf).2.1]; exact fun z => z h0)
      · exact .inr (hne h0)
    · unfold isLay at hl
      rw [Bool.or_eq_false_iff, beq_eq_false_iff_ne, beq_eq_false_iff_ne] at hl
      refine ⟨fun e => hl.2 (by rw [e]; decide), .inl hl.2⟩
  · rw [List.all_cons, a2, Bool.true_and, List.all_eq_true]
    intro x hx
    obtain ⟨p, hp, rfl⟩ := List.mem_map.mp hx
    exact (nm_name h (hpl p hp)).2.1
  · rw [chk_iff]
    exact ⟨by simp, hv.nd⟩
  · rw [Bool.not_eq_true', beq_eq_false_iff_ne]; exact a3
theorem tr_ok : ∀ (d : Nat) (sc : Sc) (t : Tr), TrOk d sc t → PtOk t ∧ spB sc t = true
  | d, sc, .text s, h => by
    rw [TrOk] at h
    rw [PtOk, spB]
    exact ⟨⟨sgn_all h.2.2, h.1⟩, rfl⟩
  | d, sc, .rem s, h => by
    rw [TrOk] at h
    rw [PtOk, spB]
    refine ⟨⟨sgn_all h.2.1, ?_⟩, rfl⟩
    rw [isIn_one, List.any_eq_false]
    intro c hc e
    rw [beq_iff_eq] at e
    subst e
    exact h.2.2 hc
  | 0, sc, .mark n vs ks, h => by simp [TrOk] at h
  | d + 1, sc, .mark n vs ks, h => by
    rw [TrOk] at h
    obtain ⟨wi, ps, h1, h2, h3, h4, h5, h6, h7, h8, h9, h10, h11⟩ := h
    rw [PtOk, spB, ← h2, vok_law h1 h2 h5 h7, spsB_all]
    refine ⟨⟨(nm_name h1 h7).1, vok_vs h1 h5 h3, PtOks_iff.mpr fun k hk => (tr_ok d wi k (h11 k hk)).1, h10⟩, ?_⟩
    rw [Bool.true_and, List.all_eq_true]
    exact fun k hk => (tr_ok d wi k (h11 k hk)).2
theorem pc_mark (n : List Nat) (a b : D) : pcD (.tup [.str kMark, .str n, a, b]) = false := rfl
theorem pc_rem (s : List Nat) : pcD (.tup [.str kRem, .str s]) = false := by
  show (nameS kRem && (laysFor kRem).isNone) = false
  decide
theorem Th.mono {A C A' C' : Nat} (hA : A ≤ A') (hC : C ≤ C') : ∀ {n n' : Nat} {d : D}, n ≤ n' → Th A C n d → Th A' C' n' d
  | n, n', .dct _ _, _, h => (dctE h).elim
  | n, n', .scr _, _, h => (scrE h).elim
  | n, n', .tpl _, _, h => (tplE h).elim
  | n, n', .non, _, h => by cases n' <;> trivial
  | n, n', .bl _, _, h => by cases n' <;> trivial
  | n, n', .int _, _, h => by cases n' <;> trivial
  | n, n', .str x, _, h => by
    have h : x.length ≤ A := by cases n <;> exact h
    have : x.length ≤ A' := by omega
    cases n' <;> exact this
  | 0, n', .tup _, _, h => h.elim
  | 0, n', .lst _, _, h => h.elim
  | n + 1, n', .tup ds, hn, h => by
    obtain ⟨k, rfl⟩ : ∃ k, n' = k + 1 := ⟨n' - 1, by omega⟩
    exact ⟨by have := h.1; omega, by have := h.2.1; omega, fun d hd => Th.mono hA hC (by omega) (h.2.2 d hd)⟩
  | n + 1, n', .lst ds, hn, h => by
    obtain ⟨k, rfl⟩ : ∃ k, n' = k + 1 := ⟨n' - 1, by omega⟩
    exact fun d hd => Th.mono hA hC (by omega) (h d hd)
theorem th_str {A C n : Nat} {x : List Nat} (h : x.length ≤ A) : Th A C n (.str x) := by cases n <;> exact h
theorem noadj_two : ∀ (ks : List Tr), ks.length ≤ 3 → NoAdj ks → ((ks.filter isText).length ≤ 2)
  | [], _, _ => by simp
  | [a], _, _ => by simp [List.filter]; split <;> simp
  | [a, b], _, _ => by
    have := List.length_filter_le isText [a, b]
    simpa using this
  | [a, b, c], _, h => by
    have h1 := h.1
    have h2 := h.2.1
    cases ha : isText a <;> cases hb : isText b <;> cases hc : isText c <;> simp [List.filter, ha, hb, hc] at h1 h2 ⊢
  | _ :: _ :: _ :: _ :: _, h, _ => by simp at h
theorem th_pr {A C : Nat} (hA : 2 ≤ A) {p : List Nat × List Nat} (h1 : p.1.length ≤ A) (h2 : p.2.length ≤ A) : Th A C 1 (pr p) := by
  refine ⟨by simpa using hA, ?_, fun d hd => ?_⟩
  · show ([D.str p.1, D.str p.2].filter pcD).length ≤ C
    simp [List.filter, pcD]
  · simp only [List.mem_cons, List.not_mem_nil, or_false] at hd
    rcases hd with rfl | rfl
    · exact th_str h1
    · exact th_str h2
theorem filter_len_le {α : Type} {p q : α → Bool} : ∀ {l : List α}, (∀ x ∈ l, p x = true → q x = true) → (l.filter p).length ≤ (l.filter q).length
  | [], _ => by simp
  | x :: l, h => by
    have ih := filter_len_le (l := l) fun y hy => h y (List.mem_cons_of_mem _ hy)
    cases hp : p x with
    | false =>
      rw [List.filter_cons_of_neg (by rw [hp]; simp)]
      rw [List.filter_cons]
      split
      · simp; omega
      · exact ih
    | true =>
      rw [List.filter_cons_of_pos hp, List.filter_cons_of_pos (h x List.mem_cons_self hp)]
      simp; omega
theorem pc_enc {ks : List Tr} (h3 : ks.length ≤ 3) (hn : NoAdj ks) : ((encs ks).filter pcD).length ≤ 2 := by
  rw [encs_map, List.filter_map, List.length_map]
  refine Nat.le_trans (filter_len_le (q := isText) fun t _ ht => ?_) (noadj_two ks h3 hn)
  cases t with
  | text s => rfl
  | rem s => simp only [Function.comp, enc] at ht; rw [pc_rem] at ht; cases ht
  | mark n vs ks => simp only [Function.comp, enc] at ht; rw [pc_mark] at ht; cases ht
theorem filter_both {α : Type} (q : α → Bool) : ∀ l : List α, (l.filter q).length + (l.filter fun x => !q x).length = l.length
  | [] => rfl
  | x :: l => by
    have ih := filter_both q l
    cases h : q x <;> simp [h] <;> omega
theorem vals_two {wi ps vs : Sc} (hv : VOk wi ps vs) (h5 : vs.length ≤ ps.length + 2) : ((vs.map pr).filter pcD).length ≤ 2 := by
  have h1 : ((vs.map pr).filter pcD).length ≤ (vs.filter fun p => !isLay p).length := by
    rw [List.filter_map, List.length_map]
    refine filter_len_le fun p hp hq => ?_
    have hq : (nameS p.1 && (laysFor p.1).isNone) = true := hq
    rw [Bool.and_eq_true] at hq
    rw [← plain_isLay hq.1]; exact hq.2
  have h2 := filter_both isLay vs
  rw [hv.lays] at h2
  omega
theorem tr_th : ∀ (d : Nat) (sc : Sc) (t : Tr), TrOk d sc t → Th 20 2 (2 * d + 1) (enc t)
  | d, sc, .text s, h => by
    rw [TrOk] at h
    rw [enc]
    exact Th.mono (Nat.le_refl _) (Nat.le_refl _) (by omega) (th_pr (A := 20) (C := 2) (p := (kText, s)) (by decide) (by show kText.length ≤ 20; decide) (by show s.length ≤ 20; omega))
  | d, sc, .rem s, h => by
    rw [TrOk] at h
    rw [enc]
    exact Th.mono (Nat.le_refl _) (Nat.le_refl _) (by omega) (th_pr (A := 20) (C := 2) (p := (kRem, s)) (by decide) (by show kRem.length ≤ 20; decide) (by show s.length ≤ 20; omega))
  | 0, sc, .mark n vs ks, h => by simp [TrOk] at h
  | d + 1, sc, .mark n vs ks, h => by
    rw [TrOk] at h
    obtain ⟨wi, ps, h1, h2, h3, h4, h5, h6, h7, h8, h9, h10, h11⟩ := h
    rw [enc, show 2 * (d + 1) + 1 = (2 * d + 1) + 1 + 1 by omega]
    refine ⟨by simp, ?_, fun x hx => ?_⟩
    · rw [List.filter_cons_of_neg (by simp [pcD]), List.filter_cons_of_neg (by simp [pcD])]
      exact List.length_filter_le _ _
    simp only [List.mem_cons, List.not_mem_nil, or_false] at hx
    rcases hx with rfl | rfl | rfl | rfl
    · exact th_str (by decide)
    · exact th_str (by omega)
    · refine ⟨by rw [List.length_map]; omega, vals_two h5 h6.2, fun x hx => ?_⟩
      obtain ⟨p, hp, rfl⟩ := List.mem_map.mp hx
      have hl : p.1.length ≤ 20 ∧ p.2.length ≤ 20 := by
        rcases h5.each p hp with ⟨hl, _⟩ | ⟨_, h8, _, h4, _⟩
        · obtain ⟨pf, hpf, e, _⟩ := hl.nm
          refine ⟨?_, by have := hl.len; omega⟩
          rw [e]
          have : ∀ pf ∈ kPf, (layNm pf).length ≤ 20 := by decide
          exact this pf hpf
        · exact ⟨by omega, by omega⟩
      exact Th.mono (Nat.le_refl _) (Nat.le_refl _) (by omega) (th_pr (by decide) hl.1 hl.2)
    · refine ⟨by rw [encs_len]; omega, pc_enc h9 h10, fun x hx => ?_⟩
      rw [encs_map] at hx
      obtain ⟨k, hk, rfl⟩ := List.mem_map.mp hx
      exact tr_th d wi k (h11 k hk)
end Mk
end
section
set_option linter.all false
set_option maxRecDepth 100000
set_option maxHeartbeats 4000000
namespace Mk
/-- the spaces within the mark at an address -/
def wiT : Sc → Tr → List Nat → Sc
  | sc, .mark _ vs _, [] => laidS sc vs
  | sc, .mark _ vs ks, i :: r => match ks[i]? with
    | some k => wiT (laidS sc vs) k r
    | none => sc
  | sc, .text _, _ => sc
  | sc, .rem _, _ => sc
theorem at_cons {n : List Nat} {vs : Sc} {ks : List Tr} {i : Nat} {r : List Nat} {p : Tr} (h : partT (.mark n vs ks) (i :: r) = some p) : ∃ k, ks[i]? = some k ∧ partT k r = some p := by
  rw [partT] at h
  simp only [kidsT] at h
  cases hk : ks[i]? with
  | none => rw [hk] at h; cases h
  | some k => rw [hk] at h; exact ⟨k, rfl, h⟩
theorem wi_part : ∀ (l : List Nat) (d : Nat) (sc : Sc) (t : Tr) (n : List Nat) (vs : Sc) (ks : List Tr), TrOk d sc t → partT t l = some (.mark n vs ks) → ∃ d' sc', d' + 1 ≤ d ∧ TrOk (d' + 1) sc' (.mark n vs ks) ∧ laidS sc' vs = wiT sc t l
  | [], d, sc, t, n, vs, ks, h, hp => by
    cases hp
    cases d with
    | zero => exact h.elim
    | succ d => exact ⟨d, sc, Nat.le_refl _, h, by rw [wiT]⟩
  | i :: r, d, sc, .text s, n, vs, ks, h, hp => by simp [partT, kidsT] at hp
  | i :: r, d, sc, .rem s, n, vs, ks, h, hp => by simp [partT, kidsT] at hp
  | i :: r, 0, sc, .mark n' vs' ks', n, vs, ks, h, hp => h.elim
  | i :: r, d + 1, sc, .mark n' vs' ks', n, vs, ks, h, hp => by
    obtain ⟨k, hk, hp⟩ := at_cons hp
    obtain ⟨wi, ps, h1, h2, h3, h4, h5, h6, h7, h8, h9, h10, h11⟩ := h
    obtain ⟨d', sc', q1, q2, q3⟩ := wi_part r d wi k n vs ks (h11 k (List.mem_of_getElem? hk)) hp
    refine ⟨d', sc', by omega, q2, ?_⟩
    rw [q3, wiT, hk, ← h2]
theorem wi_snoc : ∀ (l : List Nat) (sc : Sc) (t : Tr) (i : Nat) (n : List Nat) (vs : Sc) (ks : List Tr), partT t (l ++ [i]) = some (.mark n vs ks) → wiT sc t (l ++ [i]) = laidS (wiT sc t l) vs
  | [], sc, .text s, i, n, vs, ks, hp => by simp [partT, kidsT] at hp
  | [], sc, .rem s, i, n, vs, ks, hp => by simp [partT, kidsT] at hp
  | [], sc, .mark n' vs' ks', i, n, vs, ks, hp => by
    obtain ⟨k, hk, hp⟩ := at_cons hp
    cases hp
    simp only [List.nil_append, wiT, hk]
  | a :: l, sc, .text s, i, n, vs, ks, hp => by simp [partT, kidsT] at hp
  | a :: l, sc, .rem s, i, n, vs, ks, hp => by simp [partT, kidsT] at hp
  | a :: l, sc, .mark n' vs' ks', i, n, vs, ks, hp => by
    rw [List.cons_append] at hp ⊢
    obtain ⟨k, hk, hp⟩ := at_cons hp
    rw [wiT, wiT, hk]
    exact wi_snoc l (laidS sc vs') k i n vs ks hp
theorem part_take : ∀ (l : List Nat) (t p : Tr) (k : Nat), partT t l = some p → IsMk p → ∃ n vs ks, partT t (l.take k) = some (.mark n vs ks)
  | [], t, p, k, hp, ⟨n, vs, ks, e⟩ => by cases hp; rw [List.take_nil]; exact ⟨n, vs, ks, by rw [e]; rfl⟩
  | i :: r, .text s, p, k, hp, _ => by simp [partT, kidsT] at hp
  | i :: r, .rem s, p, k, hp, _ => by simp [partT, kidsT] at hp
  | i :: r, .mark n vs ks, p, 0, hp, _ => ⟨n, vs, ks, rfl⟩
  | i :: r, .mark n vs ks, p, k + 1, hp, hm => by
    obtain ⟨c, hc, hp⟩ := at_cons hp
    obtain ⟨n', vs', ks', e⟩ := part_take r c p k hp hm
    refine ⟨n', vs', ks', ?_⟩
    rw [List.take_succ_cons, partT]
    simp only [kidsT, hc]
    exact e
/-- what is known of a mark's values -/
structure MOk (wi : Sc) (n : List Nat) (vs : Sc) : Prop where
  sc : ScOk wi
  len : vs.length ≤ 5
  nm : NmOk wi n
  nd : (vs.map (·.1)).Nodup
  each : ∀ p ∈ vs, nameS p.1 = true ∧ (isLay p = false → NmOk wi p.1)
  bad : badL vs = false
theorem mok_of {d : Nat} {sc wi : Sc} {n : List Nat} {vs : Sc} {ks : List Tr} (h : TrOk (d + 1) sc (.mark n vs ks)) (hw : laidS sc vs = wi) : MOk wi n vs := by
  obtain ⟨wi', ps, h1, h2, h3, h4, h5, h6, h7, h8, h9, h10, h11⟩ := h
  have : wi' = wi := h2.trans hw
  subst this
  have hl := vok_law h1 h2 h5 h7
  refine ⟨h1, h6.1, h7, (vok_vs h1 h5 h3).nd, fun p hp => ⟨(vok_names h1 h5 p hp).1, fun hq => ?_⟩, ?_⟩
  · rcases h5.each p hp with ⟨_, h⟩ | ⟨h, _⟩
    · rw [h] at hq; cases hq
    · exact h
  · unfold lawR at hl
    rw [Bool.and_eq_true, Bool.not_eq_true'] at hl
    exact hl.1
theorem laid_ok {wi : Sc} {n : List Nat} {vs : Sc} (h : MOk wi n vs) (sc : Sc) : laidQ sc vs = some (laidS sc vs) := by
  rw [laid_bad vs sc fun p hp => (h.each p hp).1, h.bad]; rfl
section
variable {T : Tr} {l n : List Nat} {vs : Sc} {ks : List Tr}
theorem mok_at (hT : TrOk 4 [] T) (hp : partT T l = some (.mark n vs ks)) : MOk (wiT [] T l) n vs := by
  obtain ⟨d', sc', _, h1, h2⟩ := wi_part l 4 [] T n vs ks hT hp
  exact mok_of h1 h2
theorem src_range2 {a b : Nat} (h : a ≤ b) (hb : b ≤ 1000) : srcD .range [.int a, .int b] = .ok (rangeD a (b - a)) := by
  simp only [srcD]
  rw [if_pos ⟨by unfold LIM; omega, by unfold LIM; omega, by unfold LIM; omega, by unfold LIM; omega, by unfold LIM; omega⟩]
  congr 2
  omega
theorem slc_adN (a : List Nat) (k : Nat) : slcD (adD a) none (some (k : Int)) = .ok (adD (a.take k)) := by
  unfold adD; simp only [slcD, cut_to, List.map_take]
theorem ad_lenN (ad : List Nat) : bltD .len [adD ad] = .ok (.int ad.length) := by simp [bltD, adD]
theorem idx_mv {n : List Nat} {vs : Sc} {ks : List Tr} : idxD (enc (.mark n vs ks)) (.int 2) = .ok (.tup (vs.map pr)) := by rw [enc]; exact idx_t2
theorem idx_mn {n : List Nat} {vs : Sc} {ks : List Tr} : idxD (enc (.mark n vs ks)) (.int 1) = .ok (.str n) := by rw [enc]; exact idx_t1
theorem part_N (m : Nat) {t p : Tr} {l : List Nat} (h : partT t l = some p) : run prog (m + 2) .f_part_at [enc t, adD l] = .ok (enc p) := by
  have := r_part_I m t (ofN l)
  rw [partI_N, h, ← adD_I] at this
  exact this
theorem law_N (m : Nat) {t p : Tr} {l : List Nat} (h : partT t l = some p) : run prog (m + 1) .f_law_at [enc t, adD l] = .ok (enc p) := by
  have := r_law_at m t (ofN l)
  rw [partI_N, h, ← adD_I] at this
  exact this
theorem take_get {l : List Nat} {i : Nat} (h : i < l.length) : l.take (i + 1) = l.take i ++ [l[i]] := by rw [List.take_succ, List.getElem?_eq_getElem h]; rfl
theorem wi_step (hp : partT T l = some (.mark n vs ks)) {i : Nat} (h : i < l.length) : ∃ n' vs' ks', partT T (l.take (i + 1)) = some (.mark n' vs' ks') ∧ laidS (wiT [] T (l.take i)) vs' = wiT [] T (l.take (i + 1)) := by
  obtain ⟨n', vs', ks', e⟩ := part_take l T _ (i + 1) hp ⟨_, _, _, rfl⟩
  refine ⟨n', vs', ks', e, ?_⟩
  rw [take_get h] at e ⊢
  exact (wi_snoc _ _ _ _ _ _ _ e).symm
theorem r_scope_at (hT : TrOk 4 [] T) (hp : partT T l = some (.mark n vs ks)) (hl : l.length ≤ 4) (m : Nat) : run prog (m + 4) .f_scope_at [enc T, adD l] = .ok (scD (wiT [] T l)) := by
  obtain ⟨n0, vs0, ks0, e0⟩ := part_take l T _ 0 hp ⟨_, _, _, rfl⟩
  rw [List.take_zero] at e0
  cases e0
  have m0 := mok_at (l := []) hT rfl
  refine run_is rfl fun t ht => ?_
  show Wp _ b_scope_at _ _ _
  unfold b_scope_at
  have w0 : run prog (m + 3) .f_laid [.dct [] [], .tup (vs0.map pr)] = .ok (scD (wiT [] (.mark n0 vs0 ks0) [])) := by
    have := r_laidQ m [] vs0 (by have := m0.len; unfold LIM; simp; omega)
    rw [laid_ok m0] at this
    rw [wiT]; exact this
  refine wp_setN (scD (wiT [] (.mark n0 vs0 ks0) [])) (by simp only [e_var, e_kst, e_tup, e_lst, e_bin, e_cmp, e_idx, e_call, e_blt, es_nil, es_cons, v_and, v_or, v_not, v_neg, v_chain, v_rev, e_slc, e_isa, e_mth, s_nil, s_set, s_unp, s_ret, s_if, s_for, s_app, s_put, s_expr, s_rai, s_frz, frzR, Slot.frz, seq_nx, seq_rt, seq_no, seq_ex, seq_ite, bind_ite, fin_rt, fin_nx, fin_ex, fin_no, fin_ite, tr_bl, start, part1, ite_and, ite_or, List.getElem?_cons_zero, List.getElem?_cons_succ, List.set_cons_zero, List.set_cons_succ, List.length_cons, List.length_nil, Nat.reduceAdd, Nat.reduceLT, Nat.reduceSub, Nat.zero_add, if_true, if_false, Bool.false_eq_true, List.map_cons, List.map_nil, List.replicate, List.cons_append, List.nil_append, R.ok_bind, Bool.and_true, Bool.true_and, Bool.and_false, Bool.false_and, Bool.or_true, Bool.or_false, Bool.true_or, Bool.false_or, Bool.not_true, Bool.not_false, fresh, isMut, isaD, mthOk, prog, e_dnew, idx_mv, ht, w0]) (by simp [start, prog]) rfl ?_
  have hst : (start (prog .f_scope_at).ns [enc (.mark n0 vs0 ks0), adD l]).set 2 (.val (scD (wiT [] (.mark n0 vs0 ks0) []))) = [.val (enc (.mark n0 vs0 ks0)), .val (adD l), .val (scD (wiT [] (.mark n0 vs0 ks0) [])), .un] := by simp [start, prog]
  rw [hst]
  have src := src_range2 (a := 1) (b := l.length + 1) (by omega) (by omega)
  rw [show l.length + 1 - 1 = l.length by omega] at src
  have c1 : ((1 : Nat) : Int) = 1 := rfl
  have c2 : ((l.length + 1 : Nat) : Int) = (l.length : Int) + 1 := by omega
  rw [c1, c2] at src
  refine wp_for [.int 1, .int ((l.length : Int) + 1)] (rangeD 1 l.length) (fun i r => ∃ x3, r = [.val (enc (.mark n0 vs0 ks0)), .val (adD l), .val (scD (wiT [] (.mark n0 vs0 ks0) (l.take i))), x3]) (by simp only [e_var, e_kst, e_tup, e_lst, e_bin, e_cmp, e_idx, e_call, e_blt, es_nil, es_cons, v_and, v_or, v_not, v_neg, v_chain, v_rev, e_slc, e_isa, e_mth, s_nil, s_set, s_unp, s_ret, s_if, s_for, s_app, s_put, s_expr, s_rai, s_frz, frzR, Slot.frz, seq_nx, seq_rt, seq_no, seq_ex, seq_ite, bind_ite, fin_rt, fin_nx, fin_ex, fin_no, fin_ite, tr_bl, start, part1, ite_and, ite_or, List.getElem?_cons_zero, List.getElem?_cons_succ, List.set_cons_zero, List.set_cons_succ, List.length_cons, List.length_nil, Nat.reduceAdd, Nat.reduceLT, Nat.reduceSub, Nat.zero_add, if_true, if_false, Bool.false_eq_true, List.map_cons, List.map_nil, List.replicate, List.cons_append, List.nil_append, R.ok_bind, Bool.and_true, Bool.true_and, Bool.and_false, Bool.false_and, Bool.or_true, Bool.or_false, Bool.true_or, Bool.false_or, Bool.not_true, Bool.not_false, fresh, isMut, isaD, mthOk, ad_lenN, addD]) src ⟨_, by rw [List.take_zero]⟩ (fun i x r hx hr => ?_) (fun r hr => ?_)
  · obtain ⟨hx, hi⟩ := range_get _ _ _ _ hx
    subst hx
    obtain ⟨x3, rfl⟩ := hr
    obtain ⟨n', vs', ks', e1, e2⟩ := wi_step hp hi
    have mi := mok_at hT e1
    have hsl : (wiT [] (.mark n0 vs0 ks0) (l.take i)).length ≤ 4 := by
      obtain ⟨a1, a2, a3, a4⟩ := part_take l (.mark n0 vs0 ks0) _ i hp ⟨_, _, _, rfl⟩
      exact (mok_at hT a4).sc.len
    have w1 := r_laidQ m (wiT [] (.mark n0 vs0 ks0) (l.take i)) vs' (by have := mi.len; unfold LIM; omega)
    rw [laid_ok mi, e2] at w1
    have a1 := part_N (m + 1) e1
    refine ⟨_, asg_nm (by simp), ?_⟩
    have ci : (1 : Int) + (i : Int) = ((i + 1 : Nat) : Int) := by omega
    refine wp_setN (scD (wiT [] (.mark n0 vs0 ks0) (l.take (i + 1)))) (by simp only [e_var, e_kst, e_tup, e_lst, e_bin, e_cmp, e_idx, e_call, e_blt, es_nil, es_cons, v_and, v_or, v_not, v_neg, v_chain, v_rev, e_slc, e_isa, e_mth, s_nil, s_set, s_unp, s_ret, s_if, s_for, s_app, s_put, s_expr, s_rai, s_frz, frzR, Slot.frz, seq_nx, seq_rt, seq_no, seq_ex, seq_ite, bind_ite, fin_rt, fin_nx, fin_ex, fin_no, fin_ite, tr_bl, start, part1, ite_and, ite_or, List.getElem?_cons_zero, List.getElem?_cons_succ, List.set_cons_zero, List.set_cons_succ, List.length_cons, List.length_nil, Nat.reduceAdd, Nat.reduceLT, Nat.reduceSub, Nat.zero_add, if_true, if_false, Bool.false_eq_true, List.map_cons, List.map_nil, List.replicate, List.cons_append, List.nil_append, R.ok_bind, Bool.and_true, Bool.true_and, Bool.and_false, Bool.false_and, Bool.or_true, Bool.or_false, Bool.true_or, Bool.false_or, Bool.not_true, Bool.not_false, fresh, isMut, isaD, mthOk, ci, slc_adN, ht, a1, idx_mv, w1, optS]) (by simp) rfl (wp_nil ⟨_, rfl⟩)
  · obtain ⟨x3, rfl⟩ := hr
    rw [range_len, List.take_length]
    exact wp_ret _ (by simp only [e_var, e_kst, e_tup, e_lst, e_bin, e_cmp, e_idx, e_call, e_blt, es_nil, es_cons, v_and, v_or, v_not, v_neg, v_chain, v_rev, e_slc, e_isa, e_mth, s_nil, s_set, s_unp, s_ret, s_if, s_for, s_app, s_put, s_expr, s_rai, s_frz, frzR, Slot.frz, seq_nx, seq_rt, seq_no, seq_ex, seq_ite, bind_ite, fin_rt, fin_nx, fin_ex, fin_no, fin_ite, tr_bl, start, part1, ite_and, ite_or, List.getElem?_cons_zero, List.getElem?_cons_succ, List.set_cons_zero, List.set_cons_succ, List.length_cons, List.length_nil, Nat.reduceAdd, Nat.reduceLT, Nat.reduceSub, Nat.zero_add, if_true, if_false, Bool.false_eq_true, List.map_cons, List.map_nil, List.replicate, List.cons_append, List.nil_append, R.ok_bind, Bool.and_true, Bool.true_and, Bool.and_false, Bool.false_and, Bool.or_true, Bool.or_false, Bool.true_or, Bool.false_or, Bool.not_true, Bool.not_false, fresh, isMut, isaD, mthOk]) rfl
theorem r_law_scope (hT : TrOk 4 [] T) (hp : partT T l = some (.mark n vs ks)) (hl : l.length ≤ 4) (m : Nat) : run prog (m + 2) .f_law_scope [enc T, adD l] = .ok (scD (wiT [] T l)) := by
  obtain ⟨n0, vs0, ks0, e0⟩ := part_take l T _ 0 hp ⟨_, _, _, rfl⟩
  rw [List.take_zero] at e0
  cases e0
  have m0 := mok_at (l := []) hT rfl
  refine run_is rfl fun t ht => ?_
  show Wp _ b_law_scope _ _ _
  unfold b_law_scope
  have w0 : run prog (m + 1) .f_law_laid [.dct [] [], .tup (vs0.map pr)] = .ok (scD (wiT [] (.mark n0 vs0 ks0) [])) := by
    rw [wiT]; exact r_laid m [] vs0 (by have := m0.len; unfold LIM; simp; omega) _ rfl
  refine wp_setN (scD (wiT [] (.mark n0 vs0 ks0) [])) (by simp only [e_var, e_kst, e_tup, e_lst, e_bin, e_cmp, e_idx, e_call, e_blt, es_nil, es_cons, v_and, v_or, v_not, v_neg, v_chain, v_rev, e_slc, e_isa, e_mth, s_nil, s_set, s_unp, s_ret, s_if, s_for, s_app, s_put, s_expr, s_rai, s_frz, frzR, Slot.frz, seq_nx, seq_rt, seq_no, seq_ex, seq_ite, bind_ite, fin_rt, fin_nx, fin_ex, fin_no, fin_ite, tr_bl, start, part1, ite_and, ite_or, List.getElem?_cons_zero, List.getElem?_cons_succ, List.set_cons_zero, List.set_cons_succ, List.length_cons, List.length_nil, Nat.reduceAdd, Nat.reduceLT, Nat.reduceSub, Nat.zero_add, if_true, if_false, Bool.false_eq_true, List.map_cons, List.map_nil, List.replicate, List.cons_append, List.nil_append, R.ok_bind, Bool.and_true, Bool.true_and, Bool.and_false, Bool.false_and, Bool.or_true, Bool.or_false, Bool.true_or, Bool.false_or, Bool.not_true, Bool.not_false, fresh, isMut, isaD, mthOk, prog, e_dnew, idx_mv, ht, w0]) (by simp [start, prog]) rfl ?_
  have hst : (start (prog .f_law_scope).ns [enc (.mark n0 vs0 ks0), adD l]).set 2 (.val (scD (wiT [] (.mark n0 vs0 ks0) []))) = [.val (enc (.mark n0 vs0 ks0)), .val (adD l), .val (scD (wiT [] (.mark n0 vs0 ks0) [])), .un] := by simp [start, prog]
  rw [hst]
  have src := src_range2 (a := 1) (b := l.length + 1) (by omega) (by omega)
  rw [show l.length + 1 - 1 = l.length by omega] at src
  have c1 : ((1 : Nat) : Int) = 1 := rfl
  have c2 : ((l.length + 1 : Nat) : Int) = (l.length : Int) + 1 := by omega
  rw [c1, c2] at src
  refine wp_for [.int 1, .int ((l.length : Int) + 1)] (rangeD 1 l.length) (fun i r => ∃ x3, r = [.val (enc (.mark n0 vs0 ks0)), .val (adD l), .val (scD (wiT [] (.mark n0 vs0 ks0) (l.take i))), x3]) (by simp only [e_var, e_kst, e_tup, e_lst, e_bin, e_cmp, e_idx, e_call, e_blt, es_nil, es_cons, v_and, v_or, v_not, v_neg, v_chain, v_rev, e_slc, e_isa, e_mth, s_nil, s_set, s_unp, s_ret, s_if, s_for, s_app, s_put, s_expr, s_rai, s_frz, frzR, Slot.frz, seq_nx, seq_rt, seq_no, seq_ex, seq_ite, bind_ite, fin_rt, fin_nx, fin_ex, fin_no, fin_ite, tr_bl, start, part1, ite_and, ite_or, List.getElem?_cons_zero, List.getElem?_cons_succ, List.set_cons_zero, List.set_cons_succ, List.length_cons, List.length_nil, Nat.reduceAdd, Nat.reduceLT, Nat.reduceSub, Nat.zero_add, if_true, if_false, Bool.false_eq_true, List.map_cons, List.map_nil, List.replicate, List.cons_append, List.nil_append, R.ok_bind, Bool.and_true, Bool.true_and, Bool.and_false, Bool.false_and, Bool.or_true, Bool.or_false, Bool.true_or, Bool.false_or, Bool.not_true, Bool.not_false, fresh, isMut, isaD, mthOk, ad_lenN, addD]) src ⟨_, by rw [List.take_zero]⟩ (fun i x r hx hr => ?_) (fun r hr => ?_)
  · obtain ⟨hx, hi⟩ := range_get _ _ _ _ hx
    subst hx
    obtain ⟨x3, rfl⟩ := hr
    obtain ⟨n', vs', ks', e1, e2⟩ := wi_step hp hi
    have mi := mok_at hT e1
    have hsl : (wiT [] (.mark n0 vs0 ks0) (l.take i)).length ≤ 4 := by
      obtain ⟨a1, a2, a3, a4⟩ := part_take l (.mark n0 vs0 ks0) _ i hp ⟨_, _, _, rfl⟩
      exact (mok_at hT a4).sc.len
    have w1 := r_laid m (wiT [] (.mark n0 vs0 ks0) (l.take i)) vs' (by have := mi.len; unfold LIM; omega) (.tup (vs'.map pr)) rfl
    rw [e2] at w1
    have a1 := law_N m e1
    refine ⟨_, asg_nm (by simp), ?_⟩
    have ci : (1 : Int) + (i : Int) = ((i + 1 : Nat) : Int) := by omega
    refine wp_setN (scD (wiT [] (.mark n0 vs0 ks0) (l.take (i + 1)))) (by simp only [e_var, e_kst, e_tup, e_lst, e_bin, e_cmp, e_idx, e_call, e_blt, es_nil, es_cons, v_and, v_or, v_not, v_neg, v_chain, v_rev, e_slc, e_isa, e_mth, s_nil, s_set, s_unp, s_ret, s_if, s_for, s_app, s_put, s_expr, s_rai, s_frz, frzR, Slot.frz, seq_nx, seq_rt, seq_no, seq_ex, seq_ite, bind_ite, fin_rt, fin_nx, fin_ex, fin_no, fin_ite, tr_bl, start, part1, ite_and, ite_or, List.getElem?_cons_zero, List.getElem?_cons_succ, List.set_cons_zero, List.set_cons_succ, List.length_cons, List.length_nil, Nat.reduceAdd, Nat.reduceLT, Nat.reduceSub, Nat.zero_add, if_true, if_false, Bool.false_eq_true, List.map_cons, List.map_nil, List.replicate, List.cons_append, List.nil_append, R.ok_bind, Bool.and_true, Bool.true_and, Bool.and_false, Bool.false_and, Bool.or_true, Bool.or_false, Bool.true_or, Bool.false_or, Bool.not_true, Bool.not_false, fresh, isMut, isaD, mthOk, ci, slc_adN, ht, a1, idx_mv, w1]) (by simp) rfl (wp_nil ⟨_, rfl⟩)
  · obtain ⟨x3, rfl⟩ := hr
    rw [range_len, List.take_length]
    exact wp_ret _ (by simp only [e_var, e_kst, e_tup, e_lst, e_bin, e_cmp, e_idx, e_call, e_blt, es_nil, es_cons, v_and, v_or, v_not, v_neg, v_chain, v_rev, e_slc, e_isa, e_mth, s_nil, s_set, s_unp, s_ret, s_if, s_for, s_app, s_put, s_expr, s_rai, s_frz, frzR, Slot.frz, seq_nx, seq_rt, seq_no, seq_ex, seq_ite, bind_ite, fin_rt, fin_nx, fin_ex, fin_no, fin_ite, tr_bl, start, part1, ite_and, ite_or, List.getElem?_cons_zero, List.getElem?_cons_succ, List.set_cons_zero, List.set_cons_succ, List.length_cons, List.length_nil, Nat.reduceAdd, Nat.reduceLT, Nat.reduceSub, Nat.zero_add, if_true, if_false, Bool.false_eq_true, List.map_cons, List.map_nil, List.replicate, List.cons_append, List.nil_append, R.ok_bind, Bool.and_true, Bool.true_and, Bool.and_false, Bool.false_and, Bool.or_true, Bool.or_false, Bool.true_or, Bool.false_or, Bool.not_true, Bool.not_false, fresh, isMut, isaD, mthOk]) rfl
end
end Mk
end
section
set_option linter.all false
set_option maxRecDepth 100000
set_option maxHeartbeats 4000000
namespace Mk
theorem nd_look : ∀ {sc : Sc} {p : List Nat × List Nat}, (sc.map (·.1)).Nodup → p ∈ sc → lookS p.1 sc = some p.2
  | q :: r, p, h, hp => by
    rw [List.map_cons, List.nodup_cons] at h
    rw [lookS]
    rcases List.mem_cons.mp hp with rfl | hp
    · rw [if_pos rfl]
    · rw [if_neg (fun e : q.1 = p.1 => h.1 (by rw [e]; exact List.mem_map.mpr ⟨p, hp, rfl⟩))]
      exact nd_look h.2 hp
theorem look_nd {sc sc' : Sc} (h : sc.Perm sc') (hn : (sc.map (·.1)).Nodup) (k : List Nat) : lookS k sc = lookS k sc' := by
  have hn' : (sc'.map (·.1)).Nodup := (h.map _).nodup_iff.mp hn
  cases e : lookS k sc with
  | some v =>
    have := nd_look hn' (h.mem_iff.mp (lookS_some e))
    exact this.symm
  | none =>
    cases e' : lookS k sc' with
    | none => rfl
    | some v =>
      have := nd_look hn (h.mem_iff.mpr (lookS_some e'))
      rw [show lookS k sc = some v from this] at e; cases e
theorem look_no {k : List Nat} : ∀ {sc : Sc}, k ∉ sc.map (·.1) → lookS k sc = none
  | [], _ => rfl
  | p :: r, h => by
    rw [List.map_cons, List.mem_cons, not_or] at h
    rw [lookS, if_neg (fun e => h.1 e.symm)]
    exact look_no h.2
theorem dict_goL : ∀ (r acc : Sc), ((acc ++ r).map (·.1)).Nodup → dictOf (acc.map (·.1)) (acc.map fun p => .str p.2) (r.map pr) = some (scD (acc ++ r))
  | [], acc, _ => by rw [List.append_nil]; rfl
  | p :: r, acc, h => by
    have hp : p.1 ∉ acc.map (·.1) := by
      rw [List.map_append, List.map_cons] at h
      have := (List.nodup_append.mp h).2.2
      exact fun hm => this _ hm _ List.mem_cons_self rfl
    rw [List.map_cons]
    show dictOf _ _ (.tup [.str p.1, .str p.2] :: _) = _
    rw [dictOf, look_sc, look_no hp]
    simp only [Option.map_none, Option.isSome_none, Bool.false_eq_true, if_false]
    have := dict_goL r (acc ++ [p]) (by rw [List.append_assoc]; exact h)
    rw [List.map_append, List.map_append, List.append_assoc] at this
    exact this
theorem dictL {vs : Sc} (h : (vs.map (·.1)).Nodup) : bltD .dict [.lst (vs.map pr)] = .ok (scD vs) := by
  have := dict_goL vs [] h
  simp only [bltD]
  rw [show ([] : List (List Nat)) = ([] : Sc).map (·.1) from rfl, show ([] : List D) = ([] : Sc).map (fun p => D.str p.2) from rfl, this]; rfl
theorem dictT {vs : Sc} (h : (vs.map (·.1)).Nodup) : bltD .dict [.tup (vs.map pr)] = .ok (scD vs) := by
  have := dict_goL vs [] h
  simp only [bltD]
  rw [show ([] : List (List Nat)) = ([] : Sc).map (·.1) from rfl, show ([] : List D) = ([] : Sc).map (fun p => D.str p.2) from rfl, this]; rfl
def shownS (sc : Sc) : Sc := sc.filter fun p => !(p.1 == []) || !(p.2 == [])
theorem shown_nd {sc : Sc} (h : (sc.map (·.1)).Nodup) : ((shownS sc).map (·.1)).Nodup := List.Nodup.sublist (List.filter_sublist.map _) h
theorem src_keysS (sc : Sc) : srcD .keys [scD sc] = .ok (sc.map fun p => .str p.1) := by
  unfold scD
  simp only [srcD, List.map_map]
  rfl
/-- the pairs shown -/
theorem pairs_lc {t : Tb Fn} {r : List Slot} {i j : Nat} {s : Slot} {sc : Sc} (h : (sc.map (·.1)).Nodup) (hi : i < r.length) (hij : j ≠ i) (hj : r[j]? = some s) (hs : s = .val (scD sc) ∨ s = .own (scD sc)) :
    lcL (lcB t (.nm i) r [(.or (.cmp .ne (.var i) (.kst (.str []))) (.cmp .ne (.idx (.var j) (.var i)) (.kst (.str []))))] (.tup [(.var i), (.idx (.var j) (.var i))])) (sc.map fun p => .str p.1) = .ok ((shownS sc).map pr) := by
  refine lcL_imF _ fun p hp => ?_
  have e1 : (r.set i (Slot.val (.str p.1)))[i]? = some (.val (.str p.1)) := List.getElem?_set_self hi
  have e2 : ev t (.var j : E Fn) true (r.set i (Slot.val (.str p.1))) = .ok (scD sc) := by
    rw [e_var, List.getElem?_set_ne (fun z => hij z.symm), hj]
    rcases hs with rfl | rfl <;> rfl
  refine lcB_1 (asg_nm hi) ?_ fun _ => ?_
  · simp only [v_or, e_cmp, e_idx, e_kst, e2, R.ok_bind, idx_sc (nd_look h hp), ne_str, tr_bl, ite_or]
    simp only [e_var, e1, R.ok_bind, if_true, idx_sc (nd_look h hp), ne_str, tr_bl, ite_or]
  · simp only [e_tup, es_cons, es_nil, e_idx, e2, R.ok_bind]
    simp only [e_var, e1, R.ok_bind, idx_sc (nd_look h hp)]
    rfl
theorem r_shown (m : Nat) {sc : Sc} (h : (sc.map (·.1)).Nodup) : run prog (m + 1) .f_shown [scD sc] = .ok (scD (shownS sc)) := by
  refine run_sx rfl fun t ht => ?_
  simp only [prog, b_shown]
  have e := pairs_lc (t := t) (r := [Slot.val (scD sc), .un]) (i := 1) (j := 0) h (by simp) (by simp) rfl (.inl rfl)
  simp only [e_var, e_kst, e_tup, e_lst, e_bin, e_cmp, e_idx, e_call, e_blt, es_nil, es_cons, v_and, v_or, v_not, v_neg, v_chain, v_rev, e_slc, e_isa, e_mth, s_nil, s_set, s_unp, s_ret, s_if, s_for, s_app, s_put, s_expr, s_rai, s_frz, frzR, Slot.frz, seq_nx, seq_rt, seq_no, seq_ex, seq_ite, bind_ite, fin_rt, fin_nx, fin_ex, fin_no, fin_ite, tr_bl, start, part1, ite_and, ite_or, List.getElem?_cons_zero, List.getElem?_cons_succ, List.set_cons_zero, List.set_cons_succ, List.length_cons, List.length_nil, Nat.reduceAdd, Nat.reduceLT, Nat.reduceSub, Nat.zero_add, if_true, if_false, Bool.false_eq_true, List.map_cons, List.map_nil, List.replicate, List.cons_append, List.nil_append, R.ok_bind, Bool.and_true, Bool.true_and, Bool.and_false, Bool.false_and, Bool.or_true, Bool.or_false, Bool.true_or, Bool.false_or, Bool.not_true, Bool.not_false, fresh, isMut, isaD, mthOk, e_lc, src_keysS, e, dictL (shown_nd h)]
theorem insL_pm (x : List (List Nat)) : ∀ l, (insL x l).Perm (x :: l)
  | [] => .refl _
  | y :: r => by
    rw [insL]
    split
    · exact .refl _
    · exact ((insL_pm x r).cons y).trans (.swap x y r)
theorem sortL_pm : ∀ l, (sortL l).Perm l
  | [] => .refl _
  | x :: r => by rw [sortL]; exact (insL_pm x (sortL r)).trans ((sortL_pm r).cons x)
def unP : List (List Nat) → List Nat × List Nat
  | [a, b] => (a, b)
  | _ => ([], [])
def rise (s : Sc) : Sc := (sortL (s.map fun p => [p.1, p.2])).map unP
theorem rise_pm (s : Sc) : (rise s).Perm s := by
  have := (sortL_pm (s.map fun p => [p.1, p.2])).map unP
  rw [List.map_map] at this
  have e : (unP ∘ fun p : List Nat × List Nat => [p.1, p.2]) = id := rfl
  rw [e, List.map_id] at this
  exact this
theorem rise_un (s : Sc) : (sortL (s.map fun p => [p.1, p.2])).map unF = (rise s).map pr := by
  unfold rise
  rw [List.map_map]
  refine List.map_congr_left fun x hx => ?_
  obtain ⟨p, _, rfl⟩ := List.mem_map.mp ((sortL_pm _).mem_iff.mp hx)
  rfl
theorem rows_sc : ∀ s : Sc, rowsD (s.map (·.1)) (s.map fun p => D.str p.2) = some (s.map fun p => [p.1, p.2])
  | [] => rfl
  | p :: r => by simp only [List.map_cons, rowsD, rows_sc r]; rfl
theorem sitems_sc (s : Sc) : bltD .sitems [scD s] = .ok (.lst ((rise s).map pr)) := by
  unfold scD
  simp only [bltD, rows_sc]
  rw [rise_un]
theorem sorted_pr (s : Sc) : bltD .sorted [.lst (s.map pr)] = .ok (.lst ((rise s).map pr)) := by
  cases s with
  | nil => rfl
  | cons p r =>
    simp only [bltD, txts_pr, keys_pr]
    rw [rise_un]
theorem tuple_lst (x : List D) : bltD .tuple [.lst x] = .ok (.tup x) := Eq.trans (Eq.refl _) (Eq.refl _)
theorem get_non (k : List Nat) (sc : Sc) : mthD .get (scD sc) [.str k, .non] = .ok (optD (lookS k sc)) := by
  unfold scD; simp only [mthD, look_sc]; cases lookS k sc <;> rfl
section
variable {T : Tr} {l n : List Nat} {vs : Sc} {ks : List Tr}
theorem mark_N (m : Nat) (hp : partT T l = some (.mark n vs ks)) : run prog (m + 3) .f_mark_at [enc T, adD l] = .ok (enc (.mark n vs ks)) := r_mark_at m T l n vs ks hp
theorem r_spaces_at (hT : TrOk 4 [] T) (hp : partT T l = some (.mark n vs ks)) (hl : l.length ≤ 4) (m : Nat) : run prog (m + 5) .f_spaces_at [enc T, adD l] = .ok (.tup ((rise (shownS (wiT [] T l))).map pr)) := by
  have mk := mok_at hT hp
  have w1 := mark_N (m + 1) hp
  have w2 := r_scope_at hT hp hl m
  have w3 := r_shown (m + 3) mk.sc.nd
  refine run_sx rfl fun t ht => ?_
  simp only [prog, b_spaces_at]
  simp only [e_var, e_kst, e_tup, e_lst, e_bin, e_cmp, e_idx, e_call, e_blt, es_nil, es_cons, v_and, v_or, v_not, v_neg, v_chain, v_rev, e_slc, e_isa, e_mth, s_nil, s_set, s_unp, s_ret, s_if, s_for, s_app, s_put, s_expr, s_rai, s_frz, frzR, Slot.frz, seq_nx, seq_rt, seq_no, seq_ex, seq_ite, bind_ite, fin_rt, fin_nx, fin_ex, fin_no, fin_ite, tr_bl, start, part1, ite_and, ite_or, List.getElem?_cons_zero, List.getElem?_cons_succ, List.set_cons_zero, List.set_cons_succ, List.length_cons, List.length_nil, Nat.reduceAdd, Nat.reduceLT, Nat.reduceSub, Nat.zero_add, if_true, if_false, Bool.false_eq_true, List.map_cons, List.map_nil, List.replicate, List.cons_append, List.nil_append, R.ok_bind, Bool.and_true, Bool.true_and, Bool.and_false, Bool.false_and, Bool.or_true, Bool.or_false, Bool.true_or, Bool.false_or, Bool.not_true, Bool.not_false, fresh, isMut, isaD, mthOk, ht, w1, w2, w3, sitems_sc, tuple_lst]
theorem r_space_at (hT : TrOk 4 [] T) (hp : partT T l = some (.mark n vs ks)) (hl : l.length ≤ 4) (m : Nat) (k : List Nat) : run prog (m + 5) .f_space_at [enc T, adD l, .str k] = .ok (optD (lookS k (shownS (wiT [] T l)))) := by
  have mk := mok_at hT hp
  have w1 := mark_N (m + 1) hp
  have w2 := r_scope_at hT hp hl m
  have w3 := r_shown (m + 3) mk.sc.nd
  refine run_sx rfl fun t ht => ?_
  simp only [prog, b_space_at]
  simp only [e_var, e_kst, e_tup, e_lst, e_bin, e_cmp, e_idx, e_call, e_blt, es_nil, es_cons, v_and, v_or, v_not, v_neg, v_chain, v_rev, e_slc, e_isa, e_mth, s_nil, s_set, s_unp, s_ret, s_if, s_for, s_app, s_put, s_expr, s_rai, s_frz, frzR, Slot.frz, seq_nx, seq_rt, seq_no, seq_ex, seq_ite, bind_ite, fin_rt, fin_nx, fin_ex, fin_no, fin_ite, tr_bl, start, part1, ite_and, ite_or, List.getElem?_cons_zero, List.getElem?_cons_succ, List.set_cons_zero, List.set_cons_succ, List.length_cons, List.length_nil, Nat.reduceAdd, Nat.reduceLT, Nat.reduceSub, Nat.zero_add, if_true, if_false, Bool.false_eq_true, List.map_cons, List.map_nil, List.replicate, List.cons_append, List.nil_append, R.ok_bind, Bool.and_true, Bool.true_and, Bool.and_false, Bool.false_and, Bool.or_true, Bool.or_false, Bool.true_or, Bool.false_or, Bool.not_true, Bool.not_false, fresh, isMut, isaD, mthOk, ht, w1, w2, w3, get_non]
  exact if_pos rfl
theorem meantM_is {wi : Sc} {nm : List Nat} (h : ScOk wi) (hn : NmOk wi nm) : meantM wi nm = some (meantS wi nm true) := by
  obtain ⟨w, hw, e⟩ := hn
  unfold meantM meantS splitN
  rcases e with rfl | ⟨p, hp0, hpm, rfl⟩
  · rw [(name_of hw).2]; rfl
  · obtain ⟨x, hx, rfl⟩ := List.mem_map.mp hpm
    have hpw := pf_word (h.mem x hx).1 hp0
    rw [(name_of2 hpw hw).2]
    have h0 : (x.1 == []) = false := by simpa using hp0
    have hk : (x.1 == kS) = false := by
      have : ∀ y ∈ kPf, (y == kS) = false := by decide
      exact this _ (h.mem x hx).1
    obtain ⟨v, hv⟩ := lookS_in hpm
    simp only [h0, hk, Bool.false_eq_true, if_false, hv]
    rfl
theorem r_means (hT : TrOk 4 [] T) (hp : partT T l = some (.mark n vs ks)) (hl : l.length ≤ 4) (m : Nat) : run prog (m + 5) .f_means [enc T, adD l] = .ok (pr (meantS (wiT [] T l) n true)) := by
  have mk := mok_at hT hp
  have w1 := mark_N (m + 1) hp
  have w2 := r_scope_at hT hp hl m
  have w3 := r_meant_mark (m + 2) (wiT [] T l) n
  rw [meantM_is mk.sc mk.nm] at w3
  refine run_sx rfl fun t ht => ?_
  simp only [prog, b_means]
  simp only [e_var, e_kst, e_tup, e_lst, e_bin, e_cmp, e_idx, e_call, e_blt, es_nil, es_cons, v_and, v_or, v_not, v_neg, v_chain, v_rev, e_slc, e_isa, e_mth, s_nil, s_set, s_unp, s_ret, s_if, s_for, s_app, s_put, s_expr, s_rai, s_frz, frzR, Slot.frz, seq_nx, seq_rt, seq_no, seq_ex, seq_ite, bind_ite, fin_rt, fin_nx, fin_ex, fin_no, fin_ite, tr_bl, start, part1, ite_and, ite_or, List.getElem?_cons_zero, List.getElem?_cons_succ, List.set_cons_zero, List.set_cons_succ, List.length_cons, List.length_nil, Nat.reduceAdd, Nat.reduceLT, Nat.reduceSub, Nat.zero_add, if_true, if_false, Bool.false_eq_true, List.map_cons, List.map_nil, List.replicate, List.cons_append, List.nil_append, R.ok_bind, Bool.and_true, Bool.true_and, Bool.and_false, Bool.false_and, Bool.or_true, Bool.or_false, Bool.true_or, Bool.false_or, Bool.not_true, Bool.not_false, fresh, isMut, isaD, mthOk, ht, w1, w2, idx_mn, w3, optP]
theorem plain_mem {wi : Sc} {nm k : List Nat} {vs : Sc} (mk : MOk wi nm vs) : ((plainV vs).map (·.1)).any (· == k) = ((vs.map (·.1)).any (· == k) && !(k == kS || k.take 6 == kSC)) := by
  rw [Bool.eq_iff_iff, Bool.and_eq_true]
  simp only [List.any_eq_true, beq_iff_eq, Bool.not_eq_true']
  constructor
  · rintro ⟨y, hy, rfl⟩
    obtain ⟨p, hp, rfl⟩ := List.mem_map.mp hy
    obtain ⟨h1, h2⟩ := List.mem_filter.mp hp
    refine ⟨⟨p.1, List.mem_map.mpr ⟨p, h1, rfl⟩, rfl⟩, ?_⟩
    rw [plain_isLay (mk.each p h1).1, Bool.not_eq_true'] at h2
    exact h2
  · rintro ⟨⟨y, hy, rfl⟩, h2⟩
    obtain ⟨p, hp, rfl⟩ := List.mem_map.mp hy
    refine ⟨p.1, List.mem_map.mpr ⟨p, List.mem_filter.mpr ⟨hp, ?_⟩, rfl⟩, rfl⟩
    rw [plain_isLay (mk.each p hp).1, Bool.not_eq_true']
    exact h2
theorem r_value_means (hT : TrOk 4 [] T) (hp : partT T l = some (.mark n vs ks)) (hl : l.length ≤ 4) (m : Nat) (k : List Nat) : run prog (m + 5) .f_value_means [enc T, adD l, .str k] = if ((vs.map (·.1)).any (· == k) && !(k == kS || k.take 6 == kSC)) = true then .ok (pr (meantS (wiT [] T l) k false)) else .ex .noValue := by
  have mk := mok_at hT hp
  have w1 := mark_N (m + 1) hp
  have w2 := r_scope_at hT hp hl m
  have w3 := r_meant_value (m + 2) (wiT [] T l) k
  have w4 := r_plain_values (m + 1) vs (.tup (vs.map pr)) rfl
  have pm := plain_mem (k := k) mk
  refine run_sx rfl fun t ht => ?_
  simp only [prog, b_value_means]
  have e : lcL (lcB t (.nm 4) [Slot.val (enc T), .val (adD l), .val (.str k), .val (enc (.mark n vs ks)), .un] [] (.idx (.var 4) (.kst (.int 0)))) ((plainV vs).map pr) = .ok (((plainV vs).map (·.1)).map .str) := by
    rw [List.map_map]
    refine lcL_im _ fun p _ => lcB_0 (asg_nm (by simp)) ?_
    simp only [e_var, e_kst, e_tup, e_lst, e_bin, e_cmp, e_idx, e_call, e_blt, es_nil, es_cons, v_and, v_or, v_not, v_neg, v_chain, v_rev, e_slc, e_isa, e_mth, s_nil, s_set, s_unp, s_ret, s_if, s_for, s_app, s_put, s_expr, s_rai, s_frz, frzR, Slot.frz, seq_nx, seq_rt, seq_no, seq_ex, seq_ite, bind_ite, fin_rt, fin_nx, fin_ex, fin_no, fin_ite, tr_bl, start, part1, ite_and, ite_or, List.getElem?_cons_zero, List.getElem?_cons_succ, List.set_cons_zero, List.set_cons_succ, List.length_cons, List.length_nil, Nat.reduceAdd, Nat.reduceLT, Nat.reduceSub, Nat.zero_add, if_true, if_false, Bool.false_eq_true, List.map_cons, List.map_nil, List.replicate, List.cons_append, List.nil_append, R.ok_bind, Bool.and_true, Bool.true_and, Bool.and_false, Bool.false_and, Bool.or_true, Bool.or_false, Bool.true_or, Bool.false_or, Bool.not_true, Bool.not_false, fresh, isMut, isaD, mthOk, idx_pr0]
    rfl
  simp only [e_var, e_kst, e_tup, e_lst, e_bin, e_cmp, e_idx, e_call, e_blt, es_nil, es_cons, v_and, v_or, v_not, v_neg, v_chain, v_rev, e_slc, e_isa, e_mth, s_nil, s_set, s_unp, s_ret, s_if, s_for, s_app, s_put, s_expr, s_rai, s_frz, frzR, Slot.frz, seq_nx, seq_rt, seq_no, seq_ex, seq_ite, bind_ite, fin_rt, fin_nx, fin_ex, fin_no, fin_ite, tr_bl, start, part1, ite_and, ite_or, List.getElem?_cons_zero, List.getElem?_cons_succ, List.set_cons_zero, List.set_cons_succ, List.length_cons, List.length_nil, Nat.reduceAdd, Nat.reduceLT, Nat.reduceSub, Nat.zero_add, if_true, if_false, Bool.false_eq_true, List.map_cons, List.map_nil, List.replicate, List.cons_append, List.nil_append, R.ok_bind, Bool.and_true, Bool.true_and, Bool.and_false, Bool.false_and, Bool.or_true, Bool.or_false, Bool.true_or, Bool.false_or, Bool.not_true, Bool.not_false, fresh, isMut, isaD, mthOk, e_lc, ht, w1, idx_mv, w4, src_it_lst, e, notin_str, pm]
  cases hb : ((vs.map (·.1)).any (· == k) && !(k == kS || k.take 6 == kSC)) with
  | false => simp only [e_var, e_kst, e_tup, e_lst, e_bin, e_cmp, e_idx, e_call, e_blt, es_nil, es_cons, v_and, v_or, v_not, v_neg, v_chain, v_rev, e_slc, e_isa, e_mth, s_nil, s_set, s_unp, s_ret, s_if, s_for, s_app, s_put, s_expr, s_rai, s_frz, frzR, Slot.frz, seq_nx, seq_rt, seq_no, seq_ex, seq_ite, bind_ite, fin_rt, fin_nx, fin_ex, fin_no, fin_ite, tr_bl, start, part1, ite_and, ite_or, List.getElem?_cons_zero, List.getElem?_cons_succ, List.set_cons_zero, List.set_cons_succ, List.length_cons, List.length_nil, Nat.reduceAdd, Nat.reduceLT, Nat.reduceSub, Nat.zero_add, if_true, if_false, Bool.false_eq_true, List.map_cons, List.map_nil, List.replicate, List.cons_append, List.nil_append, R.ok_bind, Bool.and_true, Bool.true_and, Bool.and_false, Bool.false_and, Bool.or_true, Bool.or_false, Bool.true_or, Bool.false_or, Bool.not_true, Bool.not_false, fresh, isMut, isaD, mthOk]
  | true =>
    rw [Bool.and_eq_true, Bool.not_eq_true'] at hb
    obtain ⟨h1, h2⟩ := hb
    rw [List.any_eq_true] at h1
    obtain ⟨y, hy, hyk⟩ := h1
    rw [beq_iff_eq] at hyk
    subst hyk
    obtain ⟨p, hpm, rfl⟩ := List.mem_map.mp hy
    have hnm := (mk.each p hpm).2 h2
    rw [meantV_S (mk.each p hpm).1, (nm_name mk.sc hnm).2.1] at w3
    simp only [e_var, e_kst, e_tup, e_lst, e_bin, e_cmp, e_idx, e_call, e_blt, es_nil, es_cons, v_and, v_or, v_not, v_neg, v_chain, v_rev, e_slc, e_isa, e_mth, s_nil, s_set, s_unp, s_ret, s_if, s_for, s_app, s_put, s_expr, s_rai, s_frz, frzR, Slot.frz, seq_nx, seq_rt, seq_no, seq_ex, seq_ite, bind_ite, fin_rt, fin_nx, fin_ex, fin_no, fin_ite, tr_bl, start, part1, ite_and, ite_or, List.getElem?_cons_zero, List.getElem?_cons_succ, List.set_cons_zero, List.set_cons_succ, List.length_cons, List.length_nil, Nat.reduceAdd, Nat.reduceLT, Nat.reduceSub, Nat.zero_add, if_true, if_false, Bool.false_eq_true, List.map_cons, List.map_nil, List.replicate, List.cons_append, List.nil_append, R.ok_bind, Bool.and_true, Bool.true_and, Bool.and_false, Bool.false_and, Bool.or_true, Bool.or_false, Bool.true_or, Bool.false_or, Bool.not_true, Bool.not_false, fresh, isMut, isaD, mthOk, w2, w3, optP, ht]
end
end Mk
end
section
set_option linter.all false
set_option maxRecDepth 100000
set_option maxHeartbeats 4000000
namespace Mk
def dR (i : Int) : D := .tup [.str kRefused, .int i]
def dT (d : D) : D := .tup [.str kTold, d]
theorem kRef_lit : ([114, 101, 102, 117, 115, 101, 100] : List Nat) = kRefused := rfl
theorem kTold_lit : ([116, 111, 108, 100] : List Nat) = kTold := rfl
theorem ne_same {d : D} (h : fl d 60 = true) : cmpD .ne d d = .ok (.bl false) := neA h
theorem fl_prs (s : Sc) : fl (dT (.tup (s.map pr))) 60 = true := by
  unfold dT
  rw [fl]
  simp only [fls, fl, Bool.and_true, Bool.true_and]
  exact fls_pr 57 s
theorem fl_opt (o : Option (List Nat)) : fl (dT (optD o)) 60 = true := by cases o <;> rfl
theorem fl_dpr (p : List Nat × List Nat) : fl (dT (pr p)) 60 = true := rfl
theorem fl_dR (i : Int) : fl (dR i) 60 = true := rfl
theorem r_lays_space (m : Nat) (k : List Nat) : run prog (m + 1) .f_law_lays_space [.str k] = .ok (.bl (k == kS || k.take 6 == kSC)) := by
  refine run_sx rfl fun t ht => ?_
  simp only [prog, b_law_lays_space]
  simp only [e_var, e_kst, e_tup, e_lst, e_bin, e_cmp, e_idx, e_call, e_blt, es_nil, es_cons, v_and, v_or, v_not, v_neg, v_chain, v_rev, e_slc, e_isa, e_mth, s_nil, s_set, s_unp, s_ret, s_if, s_for, s_app, s_put, s_expr, s_rai, s_frz, frzR, Slot.frz, seq_nx, seq_rt, seq_no, seq_ex, seq_ite, bind_ite, fin_rt, fin_nx, fin_ex, fin_no, fin_ite, tr_bl, start, part1, ite_and, ite_or, List.getElem?_cons_zero, List.getElem?_cons_succ, List.set_cons_zero, List.set_cons_succ, List.length_cons, List.length_nil, Nat.reduceAdd, Nat.reduceLT, Nat.reduceSub, Nat.zero_add, if_true, if_false, Bool.false_eq_true, List.map_cons, List.map_nil, List.replicate, List.cons_append, List.nil_append, R.ok_bind, Bool.and_true, Bool.true_and, Bool.and_false, Bool.false_and, Bool.or_true, Bool.or_false, Bool.true_or, Bool.false_or, Bool.not_true, Bool.not_false, fresh, isMut, isaD, mthOk, eq_str, slc6, kS_lit, kSC_lit]
theorem e_var5 {t : Tb Fn} {r : List Slot} {i : Nat} {s : Slot} {d : D} (hr : r[i]? = some s) (hs : s = .val d ∨ s = .own d) : ev t (.var i : E Fn) true r = .ok d := by
  rw [e_var, hr]
  rcases hs with rfl | rfl <;> rfl
def kNm5 : List (List Nat) := [[97], [112, 58, 97], [115, 112, 97, 99, 101], [115, 112, 97, 99, 101, 58, 112], [122, 122]]
def kPf6 : List (List Nat) := [[], [112], [113], [112, 112], [114], [115, 112, 97, 99, 101]]
abbrev inBody : List (S Fn) := match b_law with
  | [_, .forr _ _ _ body, _] => body
  | _ => []
/-- the law at one address, behind what stands there -/
theorem law_one {t : Tb Fn} (ht : t.c = run prog 59) (ht2 : t.c2 = run prog 57) {T : Tr} {ad : D} {b : Bool} {sc vs : Sc} {n : List Nat} {x0 x7 x8 x9 x10 s3 s5 s6 : Slot} (hsc : (sc.map (·.1)).Nodup) (hvl : vs.length ≤ 5)
    (h5 : s5 = .val (scD sc) ∨ s5 = .own (scD sc)) (h5b : b = true → s5 = .val (scD sc)) (h6 : s6 = .val (scD vs) ∨ s6 = .own (scD vs))
    (h3 : b = true → ∃ ks, s3 = .val (enc (.mark n vs ks)))
    (hmk : b = true → MOk sc n vs)
    (hS : run prog 57 .f_spaces_at [enc T, ad] = if b = true then .ok (.tup ((rise (shownS sc)).map pr)) else .ex .noPart)
    (hP : ∀ k, run prog 57 .f_space_at [enc T, ad, .str k] = if b = true then .ok (optD (lookS k (shownS sc))) else .ex .noPart)
    (hM : run prog 57 .f_means [enc T, ad] = if b = true then .ok (pr (meantS sc n true)) else .ex .noPart)
    (hV : ∀ k, run prog 57 .f_value_means [enc T, ad, .str k] = if b = true then (if ((vs.map (·.1)).any (· == k) && !(k == kS || k.take 6 == kSC)) = true then .ok (pr (meantS sc k false)) else .ex .noValue) else .ex .noPart) :
    Wp t (inBody.drop 5) [x0, .val (enc T), .val ad, s3, .val (.bl b), s5, s6, x7, x8, x9, x10] (fun r => ∃ y2 y3 y4 y5 y6 y7 y8 y9 y10, r = [x0, .val (enc T), y2, y3, y4, y5, y6, y7, y8, y9, y10]) (fun d => d = .bl true) := by
  simp only [inBody, b_law, List.drop]
  have e5 : ∀ r : List Slot, r[5]? = some s5 → ev t (.var 5 : E Fn) true r = .ok (scD sc) := fun r hr => e_var5 hr h5
  have e6 : ∀ r : List Slot, r[6]? = some s6 → ev t (.var 6 : E Fn) true r = .ok (scD vs) := fun r hr => e_var5 hr h6
  refine wp_setV (.tup ((rise (shownS sc)).map pr)) ?_ (by simp) rfl ?_
  · simp only [e_blt, es_cons, es_nil, e_lc]
    rw [e5 _ rfl]
    simp only [R.ok_bind, src_keysS]
    rw [pairs_lc hsc (by simp) (by simp) rfl h5]
    simp only [R.ok_bind, sorted_pr, tuple_lst]
  simp only [List.set_cons_succ, List.set_cons_zero]
  refine wp_setN (if b = true then dT (.tup ((rise (shownS sc)).map pr)) else dR 1) ?_ (by simp) rfl ?_
  · simp only [e_var, e_kst, e_tup, e_lst, e_bin, e_cmp, e_idx, e_call, e_blt, es_nil, es_cons, v_and, v_or, v_not, v_neg, v_chain, v_rev, e_slc, e_isa, e_mth, s_nil, s_set, s_unp, s_ret, s_if, s_for, s_app, s_put, s_expr, s_rai, s_frz, frzR, Slot.frz, seq_nx, seq_rt, seq_no, seq_ex, seq_ite, bind_ite, fin_rt, fin_nx, fin_ex, fin_no, fin_ite, tr_bl, start, part1, ite_and, ite_or, List.getElem?_cons_zero, List.getElem?_cons_succ, List.set_cons_zero, List.set_cons_succ, List.length_cons, List.length_nil, Nat.reduceAdd, Nat.reduceLT, Nat.reduceSub, Nat.zero_add, if_true, if_false, Bool.false_eq_true, List.map_cons, List.map_nil, List.replicate, List.cons_append, List.nil_append, R.ok_bind, Bool.and_true, Bool.true_and, Bool.and_false, Bool.false_and, Bool.or_true, Bool.or_false, Bool.true_or, Bool.false_or, Bool.not_true, Bool.not_false, fresh, isMut, isaD, mthOk, kRef_lit, kTold_lit, bltD]
    cases b with
    | true => simp only [if_true, idx_l1]; rfl
    | false => simp only [Bool.false_eq_true, if_false, idx_l0]; rfl
  simp only [List.set_cons_succ, List.set_cons_zero]
  refine wp_if0 false ?_ (fun h => by cases h) (fun _ => ?_)
  · simp only [e_cmp, e_told, es_cons, es_nil, e_var, List.getElem?_cons_succ, List.getElem?_cons_zero, R.ok_bind, if_true, ht2, hS]
    cases b with
    | true => exact ne_same (fl_prs _)
    | false => exact ne_same (fl_dR 1)
  -- spaces
  have hrn : ((rise (shownS sc)).map (·.1)).Nodup := ((rise_pm (shownS sc)).map _).nodup_iff.mpr (shown_nd hsc)
  refine wp_for [.tup (kPf6.map .str)] (kPf6.map .str) (fun i r => ∃ y8 y9, r = [x0, .val (enc T), .val ad, s3, .val (.bl b), s5, s6, .val (.tup ((rise (shownS sc)).map pr)), y8, y9, x10]) (by simp only [e_var, e_kst, e_tup, e_lst, e_bin, e_cmp, e_idx, e_call, e_blt, es_nil, es_cons, v_and, v_or, v_not, v_neg, v_chain, v_rev, e_slc, e_isa, e_mth, s_nil, s_set, s_unp, s_ret, s_if, s_for, s_app, s_put, s_expr, s_rai, s_frz, frzR, Slot.frz, seq_nx, seq_rt, seq_no, seq_ex, seq_ite, bind_ite, fin_rt, fin_nx, fin_ex, fin_no, fin_ite, tr_bl, start, part1, ite_and, ite_or, List.getElem?_cons_zero, List.getElem?_cons_succ, List.set_cons_zero, List.set_cons_succ, List.length_cons, List.length_nil, Nat.reduceAdd, Nat.reduceLT, Nat.reduceSub, Nat.zero_add, if_true, if_false, Bool.false_eq_true, List.map_cons, List.map_nil, List.replicate, List.cons_append, List.nil_append, R.ok_bind, Bool.and_true, Bool.true_and, Bool.and_false, Bool.false_and, Bool.or_true, Bool.or_false, Bool.true_or, Bool.false_or, Bool.not_true, Bool.not_false, fresh, isMut, isaD, mthOk]; rfl) rfl ⟨_, _, rfl⟩ (fun i x r hx hr => ?_) (fun r hr => ?_)
  · obtain ⟨y8, y9, rfl⟩ := hr
    rw [List.getElem?_map] at hx
    cases hk : kPf6[i]? with
    | none => rw [hk] at hx; cases hx
    | some k =>
      rw [hk] at hx
      cases hx
      refine ⟨_, asg_nm (by simp), ?_⟩
      simp only [List.set_cons_succ, List.set_cons_zero]
      have hget : lookS k (rise (shownS sc)) = lookS k (shownS sc) := look_nd (rise_pm _) hrn k
      refine wp_setN (if b = true then dT (optD (lookS k (shownS sc))) else dR 1) ?_ (by simp) rfl ?_
      · simp only [e_idx, e_lst, e_tup, e_kst, e_mth, e_blt, es_cons, es_nil, e_var, R.ok_bind, List.getElem?_cons_succ, List.getElem?_cons_zero, if_true, dictT hrn, ok_get, get_non, hget, kRef_lit, kTold_lit]
        cases b with
        | true => simp only [bltD, if_true, R.ok_bind, idx_l1]; rfl
        | false => simp only [bltD, Bool.false_eq_true, if_false, R.ok_bind, idx_l0]; rfl
      simp only [List.set_cons_succ, List.set_cons_zero]
      refine wp_if0 false ?_ (fun h => by cases h) (fun _ => wp_nil ⟨_, _, rfl⟩)
      simp only [e_cmp, e_told, es_cons, es_nil, e_var, List.getElem?_cons_succ, List.getElem?_cons_zero, R.ok_bind, if_true, ht2, hP]
      cases b with
      | true => exact ne_same (fl_opt _)
      | false => exact ne_same (fl_dR 1)
  obtain ⟨y8, y9, rfl⟩ := hr
  -- names
  refine wp_setN (dR 1) (by simp only [e_var, e_kst, e_tup, e_lst, e_bin, e_cmp, e_idx, e_call, e_blt, es_nil, es_cons, v_and, v_or, v_not, v_neg, v_chain, v_rev, e_slc, e_isa, e_mth, s_nil, s_set, s_unp, s_ret, s_if, s_for, s_app, s_put, s_expr, s_rai, s_frz, frzR, Slot.frz, seq_nx, seq_rt, seq_no, seq_ex, seq_ite, bind_ite, fin_rt, fin_nx, fin_ex, fin_no, fin_ite, tr_bl, start, part1, ite_and, ite_or, List.getElem?_cons_zero, List.getElem?_cons_succ, List.set_cons_zero, List.set_cons_succ, List.length_cons, List.length_nil, Nat.reduceAdd, Nat.reduceLT, Nat.reduceSub, Nat.zero_add, if_true, if_false, Bool.false_eq_true, List.map_cons, List.map_nil, List.replicate, List.cons_append, List.nil_append, R.ok_bind, Bool.and_true, Bool.true_and, Bool.and_false, Bool.false_and, Bool.or_true, Bool.or_false, Bool.true_or, Bool.false_or, Bool.not_true, Bool.not_false, fresh, isMut, isaD, mthOk, kRef_lit]; rfl) (by simp) rfl ?_
  simp only [List.set_cons_succ, List.set_cons_zero]
  refine Wp_cutA (fun r => r = [x0, .val (enc T), .val ad, s3, .val (.bl b), s5, s6, .val (.tup ((rise (shownS sc)).map pr)), .val (if b = true then dT (pr (meantS sc n true)) else dR 1), y9, x10]) ?_ (fun r hr => ?_)
  · refine wp_if0 b (by simp only [e_var, e_kst, e_tup, e_lst, e_bin, e_cmp, e_idx, e_call, e_blt, es_nil, es_cons, v_and, v_or, v_not, v_neg, v_chain, v_rev, e_slc, e_isa, e_mth, s_nil, s_set, s_unp, s_ret, s_if, s_for, s_app, s_put, s_expr, s_rai, s_frz, frzR, Slot.frz, seq_nx, seq_rt, seq_no, seq_ex, seq_ite, bind_ite, fin_rt, fin_nx, fin_ex, fin_no, fin_ite, tr_bl, start, part1, ite_and, ite_or, List.getElem?_cons_zero, List.getElem?_cons_succ, List.set_cons_zero, List.set_cons_succ, List.length_cons, List.length_nil, Nat.reduceAdd, Nat.reduceLT, Nat.reduceSub, Nat.zero_add, if_true, if_false, Bool.false_eq_true, List.map_cons, List.map_nil, List.replicate, List.cons_append, List.nil_append, R.ok_bind, Bool.and_true, Bool.true_and, Bool.and_false, Bool.false_and, Bool.or_true, Bool.or_false, Bool.true_or, Bool.false_or, Bool.not_true, Bool.not_false, fresh, isMut, isaD, mthOk]) (fun hb => ?_) (fun hb => wp_nil (by rw [hb]; rfl))
    subst hb
    obtain ⟨ks, rfl⟩ := h3 rfl
    obtain rfl := h5b rfl
    have mk := hmk rfl
    have w := r_law_meant 58 sc n true (nm_name mk.sc mk.nm).2.1
    refine wp_setN (dT (pr (meantS sc n true))) (by simp only [e_var, e_kst, e_tup, e_lst, e_bin, e_cmp, e_idx, e_call, e_blt, es_nil, es_cons, v_and, v_or, v_not, v_neg, v_chain, v_rev, e_slc, e_isa, e_mth, s_nil, s_set, s_unp, s_ret, s_if, s_for, s_app, s_put, s_expr, s_rai, s_frz, frzR, Slot.frz, seq_nx, seq_rt, seq_no, seq_ex, seq_ite, bind_ite, fin_rt, fin_nx, fin_ex, fin_no, fin_ite, tr_bl, start, part1, ite_and, ite_or, List.getElem?_cons_zero, List.getElem?_cons_succ, List.set_cons_zero, List.set_cons_succ, List.length_cons, List.length_nil, Nat.reduceAdd, Nat.reduceLT, Nat.reduceSub, Nat.zero_add, if_true, if_false, Bool.false_eq_true, List.map_cons, List.map_nil, List.replicate, List.cons_append, List.nil_append, R.ok_bind, Bool.and_true, Bool.true_and, Bool.and_false, Bool.false_and, Bool.or_true, Bool.or_false, Bool.true_or, Bool.false_or, Bool.not_true, Bool.not_false, fresh, isMut, isaD, mthOk, kTold_lit, idx_mn, ht, w]; rfl) (by simp) rfl (wp_nil (wp_nil rfl))
  subst hr
  refine wp_if0 false ?_ (fun h => by cases h) (fun _ => ?_)
  · simp only [e_cmp, e_told, es_cons, es_nil, e_var, List.getElem?_cons_succ, List.getElem?_cons_zero, R.ok_bind, if_true, ht2, hM]
    cases b with
    | true => exact ne_same (fl_dpr _)
    | false => exact ne_same (fl_dR 1)
  -- values
  have hsl : (sortS (vs.map (·.1))).length ≤ 5 := by rw [len_sortS, List.length_map]; exact hvl
  have hsort : bltD .sorted [scD vs] = .ok (.lst ((sortS (vs.map (·.1))).map .str)) := by
    unfold scD
    simp only [bltD, List.length_map]
    rw [if_pos (by omega)]
  refine wp_for [.lst ((sortS (vs.map (·.1)) ++ kNm5).map .str)] ((sortS (vs.map (·.1)) ++ kNm5).map .str) (fun i r => ∃ y8 y10, r = [x0, .val (enc T), .val ad, s3, .val (.bl b), s5, s6, .val (.tup ((rise (shownS sc)).map pr)), y8, y9, y10]) ?_ rfl ⟨_, _, rfl⟩ (fun i x r hx hr => ?_) (fun r hr => ?_)
  · simp only [es_cons, es_nil, e_bin, e_blt, e_lst, e_kst]
    rw [e6 _ rfl]
    simp only [R.ok_bind, hsort]
    rw [add_lst (by simp only [List.length_map, List.length_cons, List.length_nil]; unfold LIM; omega), List.map_append]
    rfl
  · obtain ⟨y8, y10, rfl⟩ := hr
    rw [List.getElem?_map] at hx
    cases hk : (sortS (vs.map (·.1)) ++ kNm5)[i]? with
    | none => rw [hk] at hx; cases hx
    | some k =>
      rw [hk] at hx
      cases hx
      refine ⟨_, asg_nm (by simp), ?_⟩
      simp only [List.set_cons_succ, List.set_cons_zero]
      refine wp_setN (dR 1) (by simp only [e_var, e_kst, e_tup, e_lst, e_bin, e_cmp, e_idx, e_call, e_blt, es_nil, es_cons, v_and, v_or, v_not, v_neg, v_chain, v_rev, e_slc, e_isa, e_mth, s_nil, s_set, s_unp, s_ret, s_if, s_for, s_app, s_put, s_expr, s_rai, s_frz, frzR, Slot.frz, seq_nx, seq_rt, seq_no, seq_ex, seq_ite, bind_ite, fin_rt, fin_nx, fin_ex, fin_no, fin_ite, tr_bl, start, part1, ite_and, ite_or, List.getElem?_cons_zero, List.getElem?_cons_succ, List.set_cons_zero, List.set_cons_succ, List.length_cons, List.length_nil, Nat.reduceAdd, Nat.reduceLT, Nat.reduceSub, Nat.zero_add, if_true, if_false, Bool.false_eq_true, List.map_cons, List.map_nil, List.replicate, List.cons_append, List.nil_append, R.ok_bind, Bool.and_true, Bool.true_and, Bool.and_false, Bool.false_and, Bool.or_true, Bool.or_false, Bool.true_or, Bool.false_or, Bool.not_true, Bool.not_false, fresh, isMut, isaD, mthOk, kRef_lit]; rfl) (by simp) rfl ?_
      simp only [List.set_cons_succ, List.set_cons_zero]
      refine Wp_cutA (fun r => r = [x0, .val (enc T), .val ad, s3, .val (.bl b), s5, s6, .val (.tup ((rise (shownS sc)).map pr)), .val (if b = true then (if ((vs.map (·.1)).any (· == k) && !(k == kS || k.take 6 == kSC)) = true then dT (pr (meantS sc k false)) else dR 2) else dR 1), y9, .val (.str k)]) ?_ (fun r hr => ?_)
      · refine wp_if0 b (by simp only [e_var, e_kst, e_tup, e_lst, e_bin, e_cmp, e_idx, e_call, e_blt, es_nil, es_cons, v_and, v_or, v_not, v_neg, v_chain, v_rev, e_slc, e_isa, e_mth, s_nil, s_set, s_unp, s_ret, s_if, s_for, s_app, s_put, s_expr, s_rai, s_frz, frzR, Slot.frz, seq_nx, seq_rt, seq_no, seq_ex, seq_ite, bind_ite, fin_rt, fin_nx, fin_ex, fin_no, fin_ite, tr_bl, start, part1, ite_and, ite_or, List.getElem?_cons_zero, List.getElem?_cons_succ, List.set_cons_zero, List.set_cons_succ, List.length_cons, List.length_nil, Nat.reduceAdd, Nat.reduceLT, Nat.reduceSub, Nat.zero_add, if_true, if_false, Bool.false_eq_true, List.map_cons, List.map_nil, List.replicate, List.cons_append, List.nil_append, R.ok_bind, Bool.and_true, Bool.true_and, Bool.and_false, Bool.false_and, Bool.or_true, Bool.or_false, Bool.true_or, Bool.false_or, Bool.not_true, Bool.not_false, fresh, isMut, isaD, mthOk]) (fun hb => ?_) (fun hb => wp_nil (by rw [hb]; rfl))
        subst hb
        obtain rfl := h5b rfl
        have mk := hmk rfl
        refine wp_setN (dR 2) (by simp only [e_var, e_kst, e_tup, e_lst, e_bin, e_cmp, e_idx, e_call, e_blt, es_nil, es_cons, v_and, v_or, v_not, v_neg, v_chain, v_rev, e_slc, e_isa, e_mth, s_nil, s_set, s_unp, s_ret, s_if, s_for, s_app, s_put, s_expr, s_rai, s_frz, frzR, Slot.frz, seq_nx, seq_rt, seq_no, seq_ex, seq_ite, bind_ite, fin_rt, fin_nx, fin_ex, fin_no, fin_ite, tr_bl, start, part1, ite_and, ite_or, List.getElem?_cons_zero, List.getElem?_cons_succ, List.set_cons_zero, List.set_cons_succ, List.length_cons, List.length_nil, Nat.reduceAdd, Nat.reduceLT, Nat.reduceSub, Nat.zero_add, if_true, if_false, Bool.false_eq_true, List.map_cons, List.map_nil, List.replicate, List.cons_append, List.nil_append, R.ok_bind, Bool.and_true, Bool.true_and, Bool.and_false, Bool.false_and, Bool.or_true, Bool.or_false, Bool.true_or, Bool.false_or, Bool.not_true, Bool.not_false, fresh, isMut, isaD, mthOk, kRef_lit]; rfl) (by simp) rfl ?_
        simp only [List.set_cons_succ, List.set_cons_zero]
        have hin : (lookS k vs).isSome = (vs.map (·.1)).any (· == k) := by
          cases h : (vs.map (·.1)).any (· == k) with
          | false =>
            have : k ∉ vs.map (·.1) := fun hm => by
              rw [List.any_eq_false] at h
              exact h _ hm (by simp)
            rw [look_no this]; rfl
          | true =>
            rw [List.any_eq_true] at h
            obtain ⟨y, hy, e⟩ := h
            rw [beq_iff_eq] at e
            subst e
            obtain ⟨w, hw⟩ := lookS_in hy
            rw [hw]; rfl
        refine wp_if0 ((vs.map (·.1)).any (· == k) && !(k == kS || k.take 6 == kSC)) ?_ (fun hb => ?_) (fun hb => wp_nil (wp_nil (by rw [hb]; rfl)))
        · simp only [v_and, v_not, e_cmp, e_call, es_cons, es_nil, ht, r_lays_space]
          rw [e6 _ rfl]
          simp only [e_var, e_kst, e_tup, e_lst, e_bin, e_cmp, e_idx, e_call, e_blt, es_nil, es_cons, v_and, v_or, v_not, v_neg, v_chain, v_rev, e_slc, e_isa, e_mth, s_nil, s_set, s_unp, s_ret, s_if, s_for, s_app, s_put, s_expr, s_rai, s_frz, frzR, Slot.frz, seq_nx, seq_rt, seq_no, seq_ex, seq_ite, bind_ite, fin_rt, fin_nx, fin_ex, fin_no, fin_ite, tr_bl, start, part1, ite_and, ite_or, List.getElem?_cons_zero, List.getElem?_cons_succ, List.set_cons_zero, List.set_cons_succ, List.length_cons, List.length_nil, Nat.reduceAdd, Nat.reduceLT, Nat.reduceSub, Nat.zero_add, if_true, if_false, Bool.false_eq_true, List.map_cons, List.map_nil, List.replicate, List.cons_append, List.nil_append, R.ok_bind, Bool.and_true, Bool.true_and, Bool.and_false, Bool.false_and, Bool.or_true, Bool.or_false, Bool.true_or, Bool.false_or, Bool.not_true, Bool.not_false, fresh, isMut, isaD, mthOk, isin_sc, hin, ht, r_lays_space]
        · rw [hb]
          rw [Bool.and_eq_true, Bool.not_eq_true', List.any_eq_true] at hb
          obtain ⟨⟨y, hy, hyk⟩, h2⟩ := hb
          rw [beq_iff_eq] at hyk
          subst hyk
          obtain ⟨p, hpm, rfl⟩ := List.mem_map.mp hy
          have w := r_law_meant 58 sc p.1 false (nm_name mk.sc ((mk.each p hpm).2 h2)).2.1
          refine wp_setN (dT (pr (meantS sc p.1 false))) (by simp only [e_var, e_kst, e_tup, e_lst, e_bin, e_cmp, e_idx, e_call, e_blt, es_nil, es_cons, v_and, v_or, v_not, v_neg, v_chain, v_rev, e_slc, e_isa, e_mth, s_nil, s_set, s_unp, s_ret, s_if, s_for, s_app, s_put, s_expr, s_rai, s_frz, frzR, Slot.frz, seq_nx, seq_rt, seq_no, seq_ex, seq_ite, bind_ite, fin_rt, fin_nx, fin_ex, fin_no, fin_ite, tr_bl, start, part1, ite_and, ite_or, List.getElem?_cons_zero, List.getElem?_cons_succ, List.set_cons_zero, List.set_cons_succ, List.length_cons, List.length_nil, Nat.reduceAdd, Nat.reduceLT, Nat.reduceSub, Nat.zero_add, if_true, if_false, Bool.false_eq_true, List.map_cons, List.map_nil, List.replicate, List.cons_append, List.nil_append, R.ok_bind, Bool.and_true, Bool.true_and, Bool.and_false, Bool.false_and, Bool.or_true, Bool.or_false, Bool.true_or, Bool.false_or, Bool.not_true, Bool.not_false, fresh, isMut, isaD, mthOk, kTold_lit, ht, w]; rfl) (by simp) rfl (wp_nil (wp_nil (wp_nil rfl)))
      subst hr
      refine wp_if0 false ?_ (fun h => by cases h) (fun _ => wp_nil ⟨_, _, rfl⟩)
      simp only [e_cmp, e_told, es_cons, es_nil, e_var, List.getElem?_cons_succ, List.getElem?_cons_zero, R.ok_bind, if_true, ht2, hV]
      cases b with
      | true =>
        simp only [if_true]
        split
        · exact ne_same (fl_dpr _)
        · exact ne_same (fl_dR 2)
      | false => exact ne_same (fl_dR 1)
  · obtain ⟨y8, y10, rfl⟩ := hr
    exact wp_nil ⟨_, _, _, _, _, _, _, _, _, rfl⟩
theorem no_two {t : Tr} {ad : List Int} (h : markI t ad = false) (m : Nat) (f : Fn) (as : List D) (hb : ∃ e ss, (prog f).body = e :: ss ∧ (e = .expr (.call .f_mark_at [(.var 0), (.var 1)]) ∨ ∃ i, e = .set i (.call .f_mark_at [(.var 0), (.var 1)]))) (hn : (enc t :: adI ad :: as).length = (prog f).np) : run prog (m + 4) f (enc t :: adI ad :: as) = .ex .noPart := by
  have w := r_mark_no m t ad h
  obtain ⟨e, ss, hb, he⟩ := hb
  refine run_sx hn fun tb htb => ?_
  rw [hb]
  have e0 : ev tb (.call .f_mark_at [(.var 0), (.var 1)]) false (start (prog f).ns (enc t :: adI ad :: as)) = .ex .noPart := by
    simp only [e_call, es_cons, es_nil, e_var, start, List.map_cons, List.cons_append, List.getElem?_cons_zero, List.getElem?_cons_succ, R.ok_bind, htb, w]
  rcases he with rfl | ⟨i, rfl⟩
  · rw [s_expr, e0]; rfl
  · rw [s_set, e0]; rfl
theorem plain (ns : List Int) (hns : ns.length ≤ 63) : run prog 60 .f_law [.scr ns] = .ok (.bl true) := by
  obtain ⟨v0, hv0, _⟩ := r_mixed 57 ns 0
  obtain ⟨T, hT, hok, hmk⟩ := r_tree 50 v0
  have hde := depth_of 4 [] T hok
  have hB := r_law_addresses 4 54 T hde (by omega)
  obtain ⟨L, hL⟩ : ∃ L, L = addrs T := ⟨_, rfl⟩
  rw [← hL] at hB
  have hlen : L.length ≤ 10000 := by rw [hL]; exact addrs_len 4 T hde
  obtain ⟨A, hAl⟩ : ∃ A : List (List Int), A = L.map ofN ++ [[9], [0, 9], [-1]] := ⟨_, rfl⟩
  have hLA : L.map adD = (L.map ofN).map adI := by rw [List.map_map]; exact List.map_congr_left fun a _ => adD_I a
  refine run_is2 (m := 57) rfl fun t ht ht2 => ?_
  show Wp _ b_law _ _ _
  have one := fun {ad : D} {b : Bool} {sc vs : Sc} {n : List Nat} {x7 x8 x9 x10 s3 s5 s6 : Slot} => law_one ht ht2 (T := T) (ad := ad) (b := b) (sc := sc) (vs := vs) (n := n) (x0 := .val (.scr ns)) (x7 := x7) (x8 := x8) (x9 := x9) (x10 := x10) (s3 := s3) (s5 := s5) (s6 := s6)
  simp only [inBody] at one
  unfold b_law at one ⊢
  simp only [List.drop] at one
  have hst : start (prog .f_law).ns [.scr ns] = [.val (.scr ns), .un, .un, .un, .un, .un, .un, .un, .un, .un, .un] := by simp [start, prog]
  rw [hst]
  have hv0 : run prog 59 .f_law_mixed [.scr ns, .int 0] = .ok (.int v0) := hv0
  refine wp_setN (enc T) (by simp only [e_var, e_kst, e_tup, e_lst, e_bin, e_cmp, e_idx, e_call, e_blt, es_nil, es_cons, v_and, v_or, v_not, v_neg, v_chain, v_rev, e_slc, e_isa, e_mth, s_nil, s_set, s_unp, s_ret, s_if, s_for, s_app, s_put, s_expr, s_rai, s_frz, frzR, Slot.frz, seq_nx, seq_rt, seq_no, seq_ex, seq_ite, bind_ite, fin_rt, fin_nx, fin_ex, fin_no, fin_ite, tr_bl, start, part1, ite_and, ite_or, List.getElem?_cons_zero, List.getElem?_cons_succ, List.set_cons_zero, List.set_cons_succ, List.length_cons, List.length_nil, Nat.reduceAdd, Nat.reduceLT, Nat.reduceSub, Nat.zero_add, if_true, if_false, Bool.false_eq_true, List.map_cons, List.map_nil, List.replicate, List.cons_append, List.nil_append, R.ok_bind, Bool.and_true, Bool.true_and, Bool.and_false, Bool.false_and, Bool.or_true, Bool.or_false, Bool.true_or, Bool.false_or, Bool.not_true, Bool.not_false, fresh, isMut, isaD, mthOk, ht, hv0, hT]) (by simp) rfl ?_
  simp only [List.set_cons_succ, List.set_cons_zero]
  refine wp_for [.lst (A.map adI)] (A.map adI) (fun i r => ∃ y2 y3 y4 y5 y6 y7 y8 y9 y10, r = [.val (.scr ns), .val (enc T), y2, y3, y4, y5, y6, y7, y8, y9, y10]) ?_ rfl ⟨_, _, _, _, _, _, _, _, _, rfl⟩ (fun i x r hx hr => ?_) (fun r hr => ?_)
  · simp only [e_var, e_kst, e_tup, e_lst, e_bin, e_cmp, e_idx, e_call, e_blt, es_nil, es_cons, v_and, v_or, v_not, v_neg, v_chain, v_rev, e_slc, e_isa, e_mth, s_nil, s_set, s_unp, s_ret, s_if, s_for, s_app, s_put, s_expr, s_rai, s_frz, frzR, Slot.frz, seq_nx, seq_rt, seq_no, seq_ex, seq_ite, bind_ite, fin_rt, fin_nx, fin_ex, fin_no, fin_ite, tr_bl, start, part1, ite_and, ite_or, List.getElem?_cons_zero, List.getElem?_cons_succ, List.set_cons_zero, List.set_cons_succ, List.length_cons, List.length_nil, Nat.reduceAdd, Nat.reduceLT, Nat.reduceSub, Nat.zero_add, if_true, if_false, Bool.false_eq_true, List.map_cons, List.map_nil, List.replicate, List.cons_append, List.nil_append, R.ok_bind, Bool.and_true, Bool.true_and, Bool.and_false, Bool.false_and, Bool.or_true, Bool.or_false, Bool.true_or, Bool.false_or, Bool.not_true, Bool.not_false, fresh, isMut, isaD, mthOk, ht, hB]
    rw [add_lst (by simp only [List.length_map, List.length_cons, List.length_nil]; unfold LIM; omega), hLA, hAl, List.map_append]
    rfl
  · obtain ⟨y2, y3, y4, y5, y6, y7, y8, y9, y10, rfl⟩ := hr
    rw [List.getElem?_map] at hx
    cases ha : A[i]? with
    | none => rw [ha] at hx; cases hx
    | some ad =>
      rw [ha] at hx
      cases hx
      have hat := r_law_at 58 T ad
      refine ⟨_, asg_nm (by simp), ?_⟩
      simp only [List.set_cons_succ, List.set_cons_zero]
      refine wp_setN (orNon (partI T ad)) (by simp only [e_var, e_kst, e_tup, e_lst, e_bin, e_cmp, e_idx, e_call, e_blt, es_nil, es_cons, v_and, v_or, v_not, v_neg, v_chain, v_rev, e_slc, e_isa, e_mth, s_nil, s_set, s_unp, s_ret, s_if, s_for, s_app, s_put, s_expr, s_rai, s_frz, frzR, Slot.frz, seq_nx, seq_rt, seq_no, seq_ex, seq_ite, bind_ite, fin_rt, fin_nx, fin_ex, fin_no, fin_ite, tr_bl, start, part1, ite_and, ite_or, List.getElem?_cons_zero, List.getElem?_cons_succ, List.set_cons_zero, List.set_cons_succ, List.length_cons, List.length_nil, Nat.reduceAdd, Nat.reduceLT, Nat.reduceSub, Nat.zero_add, if_true, if_false, Bool.false_eq_true, List.map_cons, List.map_nil, List.replicate, List.cons_append, List.nil_append, R.ok_bind, Bool.and_true, Bool.true_and, Bool.and_false, Bool.false_and, Bool.or_true, Bool.or_false, Bool.true_or, Bool.false_or, Bool.not_true, Bool.not_false, fresh, isMut, isaD, mthOk, ht, hat]) (by simp) rfl ?_
      simp only [List.set_cons_succ, List.set_cons_zero]
      refine wp_setN (.bl (markI T ad)) ?_ (by simp) rfl ?_
      · unfold markI
        cases hp : partI T ad with
        | none => rfl
        | some p =>
          have hnn : isNon (enc p) = false := by cases p <;> (rw [enc]; rfl)
          simp only [e_var, e_kst, e_tup, e_lst, e_bin, e_cmp, e_idx, e_call, e_blt, es_nil, es_cons, v_and, v_or, v_not, v_neg, v_chain, v_rev, e_slc, e_isa, e_mth, s_nil, s_set, s_unp, s_ret, s_if, s_for, s_app, s_put, s_expr, s_rai, s_frz, frzR, Slot.frz, seq_nx, seq_rt, seq_no, seq_ex, seq_ite, bind_ite, fin_rt, fin_nx, fin_ex, fin_no, fin_ite, tr_bl, start, part1, ite_and, ite_or, List.getElem?_cons_zero, List.getElem?_cons_succ, List.set_cons_zero, List.set_cons_succ, List.length_cons, List.length_nil, Nat.reduceAdd, Nat.reduceLT, Nat.reduceSub, Nat.zero_add, if_true, if_false, Bool.false_eq_true, List.map_cons, List.map_nil, List.replicate, List.cons_append, List.nil_append, R.ok_bind, Bool.and_true, Bool.true_and, Bool.and_false, Bool.false_and, Bool.or_true, Bool.or_false, Bool.true_or, Bool.false_or, Bool.not_true, Bool.not_false, fresh, isMut, isaD, mthOk, orNon, isnot_non, hnn, enc_0, eq_str, kMark_lit]
          cases p <;> rfl
      simp only [List.set_cons_succ, List.set_cons_zero]
      refine wp_setO (scD []) (by simp only [e_dnew]; rfl) (by simp) rfl rfl ?_
      refine wp_setO (scD []) (by simp only [e_dnew]; rfl) (by simp) rfl rfl ?_
      simp only [List.set_cons_succ, List.set_cons_zero]
      refine wp_if0 (markI T ad) (by simp only [e_var, e_kst, e_tup, e_lst, e_bin, e_cmp, e_idx, e_call, e_blt, es_nil, es_cons, v_and, v_or, v_not, v_neg, v_chain, v_rev, e_slc, e_isa, e_mth, s_nil, s_set, s_unp, s_ret, s_if, s_for, s_app, s_put, s_expr, s_rai, s_frz, frzR, Slot.frz, seq_nx, seq_rt, seq_no, seq_ex, seq_ite, bind_ite, fin_rt, fin_nx, fin_ex, fin_no, fin_ite, tr_bl, start, part1, ite_and, ite_or, List.getElem?_cons_zero, List.getElem?_cons_succ, List.set_cons_zero, List.set_cons_succ, List.length_cons, List.length_nil, Nat.reduceAdd, Nat.reduceLT, Nat.reduceSub, Nat.zero_add, if_true, if_false, Bool.false_eq_true, List.map_cons, List.map_nil, List.replicate, List.cons_append, List.nil_append, R.ok_bind, Bool.and_true, Bool.true_and, Bool.and_false, Bool.false_and, Bool.or_true, Bool.or_false, Bool.true_or, Bool.false_or, Bool.not_true, Bool.not_false, fresh, isMut, isaD, mthOk]) (fun hb => ?_) (fun hb => ?_)
      · -- a mark
        have hex : ∃ n vs ks l, ad = ofN l ∧ partT T l = some (.mark n vs ks) := by
          unfold markI at hb
          cases hp : partI T ad with
          | none => rw [hp] at hb; cases hb
          | some p =>
            rw [hp] at hb
            obtain ⟨l, e1, e2⟩ := partI_some ad T p hp
            cases p with
            | mark n vs ks => exact ⟨n, vs, ks, l, e1, e2⟩
            | text s => cases hb
            | rem s => cases hb
        obtain ⟨n, vs, ks, l, rfl, hp⟩ := hex
        have hll : l.length ≤ 4 := by
          have : l ∈ L ∨ ofN l ∈ ([[9], [0, 9], [-1]] : List (List Int)) := by
            have := List.mem_of_getElem? ha
            rw [hAl] at this
            rcases List.mem_append.mp this with h | h
            · obtain ⟨l', h1, h2⟩ := List.mem_map.mp h
              have : l' = l := by
                have inj : ∀ a b : List Nat, ofN a = ofN b → a = b := by
                  intro a
                  induction a with
                  | nil => intro b h; cases b with
                    | nil => rfl
                    | cons _ _ => cases h
                  | cons x a ih => intro b h; cases b with
                    | nil => cases h
                    | cons y b =>
                      simp only [ofN, List.map_cons, List.cons.injEq] at h
                      rw [ih b h.2]
                      congr 1
                      omega
                exact inj _ _ h2
              subst this
              exact .inl h1
            · exact .inr h
          rcases this with h | h
          · rw [hL] at h; exact addrs_short 4 T hde l h
          · have : l.length = (ofN l).length := by simp [ofN]
            rw [this]
            simp only [List.mem_cons, List.not_mem_nil, or_false] at h
            rcases h with h | h | h <;> (rw [h]; decide)
        have mk := mok_at hok hp
        rw [← adD_I]
        have w1 := r_law_scope hok hp hll 57
        rw [partI_N, hp]
        refine wp_setN (scD (wiT [] T l)) (by simp only [e_var, e_kst, e_tup, e_lst, e_bin, e_cmp, e_idx, e_call, e_blt, es_nil, es_cons, v_and, v_or, v_not, v_neg, v_chain, v_rev, e_slc, e_isa, e_mth, s_nil, s_set, s_unp, s_ret, s_if, s_for, s_app, s_put, s_expr, s_rai, s_frz, frzR, Slot.frz, seq_nx, seq_rt, seq_no, seq_ex, seq_ite, bind_ite, fin_rt, fin_nx, fin_ex, fin_no, fin_ite, tr_bl, start, part1, ite_and, ite_or, List.getElem?_cons_zero, List.getElem?_cons_succ, List.set_cons_zero, List.set_cons_succ, List.length_cons, List.length_nil, Nat.reduceAdd, Nat.reduceLT, Nat.reduceSub, Nat.zero_add, if_true, if_false, Bool.false_eq_true, List.map_cons, List.map_nil, List.replicate, List.cons_append, List.nil_append, R.ok_bind, Bool.and_true, Bool.true_and, Bool.and_false, Bool.false_and, Bool.or_true, Bool.or_false, Bool.true_or, Bool.false_or, Bool.not_true, Bool.not_false, fresh, isMut, isaD, mthOk, ht, w1]) (by simp) rfl ?_
        refine wp_setO (scD vs) (by simp only [e_var, e_kst, e_tup, e_lst, e_bin, e_cmp, e_idx, e_call, e_blt, es_nil, es_cons, v_and, v_or, v_not, v_neg, v_chain, v_rev, e_slc, e_isa, e_mth, s_nil, s_set, s_unp, s_ret, s_if, s_for, s_app, s_put, s_expr, s_rai, s_frz, frzR, Slot.frz, seq_nx, seq_rt, seq_no, seq_ex, seq_ite, bind_ite, fin_rt, fin_nx, fin_ex, fin_no, fin_ite, tr_bl, start, part1, ite_and, ite_or, List.getElem?_cons_zero, List.getElem?_cons_succ, List.set_cons_zero, List.set_cons_succ, List.length_cons, List.length_nil, Nat.reduceAdd, Nat.reduceLT, Nat.reduceSub, Nat.zero_add, if_true, if_false, Bool.false_eq_true, List.map_cons, List.map_nil, List.replicate, List.cons_append, List.nil_append, R.ok_bind, Bool.and_true, Bool.true_and, Bool.and_false, Bool.false_and, Bool.or_true, Bool.or_false, Bool.true_or, Bool.false_or, Bool.not_true, Bool.not_false, fresh, isMut, isaD, mthOk, orNon, idx_mv, dictT mk.nd]) (by simp) rfl rfl (wp_nil ?_)
        simp only [List.set_cons_succ, List.set_cons_zero]
        rw [adD_I, hb, ← adD_I]
        refine one (b := true) (sc := wiT [] T l) (vs := vs) (n := n) mk.sc.nd mk.len (.inl rfl) (fun _ => rfl) (.inr rfl) (fun _ => ⟨ks, rfl⟩) (fun _ => mk) ?_ (fun k => ?_) ?_ (fun k => ?_)
        · rw [if_pos rfl]; exact r_spaces_at hok hp hll 52
        · rw [if_pos rfl]; exact r_space_at hok hp hll 52 k
        · rw [if_pos rfl]; exact r_means hok hp hll 52
        · rw [if_pos rfl]; exact r_value_means hok hp hll 52 k
      · simp only [hb]
        refine one (b := false) (sc := []) (vs := []) (n := []) (by simp) (by simp) (.inr rfl) (fun h => by cases h) (.inr rfl) (fun h => by cases h) (fun h => by cases h) ?_ (fun k => ?_) ?_ (fun k => ?_)
        · exact no_two hb 53 .f_spaces_at [] ⟨_, _, rfl, .inl rfl⟩ rfl
        · exact no_two hb 53 .f_space_at [.str k] ⟨_, _, rfl, .inl rfl⟩ rfl
        · exact no_two hb 53 .f_means [] ⟨_, _, rfl, .inr ⟨_, rfl⟩⟩ rfl
        · exact no_two hb 53 .f_value_means [.str k] ⟨_, _, rfl, .inr ⟨_, rfl⟩⟩ rfl
  · obtain ⟨y2, y3, y4, y5, y6, y7, y8, y9, y10, rfl⟩ := hr
    exact wp_ret _ (by simp only [e_var, e_kst, e_tup, e_lst, e_bin, e_cmp, e_idx, e_call, e_blt, es_nil, es_cons, v_and, v_or, v_not, v_neg, v_chain, v_rev, e_slc, e_isa, e_mth, s_nil, s_set, s_unp, s_ret, s_if, s_for, s_app, s_put, s_expr, s_rai, s_frz, frzR, Slot.frz, seq_nx, seq_rt, seq_no, seq_ex, seq_ite, bind_ite, fin_rt, fin_nx, fin_ex, fin_no, fin_ite, tr_bl, start, part1, ite_and, ite_or, List.getElem?_cons_zero, List.getElem?_cons_succ, List.set_cons_zero, List.set_cons_succ, List.length_cons, List.length_nil, Nat.reduceAdd, Nat.reduceLT, Nat.reduceSub, Nat.zero_add, if_true, if_false, Bool.false_eq_true, List.map_cons, List.map_nil, List.replicate, List.cons_append, List.nil_append, R.ok_bind, Bool.and_true, Bool.true_and, Bool.and_false, Bool.false_and, Bool.or_true, Bool.or_false, Bool.true_or, Bool.false_or, Bool.not_true, Bool.not_false, fresh, isMut, isaD, mthOk]) rfl
end Mk
end
section
set_option Elab.async false
set_option linter.all false
set_option maxRecDepth 100000
set_option maxHeartbeats 4000000
namespace Mk
open PySem PySem.Spec PyProof.Rows L2
abbrev topS (i : Nat) : Stmt := PySem.Challenge.pw_marktrees_k20_spaces.main.body.getD i (.Pass ⟨0, 0, 0, 0⟩)
def nmOf : Fn → Str
  | .f_split_name => "split_name"
  | .f_lays_for => "lays_for"
  | .f_laid => "laid"
  | .f_meant_mark => "meant_mark"
  | .f_meant_value => "meant_value"
  | .f_plain_values => "plain_values"
  | .f_kids_of => "kids_of"
  | .f_part_at => "part_at"
  | .f_mark_at => "mark_at"
  | .f_scope_at => "scope_at"
  | .f_shown => "shown"
  | .f_space_at => "space_at"
  | .f_spaces_at => "spaces_at"
  | .f_means => "means"
  | .f_value_means => "value_means"
  | .f_law_cell_at => "_law_cell_at"
  | .f_law_mixed => "_law_mixed"
  | .f_law_drawn => "_law_drawn"
  | .f_law_signs => "_law_signs"
  | .f_law_text => "_law_text"
  | .f_law_word => "_law_word"
  | .f_law_space => "_law_space"
  | .f_law_meant => "_law_meant"
  | .f_law_laid => "_law_laid"
  | .f_law_lays => "_law_lays"
  | .f_law_name => "_law_name"
  | .f_law_mark => "_law_mark"
  | .f_law_tree => "_law_tree"
  | .f_law_addresses => "_law_addresses"
  | .f_law_at => "_law_at"
  | .f_law_scope => "_law_scope"
  | .f_law_lays_space => "_law_lays_space"
  | .f_law => "law"
def nOf : Fn → List Str
  | .f_split_name => ["name", "words"]
  | .f_lays_for => ["name", "prefix", "word"]
  | .f_laid => ["scope", "values", "found", "name", "text", "prefix"]
  | .f_meant_mark => ["scope", "name", "prefix", "word"]
  | .f_meant_value => ["scope", "name", "prefix", "word"]
  | .f_plain_values => ["values", "pair"]
  | .f_kids_of => ["part"]
  | .f_part_at => ["tree", "address", "number", "kids"]
  | .f_mark_at => ["tree", "address", "found"]
  | .f_scope_at => ["tree", "address", "scope", "many"]
  | .f_shown => ["scope", "prefix"]
  | .f_space_at => ["tree", "address", "prefix"]
  | .f_spaces_at => ["tree", "address"]
  | .f_means => ["tree", "address", "mark"]
  | .f_value_means => ["tree", "address", "name", "mark", "pair"]
  | .f_law_cell_at => ["script", "k"]
  | .f_law_mixed => ["script", "k", "drawn"]
  | .f_law_drawn => ["number", "k", "drawn"]
  | .f_law_signs => []
  | .f_law_text => ["number", "most", "signs", "some", "got", "k", "drawn", "from_all"]
  | .f_law_word => ["number", "letters", "some", "k"]
  | .f_law_space => ["number"]
  | .f_law_meant => ["scope", "name", "is_mark", "words"]
  | .f_law_laid => ["scope", "values", "got", "name", "text"]
  | .f_law_lays => ["number", "got", "k", "drawn", "prefix", "space", "name", "pair"]
  | .f_law_name => ["within", "number", "prefixes", "prefix", "word"]
  | .f_law_mark => ["number", "scope", "deep", "values", "within", "seen", "k", "kids", "drawn", "name", "meant", "kind", "at"]
  | .f_law_tree => ["number"]
  | .f_law_addresses => ["part", "got", "number", "kid", "address"]
  | .f_law_at => ["part", "address", "number"]
  | .f_law_scope => ["tree", "address", "got", "many"]
  | .f_law_lays_space => ["name"]
  | .f_law => ["script", "tree", "address", "part", "is_mark", "scope", "values", "rows", "due", "prefix", "name"]
def pOf : Fn → List Str
  | .f_split_name => ["name"]
  | .f_lays_for => ["name"]
  | .f_laid => ["scope", "values"]
  | .f_meant_mark => ["scope", "name"]
  | .f_meant_value => ["scope", "name"]
  | .f_plain_values => ["values"]
  | .f_kids_of => ["part"]
  | .f_part_at => ["tree", "address"]
  | .f_mark_at => ["tree", "address"]
  | .f_scope_at => ["tree", "address"]
  | .f_shown => ["scope"]
  | .f_space_at => ["tree", "address", "prefix"]
  | .f_spaces_at => ["tree", "address"]
  | .f_means => ["tree", "address"]
  | .f_value_means => ["tree", "address", "name"]
  | .f_law_cell_at => ["script", "k"]
  | .f_law_mixed => ["script", "k"]
  | .f_law_drawn => ["number", "k"]
  | .f_law_signs => []
  | .f_law_text => ["number", "most"]
  | .f_law_word => ["number"]
  | .f_law_space => ["number"]
  | .f_law_meant => ["scope", "name", "is_mark"]
  | .f_law_laid => ["scope", "values"]
  | .f_law_lays => ["number"]
  | .f_law_name => ["within", "number"]
  | .f_law_mark => ["number", "scope", "deep"]
  | .f_law_tree => ["number"]
  | .f_law_addresses => ["part"]
  | .f_law_at => ["part", "address"]
  | .f_law_scope => ["tree", "address"]
  | .f_law_lays_space => ["name"]
  | .f_law => ["script"]
def sOf : Fn → Stmt
  | .f_split_name => topS 10
  | .f_lays_for => topS 11
  | .f_laid => topS 13
  | .f_meant_mark => topS 14
  | .f_meant_value => topS 15
  | .f_plain_values => topS 16
  | .f_kids_of => topS 19
  | .f_part_at => topS 20
  | .f_mark_at => topS 21
  | .f_scope_at => topS 23
  | .f_shown => topS 24
  | .f_space_at => topS 25
  | .f_spaces_at => topS 26
  | .f_means => topS 27
  | .f_value_means => topS 28
  | .f_law_cell_at => topS 30
  | .f_law_mixed => topS 31
  | .f_law_drawn => topS 32
  | .f_law_signs => topS 33
  | .f_law_text => topS 34
  | .f_law_word => topS 35
  | .f_law_space => topS 36
  | .f_law_meant => topS 37
  | .f_law_laid => topS 38
  | .f_law_lays => topS 39
  | .f_law_name => topS 40
  | .f_law_mark => topS 41
  | .f_law_tree => topS 42
  | .f_law_addresses => topS 44
  | .f_law_at => topS 45
  | .f_law_scope => topS 46
  | .f_law_lays_space => topS 48
  | .f_law => topS 49
def glOf : List (Str × D) := [("COLON", .str [58]), ("MARK", .str [109, 97, 114, 107]), ("SPACE", .str [115, 112, 97, 99, 101])]
def noOf : List Str := ["dict", "enumerate", "int", "len", "min", "range", "sorted", "tuple"]
def fnTab : List (Str × Fn) := [(("split_name" : Str), Fn.f_split_name), (("lays_for" : Str), Fn.f_lays_for), (("laid" : Str), Fn.f_laid), (("meant_mark" : Str), Fn.f_meant_mark), (("meant_value" : Str), Fn.f_meant_value), (("plain_values" : Str), Fn.f_plain_values), (("kids_of" : Str), Fn.f_kids_of), (("part_at" : Str), Fn.f_part_at), (("mark_at" : Str), Fn.f_mark_at), (("scope_at" : Str), Fn.f_scope_at), (("shown" : Str), Fn.f_shown), (("space_at" : Str), Fn.f_space_at), (("spaces_at" : Str), Fn.f_spaces_at), (("means" : Str), Fn.f_means), (("value_means" : Str), Fn.f_value_means), (("_law_cell_at" : Str), Fn.f_law_cell_at), (("_law_mixed" : Str), Fn.f_law_mixed), (("_law_drawn" : Str), Fn.f_law_drawn), (("_law_signs" : Str), Fn.f_law_signs), (("_law_text" : Str), Fn.f_law_text), (("_law_word" : Str), Fn.f_law_word), (("_law_space" : Str), Fn.f_law_space), (("_law_meant" : Str), Fn.f_law_meant), (("_law_laid" : Str), Fn.f_law_laid), (("_law_lays" : Str), Fn.f_law_lays), (("_law_name" : Str), Fn.f_law_name), (("_law_mark" : Str), Fn.f_law_mark), (("_law_tree" : Str), Fn.f_law_tree), (("_law_addresses" : Str), Fn.f_law_addresses), (("_law_at" : Str), Fn.f_law_at), (("_law_scope" : Str), Fn.f_law_scope), (("_law_lays_space" : Str), Fn.f_law_lays_space), (("law" : Str), Fn.f_law)]
def tlOf : Fn → Bool
  | .f_law => true
  | _ => false
def pgm : Pg Fn := ⟨prog, nmOf, nOf, pOf, sOf, glOf, noOf, fun y => fnTab.lookup y, tlOf, exnAll⟩
end Mk
namespace Mk
open PySem PySem.Spec PyProof.Rows L2
theorem ok_split_name : pgm.ok1 .f_split_name = true := by decide +kernel
theorem ok_lays_for : pgm.ok1 .f_lays_for = true := by decide +kernel
theorem ok_laid : pgm.ok1 .f_laid = true := by decide +kernel
theorem ok_meant_mark : pgm.ok1 .f_meant_mark = true := by decide +kernel
theorem ok_meant_value : pgm.ok1 .f_meant_value = true := by decide +kernel
theorem ok_plain_values : pgm.ok1 .f_plain_values = true := by decide +kernel
theorem ok_kids_of : pgm.ok1 .f_kids_of = true := by decide +kernel
theorem ok_part_at : pgm.ok1 .f_part_at = true := by decide +kernel
theorem ok_mark_at : pgm.ok1 .f_mark_at = true := by decide +kernel
theorem ok_scope_at : pgm.ok1 .f_scope_at = true := by decide +kernel
theorem ok_shown : pgm.ok1 .f_shown = true := by decide +kernel
theorem ok_space_at : pgm.ok1 .f_space_at = true := by decide +kernel
theorem ok_spaces_at : pgm.ok1 .f_spaces_at = true := by decide +kernel
theorem ok_means : pgm.ok1 .f_means = true := by decide +kernel
theorem ok_value_means : pgm.ok1 .f_value_means = true := by decide +kernel
theorem ok_law_cell_at : pgm.ok1 .f_law_cell_at = true := by decide +kernel
theorem ok_law_mixed : pgm.ok1 .f_law_mixed = true := by decide +kernel
theorem ok_law_drawn : pgm.ok1 .f_law_drawn = true := by decide +kernel
theorem ok_law_signs : pgm.ok1 .f_law_signs = true := by decide +kernel
theorem ok_law_text : pgm.ok1 .f_law_text = true := by decide +kernel
theorem ok_law_word : pgm.ok1 .f_law_word = true := by decide +kernel
theorem ok_law_space : pgm.ok1 .f_law_space = true := by decide +kernel
theorem ok_law_meant : pgm.ok1 .f_law_meant = true := by decide +kernel
theorem ok_law_laid : pgm.ok1 .f_law_laid = true := by decide +kernel
theorem ok_law_lays : pgm.ok1 .f_law_lays = true := by decide +kernel
theorem ok_law_name : pgm.ok1 .f_law_name = true := by decide +kernel
theorem ok_law_mark : pgm.ok1 .f_law_mark = true := by decide +kernel
theorem ok_law_tree : pgm.ok1 .f_law_tree = true := by decide +kernel
theorem ok_law_addresses : pgm.ok1 .f_law_addresses = true := by decide +kernel
theorem ok_law_at : pgm.ok1 .f_law_at = true := by decide +kernel
theorem ok_law_scope : pgm.ok1 .f_law_scope = true := by decide +kernel
theorem ok_law_lays_space : pgm.ok1 .f_law_lays_space = true := by decide +kernel
theorem ok_law : pgm.ok1 .f_law = true := by decide +kernel
end Mk
end
set_option Elab.async false
set_option linter.all false
set_option maxRecDepth 100000
set_option maxHeartbeats 4000000
namespace Mk
open PySem PySem.Spec PyProof.Rows L2
theorem ok_all : ∀ k, pgm.ok1 k = true
  | .f_split_name => ok_split_name
  | .f_lays_for => ok_lays_for
  | .f_laid => ok_laid
  | .f_meant_mark => ok_meant_mark
  | .f_meant_value => ok_meant_value
  | .f_plain_values => ok_plain_values
  | .f_kids_of => ok_kids_of
  | .f_part_at => ok_part_at
  | .f_mark_at => ok_mark_at
  | .f_scope_at => ok_scope_at
  | .f_shown => ok_shown
  | .f_space_at => ok_space_at
  | .f_spaces_at => ok_spaces_at
  | .f_means => ok_means
  | .f_value_means => ok_value_means
  | .f_law_cell_at => ok_law_cell_at
  | .f_law_mixed => ok_law_mixed
  | .f_law_drawn => ok_law_drawn
  | .f_law_signs => ok_law_signs
  | .f_law_text => ok_law_text
  | .f_law_word => ok_law_word
  | .f_law_space => ok_law_space
  | .f_law_meant => ok_law_meant
  | .f_law_laid => ok_law_laid
  | .f_law_lays => ok_law_lays
  | .f_law_name => ok_law_name
  | .f_law_mark => ok_law_mark
  | .f_law_tree => ok_law_tree
  | .f_law_addresses => ok_law_addresses
  | .f_law_at => ok_law_at
  | .f_law_scope => ok_law_scope
  | .f_law_lays_space => ok_law_lays_space
  | .f_law => ok_law
theorem fn_nm : ∀ y k, pgm.fn y = some k → pgm.nm k = y := by
  intro y k h
  have h : fnTab.lookup y = some k := h
  have key : ∀ l : List (Str × Fn), (l.all fun q => decide (nmOf q.2 = q.1)) = true → l.lookup y = some k → nmOf k = y := by
    intro l
    induction l with
    | nil => intro _ h; cases h
    | cons a r ih =>
      intro ha hl
      rw [List.all_cons, Bool.and_eq_true] at ha
      rw [List.lookup_cons] at hl
      split at hl
      · rename_i e
        cases hl
        rw [of_decide_eq_true ha.1]
        exact (beq_iff_eq.mp e).symm
      · exact ih ha.2 hl
  exact key fnTab (by decide +kernel) h
theorem end_mk {l : PySem.W.OpenLaw} {w : World} {K : PySem.W.Frag} {q : Program} {loose : List Str} {mean : ExcName → Option Value} {mg mb : Str → Option Value} {h : Heap} {fa C0 C1 C2 C3 C4 M : Addr} {c_law p_law : Addr} (T : Top q loose mean mg mb h) (X : K.In h) (hfa : mg "law" = some (.ref fa))
    (d_split_name : DefAt K "split_name" (topS 10))
    (d_lays_for : DefAt K "lays_for" (topS 11))
    (d_laid : DefAt K "laid" (topS 13))
    (d_meant_mark : DefAt K "meant_mark" (topS 14))
    (d_meant_value : DefAt K "meant_value" (topS 15))
    (d_plain_values : DefAt K "plain_values" (topS 16))
    (d_kids_of : DefAt K "kids_of" (topS 19))
    (d_part_at : DefAt K "part_at" (topS 20))
    (d_mark_at : DefAt K "mark_at" (topS 21))
    (d_scope_at : DefAt K "scope_at" (topS 23))
    (d_shown : DefAt K "shown" (topS 24))
    (d_space_at : DefAt K "space_at" (topS 25))
    (d_spaces_at : DefAt K "spaces_at" (topS 26))
    (d_means : DefAt K "means" (topS 27))
    (d_value_means : DefAt K "value_means" (topS 28))
    (d_law_cell_at : DefAt K "_law_cell_at" (topS 30))
    (d_law_mixed : DefAt K "_law_mixed" (topS 31))
    (d_law_drawn : DefAt K "_law_drawn" (topS 32))
    (d_law_signs : DefAt K "_law_signs" (topS 33))
    (d_law_text : DefAt K "_law_text" (topS 34))
    (d_law_word : DefAt K "_law_word" (topS 35))
    (d_law_space : DefAt K "_law_space" (topS 36))
    (d_law_meant : DefAt K "_law_meant" (topS 37))
    (d_law_laid : DefAt K "_law_laid" (topS 38))
    (d_law_lays : DefAt K "_law_lays" (topS 39))
    (d_law_name : DefAt K "_law_name" (topS 40))
    (d_law_mark : DefAt K "_law_mark" (topS 41))
    (d_law_tree : DefAt K "_law_tree" (topS 42))
    (d_law_addresses : DefAt K "_law_addresses" (topS 44))
    (d_law_at : DefAt K "_law_at" (topS 45))
    (d_law_scope : DefAt K "_law_scope" (topS 46))
    (d_law_lays_space : DefAt K "_law_lays_space" (topS 48))
    (d_law : DefAt K "law" (topS 49))
    (g_COLON : KAt K "COLON" (.str [58]))
    (g_MARK : KAt K "MARK" (.str [109, 97, 114, 107]))
    (g_SPACE : KAt K "SPACE" (.str [115, 112, 97, 99, 101]))
    (z_dict : PySem.W.nsIn K mainGlobals "dict" = some none)
    (z_enumerate : PySem.W.nsIn K mainGlobals "enumerate" = some none)
    (z_int : PySem.W.nsIn K mainGlobals "int" = some none)
    (z_len : PySem.W.nsIn K mainGlobals "len" = some none)
    (z_min : PySem.W.nsIn K mainGlobals "min" = some none)
    (z_range : PySem.W.nsIn K mainGlobals "range" = some none)
    (z_sorted : PySem.W.nsIn K mainGlobals "sorted" = some none)
    (z_tuple : PySem.W.nsIn K mainGlobals "tuple" = some none)
    (tc : ToldC K C0 C1 C2 C3 C4 M) (d_told : DefAt K "_law_told" (topS 43))
    (l_law : LamF K q "law" c_law p_law)
    (nd : [p_law].Nodup)
    : LamX.LawAtS l w K (L2.CX l.prog w) 60 63 "script" mg fa h := by
  refine law_T (p := pgm) (kl := .f_law) (stT := topS 43) (lams := [("law", c_law, p_law)]) T X hfa rfl ok_all fn_nm ?defs ?bind ?gl ?no rfl tc d_told (by decide +kernel) (fun _ _ _ _ _ _ us hl => match us, hl with | [_], _ => rfl) ?lm ?lf nd (fun ns hl => plain ns hl)
  case defs =>
    intro k
    cases k
    · exact d_split_name
    · exact d_lays_for
    · exact d_laid
    · exact d_meant_mark
    · exact d_meant_value
    · exact d_plain_values
    · exact d_kids_of
    · exact d_part_at
    · exact d_mark_at
    · exact d_scope_at
    · exact d_shown
    · exact d_space_at
    · exact d_spaces_at
    · exact d_means
    · exact d_value_means
    · exact d_law_cell_at
    · exact d_law_mixed
    · exact d_law_drawn
    · exact d_law_signs
    · exact d_law_text
    · exact d_law_word
    · exact d_law_space
    · exact d_law_meant
    · exact d_law_laid
    · exact d_law_lays
    · exact d_law_name
    · exact d_law_mark
    · exact d_law_tree
    · exact d_law_addresses
    · exact d_law_at
    · exact d_law_scope
    · exact d_law_lays_space
    · exact d_law
  case bind =>
    intro k kV doc pm an cdv ct us hl
    cases k
    · match us, hl with | [_], _ => rfl
    · match us, hl with | [_], _ => rfl
    · match us, hl with | [_, _], _ => rfl
    · match us, hl with | [_, _], _ => rfl
    · match us, hl with | [_, _], _ => rfl
    · match us, hl with | [_], _ => rfl
    · match us, hl with | [_], _ => rfl
    · match us, hl with | [_, _], _ => rfl
    · match us, hl with | [_, _], _ => rfl
    · match us, hl with | [_, _], _ => rfl
    · match us, hl with | [_], _ => rfl
    · match us, hl with | [_, _, _], _ => rfl
    · match us, hl with | [_, _], _ => rfl
    · match us, hl with | [_, _], _ => rfl
    · match us, hl with | [_, _, _], _ => rfl
    · match us, hl with | [_, _], _ => rfl
    · match us, hl with | [_, _], _ => rfl
    · match us, hl with | [_, _], _ => rfl
    · match us, hl with | [], _ => rfl
    · match us, hl with | [_, _], _ => rfl
    · match us, hl with | [_], _ => rfl
    · match us, hl with | [_], _ => rfl
    · match us, hl with | [_, _, _], _ => rfl
    · match us, hl with | [_, _], _ => rfl
    · match us, hl with | [_], _ => rfl
    · match us, hl with | [_, _], _ => rfl
    · match us, hl with | [_, _, _], _ => rfl
    · match us, hl with | [_], _ => rfl
    · match us, hl with | [_], _ => rfl
    · match us, hl with | [_, _], _ => rfl
    · match us, hl with | [_, _], _ => rfl
    · match us, hl with | [_], _ => rfl
    · match us, hl with | [_], _ => rfl
  case gl =>
    intro y d hy
    have hy : glOf.lookup y = some d := hy
    unfold glOf at hy
    simp only [List.lookup_cons, List.lookup_nil] at hy
    repeat' split at hy
    · rename_i e; cases hy; rw [beq_iff_eq.mp e]; exact g_COLON
    · rename_i e; cases hy; rw [beq_iff_eq.mp e]; exact g_MARK
    · rename_i e; cases hy; rw [beq_iff_eq.mp e]; exact g_SPACE
    · cases hy
  case no =>
    intro y hy
    have hy : y ∈ noOf := by
      have hy : noOf.contains y = true := hy
      simpa using hy
    unfold noOf at hy
    simp only [List.mem_cons, List.not_mem_nil, or_false] at hy
    rcases hy with hy | hy | hy | hy | hy | hy | hy | hy
    · rw [hy]; exact z_dict
    · rw [hy]; exact z_enumerate
    · rw [hy]; exact z_int
    · rw [hy]; exact z_len
    · rw [hy]; exact z_min
    · rw [hy]; exact z_range
    · rw [hy]; exact z_sorted
    · rw [hy]; exact z_tuple
  case lm =>
    intro k hk
    cases k <;> first | (cases hk; done) | skip
    · exact ⟨c_law, p_law, by simp [pgm, nmOf]⟩
  case lf =>
    intro x hx
    simp only [List.mem_cons, List.not_mem_nil, or_false] at hx
    subst hx
    exact l_law
end Mk
open PySem PySem.W PyProof.Rows
set_option maxHeartbeats 0 in
theorem PySem.Challenge.cw_marktrees_k20_spaces_holds : PySem.Challenge.rw_marktrees_k20_spaces.Holds := by
  w_on; o_law; k_head; (case hw => w_witness2)
  k_fill
  refine Mk.walk_top (l := PySem.Challenge.rw_marktrees_k20_spaces) (n := 63) (k := 60) (x := "script") rfl (by decide) rfl ⟨rfl, by decide, by decide⟩ (fun w h Y => by first | exact PySem.W.km_in_of Y | exact PySem.W.kIn_of Y) ?F
  case F =>
    intro w mg mb fa h mean T KX hmg
    refine' Mk.end_mk T KX hmg ?d_split_name ?d_lays_for ?d_laid ?d_meant_mark ?d_meant_value ?d_plain_values ?d_kids_of ?d_part_at ?d_mark_at ?d_scope_at ?d_shown ?d_space_at ?d_spaces_at ?d_means ?d_value_means ?d_law_cell_at ?d_law_mixed ?d_law_drawn ?d_law_signs ?d_law_text ?d_law_word ?d_law_space ?d_law_meant ?d_law_laid ?d_law_lays ?d_law_name ?d_law_mark ?d_law_tree ?d_law_addresses ?d_law_at ?d_law_scope ?d_law_lays_space ?d_law ?g_COLON ?g_MARK ?g_SPACE ?z_dict ?z_enumerate ?z_int ?z_len ?z_min ?z_range ?z_sorted ?z_tuple ?tc ?d_told ?l_law ?nd
    (case d_split_name => (refine' Mk.defAt_mk ?a_d_split_name ?l_d_split_name ?c_d_split_name ?k_d_split_name; (case a_d_split_name => k_is); (case l_d_split_name => k_is); (case c_d_split_name => k_is); (case k_d_split_name => k_is)))
    (case d_lays_for => (refine' Mk.defAt_mk ?a_d_lays_for ?l_d_lays_for ?c_d_lays_for ?k_d_lays_for; (case a_d_lays_for => k_is); (case l_d_lays_for => k_is); (case c_d_lays_for => k_is); (case k_d_lays_for => k_is)))
    (case d_laid => (refine' Mk.defAt_mk ?a_d_laid ?l_d_laid ?c_d_laid ?k_d_laid; (case a_d_laid => k_is); (case l_d_laid => k_is); (case c_d_laid => k_is); (case k_d_laid => k_is)))
    (case d_meant_mark => (refine' Mk.defAt_mk ?a_d_meant_mark ?l_d_meant_mark ?c_d_meant_mark ?k_d_meant_mark; (case a_d_meant_mark => k_is); (case l_d_meant_mark => k_is); (case c_d_meant_mark => k_is); (case k_d_meant_mark => k_is)))
    (case d_meant_value => (refine' Mk.defAt_mk ?a_d_meant_value ?l_d_meant_value ?c_d_meant_value ?k_d_meant_value; (case a_d_meant_value => k_is); (case l_d_meant_value => k_is); (case c_d_meant_value => k_is); (case k_d_meant_value => k_is)))
    (case d_plain_values => (refine' Mk.defAt_mk ?a_d_plain_values ?l_d_plain_values ?c_d_plain_values ?k_d_plain_values; (case a_d_plain_values => k_is); (case l_d_plain_values => k_is); (case c_d_plain_values => k_is); (case k_d_plain_values => k_is)))
    (case d_kids_of => (refine' Mk.defAt_mk ?a_d_kids_of ?l_d_kids_of ?c_d_kids_of ?k_d_kids_of; (case a_d_kids_of => k_is); (case l_d_kids_of => k_is); (case c_d_kids_of => k_is); (case k_d_kids_of => k_is)))
    (case d_part_at => (refine' Mk.defAt_mk ?a_d_part_at ?l_d_part_at ?c_d_part_at ?k_d_part_at; (case a_d_part_at => k_is); (case l_d_part_at => k_is); (case c_d_part_at => k_is); (case k_d_part_at => k_is)))
    (case d_mark_at => (refine' Mk.defAt_mk ?a_d_mark_at ?l_d_mark_at ?c_d_mark_at ?k_d_mark_at; (case a_d_mark_at => k_is); (case l_d_mark_at => k_is); (case c_d_mark_at => k_is); (case k_d_mark_at => k_is)))
    (case d_scope_at => (refine' Mk.defAt_mk ?a_d_scope_at ?l_d_scope_at ?c_d_scope_at ?k_d_scope_at; (case a_d_scope_at => k_is); (case l_d_scope_at => k_is); (case c_d_scope_at => k_is); (case k_d_scope_at => k_is)))
    (case d_shown => (refine' Mk.defAt_mk ?a_d_shown ?l_d_shown ?c_d_shown ?k_d_shown; (case a_d_shown => k_is); (case l_d_shown => k_is); (case c_d_shown => k_is); (case k_d_shown => k_is)))
    (case d_space_at => (refine' Mk.defAt_mk ?a_d_space_at ?l_d_space_at ?c_d_space_at ?k_d_space_at; (case a_d_space_at => k_is); (case l_d_space_at => k_is); (case c_d_space_at => k_is); (case k_d_space_at => k_is)))
    (case d_spaces_at => (refine' Mk.defAt_mk ?a_d_spaces_at ?l_d_spaces_at ?c_d_spaces_at ?k_d_spaces_at; (case a_d_spaces_at => k_is); (case l_d_spaces_at => k_is); (case c_d_spaces_at => k_is); (case k_d_spaces_at => k_is)))
    (case d_means => (refine' Mk.defAt_mk ?a_d_means ?l_d_means ?c_d_means ?k_d_means; (case a_d_means => k_is); (case l_d_means => k_is); (case c_d_means => k_is); (case k_d_means => k_is)))
    (case d_value_means => (refine' Mk.defAt_mk ?a_d_value_means ?l_d_value_means ?c_d_value_means ?k_d_value_means; (case a_d_value_means => k_is); (case l_d_value_means => k_is); (case c_d_value_means => k_is); (case k_d_value_means => k_is)))
    (case d_law_cell_at => (refine' Mk.defAt_mk ?a_d_law_cell_at ?l_d_law_cell_at ?c_d_law_cell_at ?k_d_law_cell_at; (case a_d_law_cell_at => k_is); (case l_d_law_cell_at => k_is); (case c_d_law_cell_at => k_is); (case k_d_law_cell_at => k_is)))
    (case d_law_mixed => (refine' Mk.defAt_mk ?a_d_law_mixed ?l_d_law_mixed ?c_d_law_mixed ?k_d_law_mixed; (case a_d_law_mixed => k_is); (case l_d_law_mixed => k_is); (case c_d_law_mixed => k_is); (case k_d_law_mixed => k_is)))
    (case d_law_drawn => (refine' Mk.defAt_mk ?a_d_law_drawn ?l_d_law_drawn ?c_d_law_drawn ?k_d_law_drawn; (case a_d_law_drawn => k_is); (case l_d_law_drawn => k_is); (case c_d_law_drawn => k_is); (case k_d_law_drawn => k_is)))
    (case d_law_signs => (refine' Mk.defAt_mk ?a_d_law_signs ?l_d_law_signs ?c_d_law_signs ?k_d_law_signs; (case a_d_law_signs => k_is); (case l_d_law_signs => k_is); (case c_d_law_signs => k_is); (case k_d_law_signs => k_is)))
    (case d_law_text => (refine' Mk.defAt_mk ?a_d_law_text ?l_d_law_text ?c_d_law_text ?k_d_law_text; (case a_d_law_text => k_is); (case l_d_law_text => k_is); (case c_d_law_text => k_is); (case k_d_law_text => k_is)))
    (case d_law_word => (refine' Mk.defAt_mk ?a_d_law_word ?l_d_law_word ?c_d_law_word ?k_d_law_word; (case a_d_law_word => k_is); (case l_d_law_word => k_is); (case c_d_law_word => k_is); (case k_d_law_word => k_is)))
    (case d_law_space => (refine' Mk.defAt_mk ?a_d_law_space ?l_d_law_space ?c_d_law_space ?k_d_law_space; (case a_d_law_space => k_is); (case l_d_law_space => k_is); (case c_d_law_space => k_is); (case k_d_law_space => k_is)))
    (case d_law_meant => (refine' Mk.defAt_mk ?a_d_law_meant ?l_d_law_meant ?c_d_law_meant ?k_d_law_meant; (case a_d_law_meant => k_is); (case l_d_law_meant => k_is); (case c_d_law_meant => k_is); (case k_d_law_meant => k_is)))
    (case d_law_laid => (refine' Mk.defAt_mk ?a_d_law_laid ?l_d_law_laid ?c_d_law_laid ?k_d_law_laid; (case a_d_law_laid => k_is); (case l_d_law_laid => k_is); (case c_d_law_laid => k_is); (case k_d_law_laid => k_is)))
    (case d_law_lays => (refine' Mk.defAt_mk ?a_d_law_lays ?l_d_law_lays ?c_d_law_lays ?k_d_law_lays; (case a_d_law_lays => k_is); (case l_d_law_lays => k_is); (case c_d_law_lays => k_is); (case k_d_law_lays => k_is)))
    (case d_law_name => (refine' Mk.defAt_mk ?a_d_law_name ?l_d_law_name ?c_d_law_name ?k_d_law_name; (case a_d_law_name => k_is); (case l_d_law_name => k_is); (case c_d_law_name => k_is); (case k_d_law_name => k_is)))
    (case d_law_mark => (refine' Mk.defAt_mk ?a_d_law_mark ?l_d_law_mark ?c_d_law_mark ?k_d_law_mark; (case a_d_law_mark => k_is); (case l_d_law_mark => k_is); (case c_d_law_mark => k_is); (case k_d_law_mark => k_is)))
    (case d_law_tree => (refine' Mk.defAt_mk ?a_d_law_tree ?l_d_law_tree ?c_d_law_tree ?k_d_law_tree; (case a_d_law_tree => k_is); (case l_d_law_tree => k_is); (case c_d_law_tree => k_is); (case k_d_law_tree => k_is)))
    (case d_law_addresses => (refine' Mk.defAt_mk ?a_d_law_addresses ?l_d_law_addresses ?c_d_law_addresses ?k_d_law_addresses; (case a_d_law_addresses => k_is); (case l_d_law_addresses => k_is); (case c_d_law_addresses => k_is); (case k_d_law_addresses => k_is)))
    (case d_law_at => (refine' Mk.defAt_mk ?a_d_law_at ?l_d_law_at ?c_d_law_at ?k_d_law_at; (case a_d_law_at => k_is); (case l_d_law_at => k_is); (case c_d_law_at => k_is); (case k_d_law_at => k_is)))
    (case d_law_scope => (refine' Mk.defAt_mk ?a_d_law_scope ?l_d_law_scope ?c_d_law_scope ?k_d_law_scope; (case a_d_law_scope => k_is); (case l_d_law_scope => k_is); (case c_d_law_scope => k_is); (case k_d_law_scope => k_is)))
    (case d_law_lays_space => (refine' Mk.defAt_mk ?a_d_law_lays_space ?l_d_law_lays_space ?c_d_law_lays_space ?k_d_law_lays_space; (case a_d_law_lays_space => k_is); (case l_d_law_lays_space => k_is); (case c_d_law_lays_space => k_is); (case k_d_law_lays_space => k_is)))
    (case d_law => (refine' Mk.defAt_mk ?a_d_law ?l_d_law ?c_d_law ?k_d_law; (case a_d_law => k_is); (case l_d_law => k_is); (case c_d_law => k_is); (case k_d_law => k_is)))
    (case g_COLON => (refine' Mk.kAt_mk ?a_g_COLON ?h_g_COLON; (case a_g_COLON => k_is); (case h_g_COLON => decide +kernel)))
    (case g_MARK => (refine' Mk.kAt_mk ?a_g_MARK ?h_g_MARK; (case a_g_MARK => k_is); (case h_g_MARK => decide +kernel)))
    (case g_SPACE => (refine' Mk.kAt_mk ?a_g_SPACE ?h_g_SPACE; (case a_g_SPACE => k_is); (case h_g_SPACE => decide +kernel)))
    (case z_dict => k_is)
    (case z_enumerate => k_is)
    (case z_int => k_is)
    (case z_len => k_is)
    (case z_min => k_is)
    (case z_range => k_is)
    (case z_sorted => k_is)
    (case z_tuple => k_is)
    (case tc =>
      refine' ⟨?t_n0, ?t_n1, ?t_n2, ?t_n3, ?t_n4, ?t_nM, ?t_nI, ?t_nV, ?t_x0, ?t_x1, ?t_x2, ?t_x3, ?t_d4, ?t_t4, ?t_sM, ?t_dM, ?t_tM, ?t_m0, ?t_m1, ?t_m2, ?t_m3, ?t_s01, ?t_s02, ?t_s03, ?t_s04, ?t_s10, ?t_s12, ?t_s13, ?t_s14, ?t_s20, ?t_s21, ?t_s23, ?t_s24, ?t_s30, ?t_s31, ?t_s32, ?t_s34, ?t_cf, ?t_nd, ?t_e0, ?t_e1, ?t_e2, ?t_e3⟩
      (case t_n0 => k_is)
      (case t_n1 => k_is)
      (case t_n2 => k_is)
      (case t_n3 => k_is)
      (case t_n4 => k_is)
      (case t_nM => k_is)
      (case t_nI => k_is)
      (case t_nV => k_is)
      (case t_x0 => refine' ⟨?y0_x0, ?y1_x0, ?y2_x0, ?y3_x0, ?y4_x0, ?y5_x0, ?y6_x0, ?y7_x0, ?y8_x0⟩ <;> k_is)
      (case t_x1 => refine' ⟨?y0_x1, ?y1_x1, ?y2_x1, ?y3_x1, ?y4_x1, ?y5_x1, ?y6_x1, ?y7_x1, ?y8_x1⟩ <;> k_is)
      (case t_x2 => refine' ⟨?y0_x2, ?y1_x2, ?y2_x2, ?y3_x2, ?y4_x2, ?y5_x2, ?y6_x2, ?y7_x2, ?y8_x2⟩ <;> k_is)
      (case t_x3 => refine' ⟨?y0_x3, ?y1_x3, ?y2_x3, ?y3_x3, ?y4_x3, ?y5_x3, ?y6_x3, ?y7_x3, ?y8_x3⟩ <;> k_is)
      (case t_d4 => k_is)
      (case t_t4 => k_is)
      (case t_sM => k_is)
      (case t_dM => k_is)
      (case t_tM => k_is)
      (case t_m0 => k_is)
      (case t_m1 => k_is)
      (case t_m2 => k_is)
      (case t_m3 => k_is)
      (case t_s01 => k_is)
      (case t_s02 => k_is)
      (case t_s03 => k_is)
      (case t_s04 => k_is)
      (case t_s10 => k_is)
      (case t_s12 => k_is)
      (case t_s13 => k_is)
      (case t_s14 => k_is)
      (case t_s20 => k_is)
      (case t_s21 => k_is)
      (case t_s23 => k_is)
      (case t_s24 => k_is)
      (case t_s30 => k_is)
      (case t_s31 => k_is)
      (case t_s32 => k_is)
      (case t_s34 => k_is)
      (case t_cf => refine' ⟨?y0_cf, ?y1_cf⟩ <;> k_is)
      (case t_nd => decide +kernel)
      (case t_e0 => k_exc)
      (case t_e1 => k_exc)
      (case t_e2 => k_exc)
      (case t_e3 => k_exc))
    (case d_told => (refine' Mk.defAt_mk ?a_d_told ?l_d_told ?c_d_told ?k_d_told; (case a_d_told => k_is); (case l_d_told => k_is); (case c_d_told => k_is); (case k_d_told => k_is)))
    (case l_law =>
      refine' ⟨Mk.tabIn_mk ?a_l_law ?b_l_law ?c_l_law ?d_l_law ?e_l_law, ?out_l_law, ?rcd_l_law⟩
      (case a_l_law => k_is)
      (case b_l_law => k_is)
      (case c_l_law => rfl)
      (case d_l_law => k_is)
      (case e_l_law => rfl)
      (case out_l_law => rfl)
      (case rcd_l_law => decide +kernel))
    (case nd => decide +kernel)
