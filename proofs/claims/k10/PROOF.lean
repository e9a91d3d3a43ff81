import PyProof.Rows.All
import Wide.All
import OpenK.AllK
import Wide.FinOn
import HandS.ForMost
import HandS.Deep
import HandS.Defaults
import HandS.HeadEnd
import HandS.HeadHook2
import HandS.Head2
import KE.KStateDown
import HandS.Gcd
import HandS.Flow
import HandS.Style
import HandS.Wide
import HandS.TupAny
import HandS.TupLe
import HandS.Zip
import HandS.Rev
import HandS.SortInts
import HandS.Star
import HandS.Evl
import HandS.NoneIn
import HandS.EndBits
import HandS.Head3
import PySem.Challenge.RW_dugtold_k10_whole_deeds_and_sections
set_option Elab.async false
set_option linter.all false
set_option maxRecDepth 100000
set_option maxHeartbeats 0
/-! ZA: a small language of its own (expressions, statements) and its meaning over plain data: no heap, no addresses. -/
namespace Z
open PySem L2

abbrev D := PyData
abbrev Tag := Nat × Bool
/-- who holds the lists of a value: nobody else (own), the top list alone is nobody else's (top), others hold it too (sh); the tags name the slots whose lists it may hold -/
inductive Ow where
  | own | top (g : List Tag) | sh (g : List Tag)
  deriving DecidableEq
abbrev R := D × Ow
abbrev Rho := List (Option R)

mutual
/-- no list within -/
def flat : D → Bool
  | .none => true
  | .bool _ => true
  | .int _ => true
  | .str _ => true
  | .tuple xs => flats xs
  | .list _ => false
  | .dict _ => false
def flats : List D → Bool
  | [] => true
  | x :: xs => flat x && flats xs
end

def Ow.tags : Ow → List Tag
  | .own => []
  | .top g => g
  | .sh g => g

def nmS (d : D) (g : List Tag) : Ow := if g.isEmpty then .sh [] else if flat d then .sh [] else .sh g
def nmT (d : D) (g : List Tag) : Ow :=
  match d with
  | .list ds => if flats ds then .own else .top g
  | _ => nmS d g
def isOwn : R → Bool
  | (_, .own) => true
  | (_, .top _) => false
  | (d, .sh _) => flat d
/-- of several parts, in a new list or tuple -/
def tagsAll : List R → List Tag
  | [] => []
  | r :: rs => r.2.tags ++ tagsAll rs

/-! ### the operations, over data -/
inductive Op where
  | neg | not_ | add | sub | mul | fdiv | mod | pow | shl
  | eq | ne | lt | le | gt | ge | in_ | nin | isn | isnn | is_ | isnt
  | len | abs | int | bool | min2 | max2 | min1 | max1 | sum | sorted | list | tuple | repr | all | any | gcd | idx | slc (lo hi : Bool) | rev | star1
  deriving DecidableEq

def small (i : Int) : Bool := decide (-18446744073709551616 < i) && decide (i < 18446744073709551616)
def mulOk (i j : Int) : Bool := small i || small j || decide (i.natAbs.log2 + j.natAbs.log2 < 1000000)
def divOk (j : Int) : Bool := decide (j ≠ 0) && (decide (j.natAbs < 1073741824) || (decide (0 < j) && decide (j.natAbs.log2 < 9000)))

def oAdd : D → D → Option (D × Bool)
  | .int i, .int j => some (.int (i + j), false)
  | .str x, .str y => if x.length + y.length ≤ 1000000 then some (.str (x ++ y), false) else none
  | .list xs, .list ys => if xs.length + ys.length ≤ 1000000 then some (.list (xs ++ ys), true) else none
  | .tuple xs, .tuple ys => if xs.length + ys.length ≤ 1000000 then some (.tuple (xs ++ ys), false) else none
  | _, _ => none
def oSub : D → D → Option (D × Bool)
  | .int i, .int j => some (.int (i - j), false)
  | _, _ => none
def oMul : D → D → Option (D × Bool)
  | .int i, .int j => if mulOk i j then some (.int (i * j), false) else none
  | .list xs, .int k => if k ≤ 1000000 ∧ -1000000 ≤ k ∧ xs.length * k.toNat ≤ 1000000 then some (.list (List.replicate k.toNat xs).flatten, true) else none
  | _, _ => none
def oDiv : D → D → Option (D × Bool)
  | .int i, .int j => if divOk j then some (.int (i.fdiv j), false) else none
  | _, _ => none
def oMod : D → D → Option (D × Bool)
  | .int i, .int j => if j = 0 then none else some (.int (i.fmod j), false)
  | _, _ => none
def oPow : D → D → Option (D × Bool)
  | .int i, .int j => if 0 ≤ j ∧ j ≤ 1000000 ∧ i.natAbs < 18446744073709551616 then some (.int (i ^ j.toNat), false) else none
  | _, _ => none
def oShl : D → D → Option (D × Bool)
  | .int i, .int j => if 0 ≤ j ∧ j ≤ 1000000 ∧ i.natAbs < 18446744073709551616 then some (.int (i * 2 ^ j.toNat), false) else none
  | _, _ => none
def shapedB (d : D) : Bool := SeqAt.shaped d
def oEq (d e : D) : Option (D × Bool) := if shapedB d && shapedB e then some (.bool (PyData.eqv d e), false) else none
def oNe (d e : D) : Option (D × Bool) := if shapedB d && shapedB e then some (.bool (!PyData.eqv d e), false) else none
def oCmp (f : Int → Int → Bool) (g : List Nat → List Nat → Bool) : D → D → Option (D × Bool)
  | .int i, .int j => some (.bool (f i j), false)
  | .str x, .str y => some (.bool (g x.cps.toList y.cps.toList), false)
  | _, _ => none
def oIn (neg : Bool) (d : D) : D → Option (D × Bool)
  | .list ds => if shapedB d && shapedB (.list ds) then some (.bool (if neg then !(ds.any fun z => PyData.eqv z d) else ds.any fun z => PyData.eqv z d), false) else none
  | .tuple ds => if shapedB d && shapedB (.tuple ds) then some (.bool (if neg then !(ds.any fun z => PyData.eqv z d) else ds.any fun z => PyData.eqv z d), false) else none
  | .str y => match d with
    | .str x => some (.bool (if neg then !(!(Builtin.Str.occurrences y x 0 y.length 1).isEmpty) else !(Builtin.Str.occurrences y x 0 y.length 1).isEmpty), false)
    | _ => none
  | _ => none
def isNone : D → Bool
  | .none => true
  | _ => false
def oIs (neg : Bool) : D → D → Option (D × Bool)
  | .bool a, .bool b => some (.bool (if neg then !decide (a = b) else decide (a = b)), false)
  | _, _ => none
def truth : D → Option Bool
  | .none => some false
  | .bool b => some b
  | .int i => some (i != 0)
  | .str x => if x.length ≤ 1000000 then some ((x.length : Int) != 0) else none
  | .list xs => some (!xs.isEmpty)
  | .tuple xs => some (!xs.isEmpty)
  | .dict _ => none

def toInts : List D → Option (List Int)
  | [] => some []
  | .int i :: r => (toInts r).map (i :: ·)
  | _ => none
def toBools : List D → Option (List Bool)
  | [] => some []
  | .bool i :: r => (toBools r).map (i :: ·)
  | _ => none
def insI (x : Int) : List Int → List Int
  | [] => [x]
  | y :: r => if x ≤ y then x :: y :: r else y :: insI x r
def sortI : List Int → List Int
  | [] => []
  | x :: r => insI x (sortI r)
def maxI : Int → List Int → Int
  | m, [] => m
  | m, x :: r => maxI (if x > m then x else m) r
def minI : Int → List Int → Int
  | m, [] => m
  | m, x :: r => minI (if x < m then x else m) r
def oLen : D → Option (D × Bool)
  | .list xs => some (.int (xs.length : Int), false)
  | .tuple xs => some (.int (xs.length : Int), false)
  | .str x => if x.length ≤ 1000000 then some (.int (x.length : Int), false) else none
  | _ => none
def oAbs : D → Option (D × Bool)
  | .int i => some (.int (if i < 0 then -i else i), false)
  | _ => none
def oInt : D → Option (D × Bool)
  | .int i => some (.int i, false)
  | .bool b => some (.int (if b then 1 else 0), false)
  | _ => none
def oBool (d : D) : Option (D × Bool) :=
  match d with
  | .int i => some (.bool (i != 0), false)
  | .bool b => some (.bool b, false)
  | _ => none
def oMax2 : D → D → Option (D × Bool)
  | .int i, .int j => some (.int (if j > i then j else i), false)
  | _, _ => none
def oMin2 : D → D → Option (D × Bool)
  | .int i, .int j => some (.int (if j < i then j else i), false)
  | _, _ => none
def oExt (f : Int → List Int → Int) : D → Option (D × Bool)
  | .list ds => match toInts ds with
    | some (x :: r) => some (.int (f x r), false)
    | _ => none
  | _ => none
def oSum : D → Option (D × Bool)
  | .list ds => match toInts ds with
    | some ns => some (.int ns.sum, false)
    | none => none
  | _ => none
def oSorted : D → Option (D × Bool)
  | .list ds => match toInts ds with
    | some ns => some (.list ((sortI ns).map .int), true)
    | none => none
  | _ => none
def oList : D → Option (D × Bool)
  | .list ds => some (.list ds, true)
  | .tuple ds => some (.list ds, true)
  | _ => none
def oTuple : D → Option (D × Bool)
  | .list ds => some (.tuple ds, false)
  | .tuple ds => some (.tuple ds, false)
  | _ => none
def oAll : D → Option (D × Bool)
  | .list ds => match toBools ds with
    | some bs => some (.bool (bs.all id), false)
    | none => none
  | _ => none
def oAny : D → Option (D × Bool)
  | .list ds => match toBools ds with
    | some bs => some (.bool (bs.any id), false)
    | none => none
  | _ => none
def oGcd : D → D → Option (D × Bool)
  | .int i, .int j => some (.int ((Nat.gcd i.natAbs j.natAbs : Nat) : Int), false)
  | _, _ => none
def atD (ds : List D) (i : Int) : Option D := (ixN ds.length i).bind fun j => ds[j]?
def oIdx : D → D → Option (D × Bool)
  | .list ds, .int i => (atD ds i).map (·, false)
  | .tuple ds, .int i => (atD ds i).map (·, false)
  | .str x, .int i => if x.length ≤ 1000000 then match (ixN x.cps.toList.length i).bind fun j => x.cps.toList[j]? with
      | some c => some (.str ⟨#[c]⟩, false)
      | none => none
    else none
  | _, _ => none
def cutD (ds : List D) (lo hi : Option Int) : List D := (ds.drop (HT.sIx ds.length 0 lo)).take (HT.sIx ds.length ds.length hi - HT.sIx ds.length 0 lo)
def oSlc (d : D) (lo hi : Option Int) : Option (D × Bool) :=
  match d with
  | .list ds => some (.list (cutD ds lo hi), true)
  | .tuple ds => some (.tuple (cutD ds lo hi), false)
  | .str x => if x.length ≤ 1000000 then some (.str (cutS x lo hi), false) else none
  | _ => none
def oRev : D → Option (D × Bool)
  | .list ds => some (.list ds.reverse, true)
  | _ => none
/-- a place within: the last step first -/
def elemD : D → Nat → Option D
  | .list ds, k => ds[k]?
  | .tuple ds, k => ds[k]?
  | _, _ => none
def pathR (d : D) : List Nat → Option D
  | [] => some d
  | k :: r => (pathR d r).bind (elemD · k)
/-- [*xs, e] -/
def oStar1 : D → D → Option (D × Bool)
  | .list _, .list _ => none
  | .list _, .dict _ => none
  | .list xs, e => if xs.length < 1000000 then some (.list (xs ++ [e]), true) else none
  | _, _ => none
def showOk (d : D) : Bool := d.showable && decide (d.depth ≤ 64) && decide (d.shown.length ≤ 1000000)
def oRepr (d : D) : Option (D × Bool) := if showOk d then some (.str d.shown, false) else none

def opF : Op → List D → Option (D × Bool)
  | .neg, [.int i] => some (.int (-i), false)
  | .not_, [d] => (truth d).map fun b => (.bool (!b), false)
  | .add, [d, e] => oAdd d e
  | .sub, [d, e] => oSub d e
  | .mul, [d, e] => oMul d e
  | .fdiv, [d, e] => oDiv d e
  | .mod, [d, e] => oMod d e
  | .pow, [d, e] => oPow d e
  | .shl, [d, e] => oShl d e
  | .eq, [d, e] => oEq d e
  | .ne, [d, e] => oNe d e
  | .lt, [d, e] => oCmp (fun i j => decide (i < j)) (fun x y => decide (x < y)) d e
  | .le, [d, e] => oCmp (fun i j => decide (i ≤ j)) (fun x y => !decide (y < x)) d e
  | .gt, [d, e] => oCmp (fun i j => decide (j < i)) (fun x y => decide (y < x)) d e
  | .ge, [d, e] => oCmp (fun i j => decide (j ≤ i)) (fun x y => !decide (x < y)) d e
  | .in_, [d, e] => oIn false d e
  | .nin, [d, e] => oIn true d e
  | .isn, [d] => some (.bool (isNone d), false)
  | .isnn, [d] => some (.bool (!isNone d), false)
  | .is_, [d, e] => oIs false d e
  | .isnt, [d, e] => oIs true d e
  | .len, [d] => oLen d
  | .abs, [d] => oAbs d
  | .int, [d] => oInt d
  | .bool, [d] => oBool d
  | .min2, [d, e] => oMin2 d e
  | .max2, [d, e] => oMax2 d e
  | .min1, [d] => oExt minI d
  | .max1, [d] => oExt maxI d
  | .sum, [d] => oSum d
  | .sorted, [d] => oSorted d
  | .list, [d] => oList d
  | .tuple, [d] => oTuple d
  | .repr, [d] => oRepr d
  | .all, [d] => oAll d
  | .any, [d] => oAny d
  | .gcd, [d, e] => oGcd d e
  | .idx, [d, e] => oIdx d e
  | .slc false false, [d] => oSlc d none none
  | .slc true false, [d, .int i] => oSlc d (some i) none
  | .slc false true, [d, .int j] => oSlc d none (some j)
  | .slc true true, [d, .int i, .int j] => oSlc d (some i) (some j)
  | .rev, [d] => oRev d
  | .star1, [d, e] => oStar1 d e
  | _, _ => none

/-! ### expressions -/
mutual
inductive Pat where
  | nm (i : Nat)
  | tp (ps : Pats)
inductive Pats where
  | nil
  | cons (p : Pat) (r : Pats)
end
mutual
inductive E where
  | var (i : Nat)
  | lit (d : D)
  | con (x : Str) (d : D)
  | op (o : Op) (as : Es)
  | call (f : Nat) (as : Es)
  | and_ (a b : E)
  | or_ (a b : E)
  | ife (c a b : E)
  | chain (a : E) (o : Op) (b : E) (r : Ch)
  | lst (as : Es)
  | tup (as : Es)
  | lc (vs : List Nat) (elt : E) (p : Pat) (it : It) (ifs : Es)
  | lc2 (vs vs1 : List Nat) (elt : E) (p : Pat) (it : It) (ifs : Es) (p1 : Pat) (it1 : It) (ifs1 : Es)
/-- what follows in a chain of comparisons -/
inductive Ch where
  | one (o : Op) (c : E)
  | more (o : Op) (c : E) (r : Ch)
inductive Es where
  | nil
  | cons (e : E) (r : Es)
inductive It where
  | ex (e : E)
  | rng1 (a : E)
  | rng2 (a b : E)
  | rng3 (a b c : E)
  | enum (a : E)
  | zip (a b : E)
  | revd (a : E)
end

abbrev Fn := Nat → List D → Option (D × Nat)

/-- the elements' tags: of a slot's list the elements' own -/
def pkT (e : E) (ρ : Rho) (g : List Tag) : List Tag :=
  match e with
  | .var i => match ρ[i]? with
    | some (some (d, .own)) => if flat d then [] else [(i, false)]
    | some (some (_, .top h)) => (i, false) :: h
    | _ => g
  | _ => g

def wipeR : List Nat → Rho → Rho
  | [], ρ => ρ
  | v :: vs, ρ => (wipeR vs ρ).set v none

mutual
/-- a comprehension's target: what comes is shared -/
def setC : Pat → D → List Tag → Rho → Option Rho
  | .nm i, d, g, ρ => some (ρ.set i (some (d, nmS d g)))
  | .tp ps, .tuple ds, g, ρ => setCs ps ds g ρ
  | .tp ps, .list ds, g, ρ => setCs ps ds g ρ
  | .tp _, _, _, _ => none
def setCs : Pats → List D → List Tag → Rho → Option Rho
  | .nil, [], _, ρ => some ρ
  | .cons p r, d :: ds, g, ρ => match setC p d g ρ with
    | some ρ' => setCs r ds g ρ'
    | none => none
  | _, _, _, _ => none
end

def opR (o : Op) (ps : List (D × List Tag)) : Option R :=
  match opF o (ps.map (·.1)) with
  | some (d, true) => some (d, nmT d (ps.map (·.2)).flatten)
  | some (d, false) => some (d, nmS d (ps.map (·.2)).flatten)
  | none => none
def callR (f : Fn) (x : Nat) (rs : List R) : Option R :=
  match f x (rs.map (·.1)) with
  | some (d, 0) => some (d, nmS d (tagsAll rs))
  | some (d, 1) => some (d, nmT d (tagsAll rs))
  | some (d, _) => some (d, .own)
  | none => none
def dispL (rs : List R) : R := (.list (rs.map (·.1)), if rs.all isOwn then .own else .top (tagsAll rs))
def dispT (rs : List R) : R := (.tuple (rs.map (·.1)), if rs.all isOwn then .own else nmS (.tuple (rs.map (·.1))) (tagsAll rs))
def boolOf : R → Option Bool
  | (.bool b, _) => some b
  | _ => none

/-- items of a thing that is walked -/
def seqItems : D → Option (List D)
  | .list ds => some ds
  | .tuple ds => some ds
  | _ => none
def rangeD (lo : Int) (n : Nat) : List D := (List.range n).map fun (i : Nat) => .int (lo + (i : Int))
def rangeC (lo c : Int) (n : Nat) : List D := (List.range n).map fun (i : Nat) => .int (lo + (i : Int) * c)
def rngOk (i : Int) : Bool := decide (-1000000000 ≤ i) && decide (i ≤ 1000000000)
def enumD (k : Nat) : List D → List D
  | [] => []
  | d :: ds => .tuple [.int (k : Int), d] :: enumD (k + 1) ds
def zipD : List D → List D → List D
  | a :: as, b :: bs => .tuple [a, b] :: zipD as bs
  | _, _ => []

/-- a comprehension's turns: what each item gives, if it gives -/
def lcRun (f : D → Option (Option R)) : List D → Option (List R)
  | [] => some []
  | x :: xs => match f x with
    | some (some r) => (lcRun f xs).map (r :: ·)
    | some none => lcRun f xs
    | none => none
def lcRun2 (f : D → Option (List R)) : List D → Option (List R)
  | [] => some []
  | x :: xs => match f x with
    | some l => (lcRun2 f xs).map (l ++ ·)
    | none => none

mutual
def ev (Φ : Fn) : E → Rho → Option R
  | .var i, ρ => match ρ[i]? with
    | some (some (d, .own)) => if flat d then some (d, .sh []) else some (d, .sh [(i, true)])
    | some (some (d, .top g)) => some (d, .sh ((i, true) :: g))
    | some (some (d, .sh g)) => some (d, .sh g)
    | _ => none
  | .lit d, _ => some (d, .sh [])
  | .con _ d, _ => some (d, .sh [])
  | .op o as, ρ => match evps Φ as ρ with
    | some ps => opR o ps
    | none => none
  | .call f as, ρ => match evs Φ as ρ with
    | some rs => callR Φ f rs
    | none => none
  | .and_ a b, ρ => match ev Φ a ρ with
    | some r => match truth r.1 with
      | some true => ev Φ b ρ
      | some false => some r
      | none => none
    | none => none
  | .or_ a b, ρ => match ev Φ a ρ with
    | some r => match truth r.1 with
      | some true => some r
      | some false => ev Φ b ρ
      | none => none
    | none => none
  | .ife c a b, ρ => match ev Φ c ρ with
    | some r => match truth r.1 with
      | some true => ev Φ a ρ
      | some false => ev Φ b ρ
      | none => none
    | none => none
  | .chain a o b r, ρ => match ev Φ a ρ with
    | some x => match ev Φ b ρ with
      | some y => match opF o [x.1, y.1] with
        | some (.bool true, _) => evch Φ r y.1 ρ
        | some (.bool false, _) => some (.bool false, .sh [])
        | _ => none
      | none => none
    | none => none
  | .lst as, ρ => match evs Φ as ρ with
    | some rs => if rs.length ≤ 1000000 then some (dispL rs) else none
    | none => none
  | .tup as, ρ => match evs Φ as ρ with
    | some rs => if rs.length ≤ 1000000 then some (dispT rs) else none
    | none => none
  | .lc vs elt p it ifs, ρ => match evi Φ it ρ with
    | some (xs, g, _) => if xs.length ≤ 1000000 then
        match lcRun (fun x => match setC p x g (wipeR vs ρ) with
          | some ρ' => match evts Φ ifs ρ' with
            | some true => match ev Φ elt ρ' with
              | some r => some (some r)
              | none => none
            | some false => some none
            | none => none
          | none => none) xs with
        | some rs => some (dispL rs)
        | none => none
      else none
    | none => none
  | .lc2 vs vs1 elt p it ifs p1 it1 ifs1, ρ => match evi Φ it ρ with
    | some (xs, g, _) =>
        match lcRun2 (fun x => match setC p x g (wipeR vs ρ) with
          | some ρ' => match evts Φ ifs ρ' with
            | some true => match evi Φ it1 ρ' with
              | some (ys, g1, _) => if ys.length ≤ 1000000 then lcRun (fun y => match setC p1 y g1 (wipeR vs1 ρ') with
                | some ρ'' => match evts Φ ifs1 ρ'' with
                  | some true => match ev Φ elt ρ'' with
                    | some r => some (some r)
                    | none => none
                  | some false => some none
                  | none => none
                | none => none) ys else none
              | none => none
            | some false => some []
            | none => none
          | none => none) xs with
        | some rs => if rs.length ≤ 1000000 then some (dispL rs) else none
        | none => none
    | none => none
def evch (Φ : Fn) : Ch → D → Rho → Option R
  | .one o c, y, ρ => match ev Φ c ρ with
    | some z => match opF o [y, z.1] with
      | some (d, _) => some (d, nmS d [])
      | none => none
    | none => none
  | .more o c r, y, ρ => match ev Φ c ρ with
    | some z => match opF o [y, z.1] with
      | some (.bool true, _) => evch Φ r z.1 ρ
      | some (.bool false, _) => some (.bool false, .sh [])
      | _ => none
    | none => none
def evs (Φ : Fn) : Es → Rho → Option (List R)
  | .nil, _ => some []
  | .cons e r, ρ => match ev Φ e ρ with
    | some x => match evs Φ r ρ with
      | some xs => some (x :: xs)
      | none => none
    | none => none
/-- the arguments of an operation: data and the elements' tags -/
def evps (Φ : Fn) : Es → Rho → Option (List (D × List Tag))
  | .nil, _ => some []
  | .cons e r, ρ => match ev Φ e ρ with
    | some x => match evps Φ r ρ with
      | some xs => some ((x.1, pkT e ρ x.2.tags) :: xs)
      | none => none
    | none => none
/-- a comprehension's tests -/
def evts (Φ : Fn) : Es → Rho → Option Bool
  | .nil, _ => some true
  | .cons e r, ρ => match ev Φ e ρ with
    | some x => match truth x.1 with
      | some true => evts Φ r ρ
      | some false => some false
      | none => none
    | none => none
/-- the items of what is walked; what the items may hold; what the walked thing itself may hold -/
def evi (Φ : Fn) : It → Rho → Option (List D × List Tag × List Tag)
  | .ex e, ρ => match ev Φ e ρ with
    | some r => match seqItems r.1 with
      | some xs => some (xs, pkT e ρ r.2.tags, r.2.tags)
      | none => none
    | none => none
  | .rng1 a, ρ => match ev Φ a ρ with
    | some (.int j, _) => if rngOk j then some (rangeD 0 j.toNat, [], []) else none
    | _ => none
  | .rng2 a b, ρ => match ev Φ a ρ with
    | some (.int i, _) => match ev Φ b ρ with
      | some (.int j, _) => if rngOk i && rngOk j then some (rangeD i (j - i).toNat, [], []) else none
      | _ => none
    | _ => none
  | .rng3 a b c, ρ => match ev Φ a ρ with
    | some (.int i, _) => match ev Φ b ρ with
      | some (.int j, _) => match ev Φ c ρ with
        | some (.int k, _) => if rngOk i && rngOk j && decide (k = -1) then some (rangeC i (-1) (i - j).toNat, [], []) else none
        | _ => none
      | _ => none
    | _ => none
  | .enum a, ρ => match ev Φ a ρ with
    | some (.list ds, o) => some (enumD 0 ds, pkT a ρ o.tags, o.tags)
    | _ => none
  | .zip a b, ρ => match ev Φ a ρ with
    | some (.list xs, o) => match ev Φ b ρ with
      | some (.list ys, o2) => some (zipD xs ys, pkT a ρ o.tags ++ pkT b ρ o2.tags, o.tags ++ o2.tags)
      | _ => none
    | _ => none
  | .revd a, ρ => match ev Φ a ρ with
    | some (.list ds, o) => some (ds.reverse, pkT a ρ o.tags, o.tags)
    | _ => none
end

/-! ### statements -/
mutual
inductive S where
  | asg (p : Pat) (e : E)
  | par (i j : Nat) (a b : E)
  | setI (i : Nat) (k e : E)
  | par3 (i j l : Nat) (a b c : E)
  | ret2 (i : Nat) (e : E)
  | appM (i j : Nat)
  | forT (i : Nat) (p : Pat) (body : Ss) (k : List Nat)
  | app (i : Nat) (e : E)
  | appK (i : Nat) (rs : List Nat) (e : E)
  | ext (i : Nat) (e : E)
  | drop (e : E)
  | ret (e : E)
  | retN
  | iff (c : E) (a b : Ss)
  | for_ (p : Pat) (it : It) (body : Ss) (k : List Nat)
  | whl (c : E) (body : Ss) (k : List Nat)
  | brk
  | cnt
  | pass
  | nev
  | kill (k : List Nat)
inductive Ss where
  | nil
  | cons (s : S) (r : Ss)
end
mutual
/-- the slots that a pattern sets -/
def tgP : Pat → List Nat
  | .nm i => [i]
  | .tp ps => tgPs ps
def tgPs : Pats → List Nat
  | .nil => []
  | .cons p r => tgP p ++ tgPs r
end
mutual
/-- the slots that a statement may bind anew -/
def tgS : S → List Nat
  | .asg p _ => tgP p
  | .par i j _ _ => [i, j]
  | .par3 i j l _ _ _ => [i, j, l]
  | .iff _ a b => tgSs a ++ tgSs b
  | .for_ p _ body _ => tgP p ++ tgSs body
  | .forT _ p body _ => tgP p ++ tgSs body
  | .whl _ body _ => tgSs body
  | _ => []
def tgSs : Ss → List Nat
  | .nil => []
  | .cons s r => tgS s ++ tgSs r
end
inductive Fl where
  | nx (ρ : Rho)
  | rt (d : D) (lv : Nat)
  | bk (ρ : Rho)
  | ct (ρ : Rho)

def hasT (i : Nat) (b : Bool) : List Tag → Bool
  | [] => false
  | t :: r => (t.1 == i && t.2 == b) || hasT i b r
/-- what others may hold from now on -/
def frz1 (g : List Tag) (i : Nat) : Option R → Option R
  | some (d, .own) => if hasT i true g then some (d, .sh []) else if hasT i false g then (match d with
      | .list _ => some (d, .top [])
      | _ => some (d, .sh [])) else some (d, .own)
  | some (d, .top h) => if hasT i true g then some (d, .sh h) else some (d, .top h)
  | x => x
def frzFrom (g : List Tag) : Nat → Rho → Rho
  | _, [] => []
  | i, x :: r => frz1 g i x :: frzFrom g (i + 1) r
def frz (g : List Tag) (ρ : Rho) : Rho := if g.isEmpty then ρ else frzFrom g 0 ρ
/-- as it is stored -/
def stO : Ow → Ow
  | .own => .own
  | .top _ => .top []
  | .sh _ => .sh []
mutual
def setP : Pat → D → Ow → Rho → Option Rho
  | .nm i, d, o, ρ => if i < ρ.length then some (ρ.set i (some (d, o))) else none
  | .tp ps, .tuple ds, o, ρ => setPs ps ds o ρ
  | .tp ps, .list ds, o, ρ => setPs ps ds o ρ
  | .tp _, _, _, _ => none
def setPs : Pats → List D → Ow → Rho → Option Rho
  | .nil, [], _, ρ => some ρ
  | .cons p r, d :: ds, o, ρ => match setP p d (match o with
      | .own => .own
      | _ => .sh []) ρ with
    | some ρ' => setPs r ds o ρ'
    | none => none
  | _, _, _, _ => none
end
def lvl : Ow → Nat
  | .own => 2
  | .top _ => 1
  | .sh _ => 0

/-- a slot that can not hold a list of another one's -/
def thawO : Option R → Bool
  | none => true
  | some (_, .own) => true
  | some (d, _) => flat d
def thawFrom (i : Nat) : Nat → Rho → Bool
  | _, [] => true
  | j, x :: r => (j == i || thawO x) && thawFrom i (j + 1) r
def forRun (f : D → Rho → Option Fl) (k : List Nat) : List D → Rho → Option Fl
  | [], ρ => some (.nx (wipeR k ρ))
  | x :: xs, ρ => match f x ρ with
    | some (.nx ρ') => forRun f k xs (wipeR k ρ')
    | some (.ct ρ') => forRun f k xs (wipeR k ρ')
    | some (.bk ρ') => some (.nx (wipeR k ρ'))
    | some (.rt d l) => some (.rt d l)
    | none => none
def whlRun (c : Rho → Option Bool) (f : Rho → Option Fl) (k : List Nat) : Nat → Rho → Option Fl
  | 0, _ => none
  | n + 1, ρ => match c ρ with
    | some true => match f ρ with
      | some (.nx ρ') => whlRun c f k n (wipeR k ρ')
      | some (.ct ρ') => whlRun c f k n (wipeR k ρ')
      | some (.bk ρ') => some (.nx (wipeR k ρ'))
      | some (.rt d l) => some (.rt d l)
      | none => none
    | some false => some (.nx (wipeR k ρ))
    | none => none

/-- the list of a slot that is its own -/
def ownL (ρ : Rho) (i : Nat) : Option (List D × Bool) :=
  match ρ[i]? with
  | some (some (.list ds, .own)) => some (ds, true)
  | some (some (.list ds, .top _)) => some (ds, false)
  | _ => none
def putL (ρ : Rho) (i : Nat) (ds : List D) (deep : Bool) : Rho := ρ.set i (some (.list ds, if deep then .own else .top []))

mutual
def ex (Φ : Fn) (W : Nat) : S → Rho → Option Fl
  | .asg p e, ρ => match ev Φ e ρ with
    | some (d, o) => match setP p d (stO o) (frz o.tags ρ) with
      | some ρ' => some (.nx ρ')
      | none => none
    | none => none
  | .par i j a b, ρ => match ev Φ a ρ with
    | some (d, o) => match ev Φ b ρ with
      | some (d2, o2) => if i < ρ.length ∧ j < ρ.length then some (.nx (((frz (o.tags ++ o2.tags) ρ).set i (some (d, stO o))).set j (some (d2, stO o2)))) else none
      | none => none
    | none => none
  | .setI i k e, ρ => match ev Φ e ρ with
    | some (d, o) => match ev Φ k ρ with
      | some (.int n, _) => match ownL (frz o.tags ρ) i with
        | some (ds, deep) => match ixN ds.length n with
          | some m => some (.nx (putL (frz ((if isOwn (d, o) then [] else [(i, false)]) ++ o.tags) ρ) i (ds.set m d) (deep && isOwn (d, o))))
          | none => none
        | none => none
      | _ => none
    | none => none
  | .par3 i j l a b c, ρ => match ev Φ a ρ with
    | some (d, o) => match ev Φ b ρ with
      | some (d2, o2) => match ev Φ c ρ with
        | some (d3, o3) => if i < ρ.length ∧ j < ρ.length ∧ l < ρ.length then some (.nx ((((frz (o.tags ++ (o2.tags ++ o3.tags)) ρ).set i (some (d, stO o))).set j (some (d2, stO o2))).set l (some (d3, stO o3)))) else none
        | none => none
      | none => none
    | none => none
  | .app i e, ρ => match ev Φ e ρ with
    | some (d, o) => match ownL (frz o.tags ρ) i with
      | some (ds, deep) => if ds.length < 1000000 then some (.nx (putL (frz ((if isOwn (d, o) then [] else [(i, false)]) ++ o.tags) ρ) i (ds ++ [d]) (deep && isOwn (d, o)))) else none
      | none => none
    | none => none
  | .appK i rs e, ρ => match ρ[i]? with
    | some (some (d, .own)) => match pathR d rs with
      | some (.list es) => if es.length < 1000000 then (match ev Φ e ρ with
        | some _ => some (.nx (ρ.set i none))
        | none => none) else none
      | _ => none
    | _ => none
  | .ext i e, ρ => match ev Φ e ρ with
    | some (.list es, o) => match ownL (frz o.tags ρ) i with
      | some (ds, deep) => if ds.length + es.length ≤ 1000000 then some (.nx (putL (frz ((if flats es then [] else [(i, false)]) ++ o.tags) ρ) i (ds ++ es) (deep && flats es))) else none
      | none => none
    | _ => none
  | .drop e, ρ => match ev Φ e ρ with
    | some _ => some (.nx ρ)
    | none => none
  | .ret (.var i), ρ => match ρ[i]? with
    | some (some (d, o)) => some (.rt d (lvl o))
    | _ => none
  | .ret e, ρ => match ev Φ e ρ with
    | some (d, o) => some (.rt d (lvl o))
    | none => none
  | .retN, _ => some (.rt .none 2)
  | .appM i j, ρ => match ρ[i]? with
    | some (some (.list ds, .own)) => match ρ[j]? with
      | some (some (d, .own)) => if i ≠ j ∧ ds.length < 1000000 then some (.nx ((ρ.set j none).set i (some (.list (ds ++ [d]), .own)))) else none
      | _ => none
    | _ => none
  | .forT i p body k, ρ => match ρ[i]? with
    | some (some (.list ds, .own)) => match forRun (fun x ρ' => match setP p x (.sh []) ρ' with
        | some ρ'' => exs Φ W body ρ''
        | none => none) k ds (frz [(i, true)] ρ) with
      | some (.nx ρ2) => if thawFrom i 0 ρ2 then some (.nx (ρ2.set i (some (.list ds, .own)))) else none
      | some (.rt d l) => some (.rt d l)
      | _ => none
    | _ => none
  | .ret2 i e, ρ => match ρ[i]? with
    | some (some (d, .own)) => match ev Φ e ρ with
      | some (d2, .own) => some (.rt (.tuple [d, d2]) 2)
      | _ => none
    | _ => none
  | .iff c a b, ρ => match ev Φ c ρ with
    | some r => match truth r.1 with
      | some true => exs Φ W a ρ
      | some false => exs Φ W b ρ
      | none => none
    | none => none
  | .for_ p it body k, ρ => match evi Φ it ρ with
    | some (xs, _, g) => forRun (fun x ρ' => match setP p x (.sh []) ρ' with
        | some ρ'' => exs Φ W body ρ''
        | none => none) k xs (frz g ρ)
    | none => none
  | .whl c body k, ρ => whlRun (fun ρ' => match ev Φ c ρ' with
      | some r => truth r.1
      | none => none) (fun ρ' => exs Φ W body ρ') k W ρ
  | .brk, ρ => some (.bk ρ)
  | .cnt, ρ => some (.ct ρ)
  | .pass, ρ => some (.nx ρ)
  | .nev, _ => none
  | .kill k, ρ => some (.nx (wipeR k ρ))
def exs (Φ : Fn) (W : Nat) : Ss → Rho → Option Fl
  | .nil, ρ => some (.nx ρ)
  | .cons s r, ρ => match ex Φ W s ρ with
    | some (.nx ρ') => exs Φ W r ρ'
    | x => x
end

/-- a def: how many parameters, how many slots, the body -/
structure Fd where
  np : Nat
  nn : Nat
  body : Ss
def param (d : D) : Option R := some (d, .sh [])
def runFd (Φ : Fn) (W : Nat) (f : Fd) (ds : List D) : Option (D × Nat) :=
  if ds.length = f.np then
    match exs Φ W f.body (ds.map param ++ List.replicate (f.nn - f.np) none) with
    | some (.rt d l) => some (d, l)
    | some (.nx _) => some (.none, 2)
    | _ => none
  else none
/-- the defs of a text, to a depth -/
def run (W : Nat) (T : Nat → Option Fd) : Nat → Fn
  | 0 => fun _ _ => none
  | n + 1 => fun x ds => match T x with
    | some f => runFd (run W T n) W f ds
    | none => none
end Z
/-! ZB: how plain data lies in the abstract heap: shared data (Rp), data that nobody else holds (Ow1), a state's slots (WF). -/
namespace Z
open PySem L2 PySem.Spec PyProof.Rows

abbrev Sub := Evl.Ex

/-! ### shared data -/
mutual
inductive Rp (K : PySem.W.Frag) (H : Hp) : V → D → Prop
  | non : Rp K H .non .none
  | bl (b : Bool) : Rp K H (.bl b) (.bool b)
  | int (i : Int) : Rp K H (.int i) (.int i)
  | str (x : Str) : Rp K H (.str x) (.str x)
  | lst {a : Addr} {xs : List V} {ds : List D} : Rd H a (.lst xs) → RpA K H xs ds → Rp K H (.ref a) (.list ds)
  | tup {a : Addr} {xs : List V} {ds : List D} : SqT K H a xs → RpA K H xs ds → Rp K H (.ref a) (.tuple ds)
inductive RpA (K : PySem.W.Frag) (H : Hp) : List V → List D → Prop
  | nil : RpA K H [] []
  | cons {v : V} {vs : List V} {d : D} {ds : List D} : Rp K H v d → RpA K H vs ds → RpA K H (v :: vs) (d :: ds)
end
section
variable {K : PySem.W.Frag} {H H' : Hp}
mutual
theorem Rp.mono (e : Sub H H') : ∀ (d : D) (v : V), Rp K H v d → Rp K H' v d
  | .none, _, h => by cases h; exact .non
  | .bool b, _, h => by cases h; exact .bl b
  | .int i, _, h => by cases h; exact .int i
  | .str x, _, h => by cases h; exact .str x
  | .list ds, _, h => by
    cases h with
    | lst h1 h2 => exact .lst (Evl.ex_rd e h1) (RpA.mono e ds _ h2)
  | .tuple ds, _, h => by
    cases h with
    | tup h1 h2 => exact .tup (Evl.ex_t e h1) (RpA.mono e ds _ h2)
  | .dict _, _, h => nomatch h
theorem RpA.mono (e : Sub H H') : ∀ (ds : List D) (vs : List V), RpA K H vs ds → RpA K H' vs ds
  | [], _, h => by cases h; exact .nil
  | d :: ds, _, h => by
    cases h with
    | cons h1 h2 => exact .cons (Rp.mono e d _ h1) (RpA.mono e ds _ h2)
end
theorem rp_mono (e : Sub H H') {v : V} {d : D} (h : Rp K H v d) : Rp K H' v d := Rp.mono e d v h
theorem rpa_mono (e : Sub H H') {v : List V} {d : List D} (h : RpA K H v d) : RpA K H' v d := RpA.mono e d v h
mutual
theorem Rp.dp : ∀ (d : D) (v : V), Rp K H v d → Dp K H v d
  | .none, _, h => by cases h; exact .non
  | .bool b, _, h => by cases h; exact .bl b
  | .int i, _, h => by cases h; exact .int i
  | .str x, _, h => by cases h; exact .str x
  | .list ds, _, h => by
    cases h with
    | lst h1 h2 => exact .lst (.inl h1) (RpA.dp ds _ h2)
  | .tuple ds, _, h => by
    cases h with
    | tup h1 h2 => exact .tup h1 (RpA.dp ds _ h2)
  | .dict _, _, h => nomatch h
theorem RpA.dp : ∀ (ds : List D) (vs : List V), RpA K H vs ds → DpAll K H vs ds
  | [], _, h => by cases h; exact .nil
  | d :: ds, _, h => by
    cases h with
    | cons h1 h2 => exact .cons (Rp.dp d _ h1) (RpA.dp ds _ h2)
end
theorem RpA.length : ∀ {vs : List V} {ds : List D}, RpA K H vs ds → vs.length = ds.length
  | _, _, .nil => rfl
  | _, _, .cons _ t => congrArg (· + 1) (RpA.length t)
theorem RpA.append : ∀ {vs ws : List V} {ds es : List D}, RpA K H vs ds → RpA K H ws es → RpA K H (vs ++ ws) (ds ++ es)
  | _, _, _, _, .nil, h => h
  | _, _, _, _, .cons a t, h => .cons a (RpA.append t h)
theorem RpA.get : ∀ {vs : List V} {ds : List D} {i : Nat} {d : D}, RpA K H vs ds → ds[i]? = some d → ∃ v, vs[i]? = some v ∧ Rp K H v d
  | _, _, _, _, .nil, e => by simp at e
  | _, _, 0, _, .cons a t, e => by
    rw [List.getElem?_cons_zero] at e
    cases e
    exact ⟨_, rfl, a⟩
  | _, _, i + 1, _, .cons a t, e => by
    rw [List.getElem?_cons_succ] at e
    obtain ⟨v, h1, h2⟩ := RpA.get t e
    exact ⟨v, by rw [List.getElem?_cons_succ]; exact h1, h2⟩
theorem RpA.get2 : ∀ {vs : List V} {ds : List D} {i : Nat} {v : V}, RpA K H vs ds → vs[i]? = some v → ∃ d, ds[i]? = some d ∧ Rp K H v d
  | _, _, _, _, .nil, e => by simp at e
  | _, _, 0, _, .cons a t, e => by
    rw [List.getElem?_cons_zero] at e
    cases e
    exact ⟨_, rfl, a⟩
  | _, _, i + 1, _, .cons a t, e => by
    rw [List.getElem?_cons_succ] at e
    obtain ⟨v, h1, h2⟩ := RpA.get2 t e
    exact ⟨v, by rw [List.getElem?_cons_succ]; exact h1, h2⟩
theorem RpA.take : ∀ (n : Nat) {vs : List V} {ds : List D}, RpA K H vs ds → RpA K H (vs.take n) (ds.take n)
  | 0, _, _, _ => by rw [List.take_zero, List.take_zero]; exact .nil
  | n + 1, _, _, .nil => by rw [List.take_nil, List.take_nil]; exact .nil
  | n + 1, _, _, .cons a t => by rw [List.take_succ_cons, List.take_succ_cons]; exact .cons a (RpA.take n t)
theorem RpA.drop : ∀ (n : Nat) {vs : List V} {ds : List D}, RpA K H vs ds → RpA K H (vs.drop n) (ds.drop n)
  | 0, _, _, h => h
  | n + 1, _, _, .nil => by rw [List.drop_nil, List.drop_nil]; exact .nil
  | n + 1, _, _, .cons a t => by rw [List.drop_succ_cons, List.drop_succ_cons]; exact RpA.drop n t
theorem RpA.reverse : ∀ {vs : List V} {ds : List D}, RpA K H vs ds → RpA K H vs.reverse ds.reverse
  | _, _, .nil => .nil
  | _, _, .cons a t => by rw [List.reverse_cons, List.reverse_cons]; exact (RpA.reverse t).append (.cons a .nil)
theorem RpA.rep : ∀ (n : Nat) {vs : List V} {ds : List D}, RpA K H vs ds → RpA K H (List.replicate n vs).flatten (List.replicate n ds).flatten
  | 0, _, _, _ => .nil
  | n + 1, _, _, h => by
    rw [List.replicate_succ, List.replicate_succ, List.flatten_cons, List.flatten_cons]
    exact h.append (RpA.rep n h)
theorem RpA.set : ∀ {vs : List V} {ds : List D} (n : Nat) {v : V} {d : D}, RpA K H vs ds → Rp K H v d → RpA K H (vs.set n v) (ds.set n d)
  | _, _, _, _, _, .nil, _ => .nil
  | _, _, 0, _, _, .cons _ t, h => .cons h t
  | _, _, n + 1, _, _, .cons a t, h => .cons a (RpA.set n t h)
theorem rpa_ints : ∀ {vs : List V} {ds : List D} {ns : List Int}, RpA K H vs ds → toInts ds = some ns → vs = ns.map V.int
  | _, _, _, .nil, e => by cases e; rfl
  | _, _, _, .cons (d := d) a t, e => by
    cases d with
    | int i =>
      cases a
      unfold toInts at e
      cases h : toInts _ with
      | none => rw [h] at e; cases e
      | some ms =>
        rw [h] at e
        cases e
        rw [rpa_ints t h]
        rfl
    | _ => cases e
theorem rpa_bools : ∀ {vs : List V} {ds : List D} {ns : List Bool}, RpA K H vs ds → toBools ds = some ns → vs = ns.map V.bl
  | _, _, _, .nil, e => by cases e; rfl
  | _, _, _, .cons (d := d) a t, e => by
    cases d with
    | bool i =>
      cases a
      unfold toBools at e
      cases h : toBools _ with
      | none => rw [h] at e; cases e
      | some ms =>
        rw [h] at e
        cases e
        rw [rpa_bools t h]
        rfl
    | _ => cases e
theorem rpa_ofInts : ∀ (ns : List Int), RpA K H (ns.map V.int) (ns.map .int)
  | [] => .nil
  | n :: ns => .cons (.int n) (rpa_ofInts ns)
end

/-! ### data that nobody else holds -/
mutual
inductive Ow1 (K : PySem.W.Frag) (Hs H : Hp) : List Addr → V → D → Prop
  | non : Ow1 K Hs H [] .non .none
  | bl (b : Bool) : Ow1 K Hs H [] (.bl b) (.bool b)
  | int (i : Int) : Ow1 K Hs H [] (.int i) (.int i)
  | str (x : Str) : Ow1 K Hs H [] (.str x) (.str x)
  | lst {a : Addr} {xs : List V} {ds : List D} {fp : List Addr} : H a = some (.lst xs) → OwA K Hs H fp xs ds → Ow1 K Hs H (a :: fp) (.ref a) (.list ds)
  | tup {a : Addr} {xs : List V} {ds : List D} {fp : List Addr} : SqT K Hs a xs → OwA K Hs H fp xs ds → Ow1 K Hs H fp (.ref a) (.tuple ds)
inductive OwA (K : PySem.W.Frag) (Hs H : Hp) : List Addr → List V → List D → Prop
  | nil : OwA K Hs H [] [] []
  | cons {v : V} {vs : List V} {d : D} {ds : List D} {fp fq : List Addr} : Ow1 K Hs H fp v d → OwA K Hs H fq vs ds → OwA K Hs H (fp ++ fq) (v :: vs) (d :: ds)
end
section
variable {K : PySem.W.Frag} {Hs H Hs' H' : Hp}
mutual
theorem Ow1.mono (e : Sub Hs Hs') : ∀ (d : D) (v : V) (fp : List Addr), (∀ a ∈ fp, H' a = H a) → Ow1 K Hs H fp v d → Ow1 K Hs' H' fp v d
  | .none, _, _, _, h => by cases h; exact .non
  | .bool b, _, _, _, h => by cases h; exact .bl b
  | .int i, _, _, _, h => by cases h; exact .int i
  | .str x, _, _, _, h => by cases h; exact .str x
  | .list ds, _, _, hf, h => by
    cases h with
    | lst h1 h2 => exact .lst ((hf _ List.mem_cons_self).trans h1) (OwA.mono e ds _ _ (fun a ha => hf a (List.mem_cons_of_mem _ ha)) h2)
  | .tuple ds, _, _, hf, h => by
    cases h with
    | tup h1 h2 => exact .tup (Evl.ex_t e h1) (OwA.mono e ds _ _ hf h2)
  | .dict _, _, _, _, h => nomatch h
theorem OwA.mono (e : Sub Hs Hs') : ∀ (ds : List D) (vs : List V) (fp : List Addr), (∀ a ∈ fp, H' a = H a) → OwA K Hs H fp vs ds → OwA K Hs' H' fp vs ds
  | [], _, _, _, h => by cases h; exact .nil
  | d :: ds, _, _, hf, h => by
    cases h with
    | cons h1 h2 => exact .cons (Ow1.mono e d _ _ (fun a ha => hf a (List.mem_append_left _ ha)) h1) (OwA.mono e ds _ _ (fun a ha => hf a (List.mem_append_right _ ha)) h2)
end
theorem ow_mono (e : Sub Hs Hs') {v : V} {d : D} {fp : List Addr} (hf : ∀ a ∈ fp, H' a = H a) (h : Ow1 K Hs H fp v d) : Ow1 K Hs' H' fp v d := Ow1.mono e d v fp hf h
theorem owa_mono (e : Sub Hs Hs') {v : List V} {d : List D} {fp : List Addr} (hf : ∀ a ∈ fp, H' a = H a) (h : OwA K Hs H fp v d) : OwA K Hs' H' fp v d := OwA.mono e d v fp hf h
mutual
/-- .. read in a heap that has its lists -/
theorem Ow1.rp {Hx : Hp} (e : Sub Hs Hx) : ∀ (d : D) (v : V) (fp : List Addr), (∀ a ∈ fp, Hx a = H a) → Ow1 K Hs H fp v d → Rp K Hx v d
  | .none, _, _, _, h => by cases h; exact .non
  | .bool b, _, _, _, h => by cases h; exact .bl b
  | .int i, _, _, _, h => by cases h; exact .int i
  | .str x, _, _, _, h => by cases h; exact .str x
  | .list ds, _, _, hf, h => by
    cases h with
    | lst h1 h2 => exact .lst (.inl ((hf _ List.mem_cons_self).trans h1)) (OwA.rp e ds _ _ (fun a ha => hf a (List.mem_cons_of_mem _ ha)) h2)
  | .tuple ds, _, _, hf, h => by
    cases h with
    | tup h1 h2 => exact .tup (Evl.ex_t e h1) (OwA.rp e ds _ _ hf h2)
  | .dict _, _, _, _, h => nomatch h
theorem OwA.rp {Hx : Hp} (e : Sub Hs Hx) : ∀ (ds : List D) (vs : List V) (fp : List Addr), (∀ a ∈ fp, Hx a = H a) → OwA K Hs H fp vs ds → RpA K Hx vs ds
  | [], _, _, _, h => by cases h; exact .nil
  | d :: ds, _, _, hf, h => by
    cases h with
    | cons h1 h2 => exact .cons (Ow1.rp e d _ _ (fun a ha => hf a (List.mem_append_left _ ha)) h1) (OwA.rp e ds _ _ (fun a ha => hf a (List.mem_append_right _ ha)) h2)
end
theorem ow_rp {Hx : Hp} (e : Sub Hs Hx) {v : V} {d : D} {fp : List Addr} (hf : ∀ a ∈ fp, Hx a = H a) (h : Ow1 K Hs H fp v d) : Rp K Hx v d := Ow1.rp e d v fp hf h
theorem owa_rp {Hx : Hp} (e : Sub Hs Hx) {v : List V} {d : List D} {fp : List Addr} (hf : ∀ a ∈ fp, Hx a = H a) (h : OwA K Hs H fp v d) : RpA K Hx v d := OwA.rp e d v fp hf h
mutual
/-- its lists are lists -/
theorem Ow1.lists : ∀ (d : D) (v : V) (fp : List Addr), Ow1 K Hs H fp v d → ∀ a ∈ fp, ∃ xs, H a = some (.lst xs)
  | .none, _, _, h => by cases h; intro a ha; cases ha
  | .bool b, _, _, h => by cases h; intro a ha; cases ha
  | .int i, _, _, h => by cases h; intro a ha; cases ha
  | .str x, _, _, h => by cases h; intro a ha; cases ha
  | .list ds, _, _, h => by
    cases h with
    | lst h1 h2 =>
      intro a ha
      rcases List.mem_cons.mp ha with e | ha
      · exact ⟨_, e ▸ h1⟩
      · exact OwA.lists ds _ _ h2 a ha
  | .tuple ds, _, _, h => by
    cases h with
    | tup h1 h2 => exact OwA.lists ds _ _ h2
  | .dict _, _, _, h => nomatch h
theorem OwA.lists : ∀ (ds : List D) (vs : List V) (fp : List Addr), OwA K Hs H fp vs ds → ∀ a ∈ fp, ∃ xs, H a = some (.lst xs)
  | [], _, _, h => by cases h; intro a ha; cases ha
  | d :: ds, _, _, h => by
    cases h with
    | cons h1 h2 =>
      intro a ha
      rcases List.mem_append.mp ha with ha | ha
      · exact Ow1.lists d _ _ h1 a ha
      · exact OwA.lists ds _ _ h2 a ha
end
theorem OwA.length : ∀ {fp : List Addr} {vs : List V} {ds : List D}, OwA K Hs H fp vs ds → vs.length = ds.length
  | _, _, _, .nil => rfl
  | _, _, _, .cons _ t => congrArg (· + 1) (OwA.length t)
theorem OwA.append : ∀ {fp fq : List Addr} {vs ws : List V} {ds es : List D}, OwA K Hs H fp vs ds → OwA K Hs H fq ws es → OwA K Hs H (fp ++ fq) (vs ++ ws) (ds ++ es)
  | _, _, _, _, _, _, .nil, h => h
  | _, _, _, _, _, _, .cons a t, h => by rw [List.append_assoc]; exact .cons a (OwA.append t h)
mutual
/-- flat data is nobody's: no lists; its tuples stand where tuples stand -/
theorem flat_ow {Hx : Hp} (ht : ∀ a xs, Rd Hx a (.tup xs) → Rd Hs a (.tup xs)) : ∀ (d : D) (v : V), flat d = true → Rp K Hx v d → Ow1 K Hs H [] v d
  | .none, _, _, h => by cases h; exact .non
  | .bool b, _, _, h => by cases h; exact .bl b
  | .int i, _, _, h => by cases h; exact .int i
  | .str x, _, _, h => by cases h; exact .str x
  | .list ds, _, hf, h => by unfold flat at hf; cases hf
  | .tuple ds, _, hf, h => by
    unfold flat at hf
    cases h with
    | tup h1 h2 =>
      refine .tup ?_ (flats_ow ht ds _ hf h2)
      rcases h1 with h1 | h1
      · exact .inl (ht _ _ h1)
      · exact .inr h1
  | .dict _, _, _, h => nomatch h
theorem flats_ow {Hx : Hp} (ht : ∀ a xs, Rd Hx a (.tup xs) → Rd Hs a (.tup xs)) : ∀ (ds : List D) (vs : List V), flats ds = true → RpA K Hx vs ds → OwA K Hs H [] vs ds
  | [], _, _, h => by cases h; exact .nil
  | d :: ds, _, hf, h => by
    unfold flats at hf
    rw [Bool.and_eq_true] at hf
    cases h with
    | cons h1 h2 =>
      have e : ([] : List Addr) = [] ++ [] := rfl
      rw [e]
      exact .cons (flat_ow ht d _ hf.1 h1) (flats_ow ht ds _ hf.2 h2)
end
end
end Z
/-! ZC: a state's slots, what an expression gives, what is frozen and stored. -/
namespace Z
open PySem L2 PySem.Spec PyProof.Rows

/-- whose list a cell is: slot i's own (true), one within it (false) -/
abbrev Lab := Addr → Option Tag
def cov (g : List Tag) (t : Tag) : Bool := hasT t.1 true g || (!t.2 && hasT t.1 false g)
/-- the shared part of a heap, and what the tags name -/
def VH (L : Lab) (g : List Tag) (Hs H : Hp) : Hp := fun a => match Hs a with
  | some o => some o
  | none => match L a with
    | some t => if cov g t then H a else none
    | none => none
/-- an expression's step: the heap grows; the shared part grows by new cells -/
structure Step (Hs H Hs' H' : Hp) : Prop where
  s : Sub Hs Hs'
  h : Sub H H'
  sh : Sub Hs' H'
  ag : ∀ a, H a ≠ none → Hs' a = Hs a
structure LabOk (L : Lab) (Hs H : Hp) : Prop where
  sh : Sub Hs H
  lab : ∀ a t, L a = some t → Hs a = none ∧ ∃ xs, H a = some (.lst xs)
section
variable {L : Lab} {Hs H Hs' H' Hs2 H2 : Hp} {g g' : List Tag} {K : PySem.W.Frag}
theorem Step.refl (h : Sub Hs H) : Step Hs H Hs H := ⟨Evl.Ex.refl _, Evl.Ex.refl _, h, fun _ _ => rfl⟩
theorem some_of {α : Type} {x : Option α} (h : x ≠ none) : ∃ y, x = some y := by
  cases x with
  | none => exact absurd rfl h
  | some y => exact ⟨y, rfl⟩
theorem Sub.ne (e : Sub H H') {a : Addr} (h : H a ≠ none) : H' a ≠ none := by
  obtain ⟨o, ho⟩ := some_of h
  rw [e a o ho]
  intro z; cases z
theorem Sub.back (e : Sub H H') {a : Addr} (h : H' a = none) : H a = none := Evl.fresh_back e h
theorem Step.trans (a : Step Hs H Hs' H') (b : Step Hs' H' Hs2 H2) : Step Hs H Hs2 H2 :=
  ⟨a.s.trans b.s, a.h.trans b.h, b.sh, fun x hx => (b.ag x (a.h.ne hx)).trans (a.ag x hx)⟩
theorem LabOk.step (l : LabOk L Hs H) (t : Step Hs H Hs' H') : LabOk L Hs' H' := ⟨t.sh, fun a x h => by
  obtain ⟨h1, xs, h2⟩ := l.lab a x h
  refine ⟨(t.ag a (by rw [h2]; intro z; cases z)).trans h1, xs, t.h a _ h2⟩⟩
theorem vh_s : Sub Hs (VH L g Hs H) := fun a o h => by unfold VH; rw [h]
theorem vh_h (l : Sub Hs H) : Sub (VH L g Hs H) H := fun a o h => by
  unfold VH at h
  split at h
  · rename_i e
    cases h
    exact l a _ e
  · split at h
    · split at h
      · exact h
      · cases h
    · cases h
theorem vh_lab {a : Addr} {t : Tag} (h0 : Hs a = none) (hl : L a = some t) (hc : cov g t = true) : VH L g Hs H a = H a := by
  unfold VH
  rw [h0, hl]
  show (if cov g t = true then H a else none) = H a
  rw [if_pos hc]
theorem vh_tup (l : LabOk L Hs H) {a : Addr} {xs : List V} (h : Rd (VH L g Hs H) a (.tup xs)) : Rd Hs a (.tup xs) := by
  have key : ∀ u, VH L g Hs H a = some u → (∀ ys, u ≠ .lst ys) → Hs a = some u := fun u hu hn => by
    unfold VH at hu
    split at hu
    · rename_i e
      rw [e, hu]
    · split at hu
      · rename_i t e
        obtain ⟨_, ys, e2⟩ := l.lab a t e
        split at hu
        · rw [e2] at hu
          cases hu
          exact absurd rfl (hn ys)
        · cases hu
      · cases hu
  rcases h with h | ⟨o, h⟩
  · exact .inl (key _ h (by intro ys z; cases z))
  · exact .inr ⟨o, key _ h (by intro ys z; cases z)⟩
theorem vh_step (l : LabOk L Hs H) (t : Step Hs H Hs' H') : Sub (VH L g Hs H) (VH L g Hs' H') := fun a o h => by
  unfold VH at h
  split at h
  · rename_i e
    cases h
    exact vh_s a _ (t.s a _ e)
  · rename_i e0
    split at h
    · rename_i x e
      obtain ⟨h1, xs, h2⟩ := l.lab a x e
      split at h
      · rename_i hc
        rw [vh_lab ((t.ag a (by rw [h2]; intro z; cases z)).trans h1) e hc]
        exact t.h a _ h
      · cases h
    · cases h
theorem vh_tags (hg : ∀ t, cov g t = true → cov g' t = true) : Sub (VH L g Hs H) (VH L g' Hs H) := fun a o h => by
  unfold VH at h
  split at h
  · rename_i e
    cases h
    exact vh_s a _ e
  · rename_i e0
    split at h
    · rename_i x e
      split at h
      · rename_i hc
        rw [vh_lab e0 e (hg x hc)]
        exact h
      · cases h
    · cases h
end
theorem hasT_append (i : Nat) (b : Bool) : ∀ g h : List Tag, hasT i b (g ++ h) = (hasT i b g || hasT i b h)
  | [], h => by simp [hasT]
  | t :: g, h => by simp only [List.cons_append, hasT, hasT_append i b g h, Bool.or_assoc]
theorem cov_append (t : Tag) (g h : List Tag) : cov (g ++ h) t = (cov g t || cov h t) := by
  unfold cov
  rw [hasT_append, hasT_append]
  cases hasT t.1 true g <;> cases hasT t.1 true h <;> cases t.2 <;> cases hasT t.1 false g <;> cases hasT t.1 false h <;> rfl
theorem cov_left {t : Tag} {g : List Tag} (h : List Tag) (e : cov g t = true) : cov (g ++ h) t = true := by rw [cov_append, e]; rfl
theorem cov_right {t : Tag} {h : List Tag} (g : List Tag) (e : cov h t = true) : cov (g ++ h) t = true := by rw [cov_append, e, Bool.or_true]
theorem cov_pk {Φ : Fn} {e : E} {ρ : Rho} {r : R} (h0 : ev Φ e ρ = some r) {t : Tag} (h : cov (pkT e ρ r.2.tags) t = true) : cov r.2.tags t = true := by
  cases e with
  | var j =>
    unfold ev at h0
    unfold pkT at h
    simp only at h
    cases hx : ρ[j]? with
    | none => rw [hx] at h0; cases h0
    | some x =>
      rw [hx] at h h0
      cases x with
      | none => cases h0
      | some q =>
        obtain ⟨d, o⟩ := q
        cases o with
        | own =>
          simp only at h h0
          by_cases f : flat d = true
          · rw [if_pos f] at h
            cases t
            simp [cov, hasT] at h
          · rw [if_neg f] at h h0
            cases h0
            unfold cov at h ⊢
            simp only [Ow.tags, hasT, Bool.or_false] at h ⊢
            simp only [Bool.or_eq_true, Bool.and_eq_true] at h ⊢
            rcases h with h | h
            · simp at h
            · refine .inl ⟨h.2.1, by simp⟩
        | top g =>
          simp only at h h0
          cases h0
          have e1 : ((j, false) :: g : List Tag) = [(j, false)] ++ g := rfl
          have e2 : (Ow.sh ((j, true) :: g)).tags = [(j, true)] ++ g := rfl
          rw [e1, cov_append, Bool.or_eq_true] at h
          show cov ((Ow.sh ((j, true) :: g)).tags) t = true
          rw [e2, cov_append, Bool.or_eq_true]
          rcases h with h | h
          · refine .inl ?_
            unfold cov at h ⊢
            simp only [hasT, Bool.or_false] at h ⊢
            simp only [Bool.or_eq_true, Bool.and_eq_true] at h ⊢
            rcases h with h | h
            · simp at h
            · exact .inl ⟨h.2.1, by simp⟩
          · exact .inr h
        | sh g =>
          simp only at h h0
          cases h0
          exact h
  | _ => exact h

/-- what an expression gives: Hb the heap ahead of it -/
def RelR (K : PySem.W.Frag) (L : Lab) (Hb Hs H : Hp) (v : V) (r : R) : Prop :=
  match r.2 with
  | .own => ∃ fp, Ow1 K Hs H fp v r.1 ∧ fp.Nodup ∧ ∀ a ∈ fp, Hb a = none ∧ Hs a = none
  | .top g => ∃ a xs ds, r.1 = .list ds ∧ v = .ref a ∧ H a = some (.lst xs) ∧ Hb a = none ∧ Hs a = none ∧ RpA K (VH L g Hs H) xs ds
  | .sh g => Rp K (VH L g Hs H) v r.1
section
variable {L : Lab} {Hb Hb' Hs H Hs' H' Hs2 H2 : Hp} {g g' : List Tag} {K : PySem.W.Frag} {v : V} {d : D} {r : R}
theorem relS (h : Rp K (VH L g Hs H) v d) (l : LabOk L Hs H) : RelR K L Hb Hs H v (d, nmS d g) := by
  unfold nmS
  by_cases e : g.isEmpty = true
  · rw [if_pos e]
    have e2 : g = [] := by simpa using e
    subst e2
    exact h
  · rw [if_neg e]
    by_cases f : flat d = true
    · rw [if_pos f]
      exact rp_mono (Evl.Ex.trans (fun a o q => q) vh_s) (ow_rp (Hx := Hs) (Evl.Ex.refl _) (fun a ha => by cases ha) (flat_ow (Hs := Hs) (H := H) (fun a xs q => vh_tup l q) d v f h))
    · rw [if_neg f]
      exact h
theorem relT {p : Addr} {xs : List V} {ds : List D} (hp : H p = some (.lst xs)) (hb : Hb p = none) (hs : Hs p = none) (h : RpA K (VH L g Hs H) xs ds) (l : LabOk L Hs H) : RelR K L Hb Hs H (.ref p) (.list ds, nmT (.list ds) g) := by
  unfold nmT
  by_cases f : flats ds = true
  · show RelR K L Hb Hs H (.ref p) (.list ds, if flats ds = true then .own else .top g)
    rw [if_pos f]
    refine ⟨[p], .lst hp (flats_ow (fun a xs q => vh_tup l q) ds xs f h), List.nodup_cons.mpr ⟨fun z => (by cases z), List.nodup_nil⟩, fun a ha => ?_⟩
    have e : a = p := by simpa using ha
    rw [e]
    exact ⟨hb, hs⟩
  · show RelR K L Hb Hs H (.ref p) (.list ds, if flats ds = true then .own else .top g)
    rw [if_neg f]
    exact ⟨p, xs, ds, rfl, rfl, hp, hb, hs, h⟩
/-- a later state -/
theorem RelR.step (h : RelR K L Hb Hs H v r) (l : LabOk L Hs H) (t : Step Hs H Hs' H') : RelR K L Hb Hs' H' v r := by
  obtain ⟨d, o⟩ := r
  cases o with
  | own =>
    obtain ⟨fp, h1, h2, h3⟩ := h
    have hl := Ow1.lists _ _ _ h1
    refine ⟨fp, ow_mono t.s (fun a ha => ?_) h1, h2, fun a ha => ?_⟩
    · obtain ⟨xs, e⟩ := hl a ha
      rw [e, t.h a _ e]
    · obtain ⟨xs, e⟩ := hl a ha
      exact ⟨(h3 a ha).1, (t.ag a (by rw [e]; intro z; cases z)).trans (h3 a ha).2⟩
  | top g =>
    obtain ⟨a, xs, ds, e1, e2, e3, e4, e5, e6⟩ := h
    exact ⟨a, xs, ds, e1, e2, t.h a _ e3, e4, (t.ag a (by rw [e3]; intro z; cases z)).trans e5, rpa_mono (vh_step l t) e6⟩
  | sh g => exact rp_mono (vh_step l t) h
/-- from an elder start -/
theorem RelR.base (h : RelR K L Hb' Hs H v r) (e : Sub Hb Hb') : RelR K L Hb Hs H v r := by
  obtain ⟨d, o⟩ := r
  cases o with
  | own =>
    obtain ⟨fp, h1, h2, h3⟩ := h
    exact ⟨fp, h1, h2, fun a ha => ⟨e.back (h3 a ha).1, (h3 a ha).2⟩⟩
  | top g =>
    obtain ⟨a, xs, ds, e1, e2, e3, e4, e5, e6⟩ := h
    exact ⟨a, xs, ds, e1, e2, e3, e.back e4, e5, e6⟩
  | sh g => exact h
/-- the lists fp become shared -/
def addH (fp : List Addr) (Hs H : Hp) : Hp := fun a => if a ∈ fp then H a else Hs a
theorem addH_sub {fp : List Addr} (hf : ∀ a ∈ fp, Hs a = none) : Sub Hs (addH fp Hs H) := fun a o h => by
  unfold addH
  by_cases e : a ∈ fp
  · rw [hf a e] at h; cases h
  · rw [if_neg e]; exact h
theorem addH_h {fp : List Addr} (h : Sub Hs H) : Sub (addH fp Hs H) H := fun a o q => by
  unfold addH at q
  split at q
  · exact q
  · exact h a o q
theorem addH_in {fp : List Addr} {a : Addr} (h : a ∈ fp) : addH fp Hs H a = H a := by unfold addH; rw [if_pos h]
theorem addH_out {fp : List Addr} {a : Addr} (h : a ∉ fp) : addH fp Hs H a = Hs a := by unfold addH; rw [if_neg h]
/-- what has come is shared from now on: Hb is the heap ahead of it -/
theorem RelR.share (h : RelR K L Hb Hs H v r) (l : LabOk L Hs H) (hlab : ∀ a t, L a = some t → Hb a ≠ none) :
    ∃ Hs', Sub Hs Hs' ∧ Sub Hs' H ∧ (∀ a, Hb a ≠ none → Hs' a = Hs a) ∧ LabOk L Hs' H ∧ Rp K (VH L r.2.tags Hs' H) v r.1 := by
  have lk : ∀ fp : List Addr, (∀ a ∈ fp, Hb a = none ∧ Hs a = none) → Sub Hs (addH fp Hs H) ∧ Sub (addH fp Hs H) H ∧ (∀ a, Hb a ≠ none → addH fp Hs H a = Hs a) ∧ LabOk L (addH fp Hs H) H := fun fp hf => by
    have ag : ∀ a, Hb a ≠ none → addH fp Hs H a = Hs a := fun a ha => addH_out fun z => ha (hf a z).1
    exact ⟨addH_sub fun a ha => (hf a ha).2, addH_h l.sh, ag, addH_h l.sh, fun a t e => ⟨(ag a (hlab a t e)).trans (l.lab a t e).1, (l.lab a t e).2⟩⟩
  obtain ⟨d, o⟩ := r
  cases o with
  | own =>
    obtain ⟨fp, h1, h2, h3⟩ := h
    obtain ⟨q1, q2, q3, q4⟩ := lk fp h3
    refine ⟨addH fp Hs H, q1, q2, q3, q4, ow_rp (q1.trans vh_s) (fun a ha => ?_) h1⟩
    obtain ⟨xs, e⟩ := Ow1.lists _ _ _ h1 a ha
    exact (vh_s (L := L) (g := []) (H := H) a _ ((addH_in ha).trans e)).trans e.symm
  | top g =>
    obtain ⟨a, xs, ds, e1, e2, e3, e4, e5, e6⟩ := h
    obtain ⟨q1, q2, q3, q4⟩ := lk [a] (fun b hb => by
      have e : b = a := by simpa using hb
      rw [e]; exact ⟨e4, e5⟩)
    refine ⟨addH [a] Hs H, q1, q2, q3, q4, ?_⟩
    show Rp K (VH L g (addH [a] Hs H) H) v d
    have e1' : d = .list ds := e1
    rw [e1', e2]
    refine .lst (.inl (vh_s a _ ((addH_in (by simp)).trans e3))) (rpa_mono (fun b o hb => ?_) e6)
    unfold VH at hb
    split at hb
    · rename_i z
      cases hb
      exact vh_s b _ (q1 b _ z)
    · rename_i z0
      split at hb
      · rename_i t z
        split at hb
        · rename_i hc
          rw [vh_lab ((q3 b (hlab b t z)).trans z0) z hc]
          exact hb
        · cases hb
      · cases hb
  | sh g => exact ⟨Hs, Evl.Ex.refl _, l.sh, fun _ _ => rfl, l, h⟩
end

/-! ### the slots -/
/-- the def's entry: its heap, the shared part -/
structure Bas where
  H0 : Hp
  Hs0 : Hp
def SlotR (K : PySem.W.Frag) (Hs H : Hp) (L : Lab) (vh : List Tag → Hp) (i : Nat) (v : V) (r : R) : Prop :=
  match r.2 with
  | .own => (∃ a xs ds fp, r.1 = .list ds ∧ v = .ref a ∧ H a = some (.lst xs) ∧ L a = some (i, true) ∧ OwA K Hs H fp xs ds ∧ fp.Nodup ∧ ∀ b ∈ fp, L b = some (i, false)) ∨
      ((∀ ds, r.1 ≠ .list ds) ∧ ∃ fp, Ow1 K Hs H fp v r.1 ∧ fp.Nodup ∧ ∀ b ∈ fp, L b = some (i, false))
  | .top g => ∃ a xs ds, r.1 = .list ds ∧ v = .ref a ∧ H a = some (.lst xs) ∧ L a = some (i, true) ∧ RpA K (vh g) xs ds
  | .sh g => Rp K (vh g) v r.1
structure WFv (K : PySem.W.Frag) (B : Bas) (Hs H : Hp) (L : Lab) (vh : List Tag → Hp) (σ : L2.St) (ρ : Rho) : Prop where
  ex0 : Sub B.H0 H
  ag0 : ∀ a, B.H0 a ≠ none → Hs a = B.Hs0 a
  exs0 : Sub B.Hs0 Hs
  sub0 : Sub B.Hs0 B.H0
  lok : LabOk L Hs H
  lab0 : ∀ a t, L a = some t → B.H0 a = none
  len : σ.length = ρ.length
  slot : ∀ (i : Nat) (r : R), ρ[i]? = some (some r) → ∃ v, σ[i]? = some (some v) ∧ SlotR K Hs H L vh i v r
/-- within an expression; at a statement -/
abbrev WF (K : PySem.W.Frag) (B : Bas) (Hs H : Hp) (L : Lab) (σ : L2.St) (ρ : Rho) : Prop := WFv K B Hs H L (fun g => VH L g Hs H) σ ρ
abbrev WFS (K : PySem.W.Frag) (B : Bas) (Hs H : Hp) (L : Lab) (σ : L2.St) (ρ : Rho) : Prop := WFv K B Hs H L (fun _ => Hs) σ ρ
section
variable {L : Lab} {B : Bas} {Hs H Hs' H' : Hp} {g : List Tag} {K : PySem.W.Frag} {v : V} {d : D} {r : R} {σ : L2.St} {ρ : Rho} {i : Nat} {vh vh' : List Tag → Hp}
theorem slot_vh (h : SlotR K Hs H L vh i v r) (e : ∀ g, Sub (vh g) (vh' g)) : SlotR K Hs H L vh' i v r := by
  obtain ⟨d, o⟩ := r
  cases o with
  | own => exact h
  | top g =>
    obtain ⟨a, xs, ds, e1, e2, e3, e4, e5⟩ := h
    exact ⟨a, xs, ds, e1, e2, e3, e4, rpa_mono (e g) e5⟩
  | sh g => exact rp_mono (e g) h
theorem WFv.wf (w : WFS K B Hs H L σ ρ) : WF K B Hs H L σ ρ :=
  ⟨w.ex0, w.ag0, w.exs0, w.sub0, w.lok, w.lab0, w.len, fun i r h => let ⟨v, h1, h2⟩ := w.slot i r h; ⟨v, h1, slot_vh h2 fun _ => vh_s⟩⟩
theorem slot_step (h : SlotR K Hs H L vh i v r) (e : ∀ g, Sub (vh g) (vh' g)) (l : LabOk L Hs H) (t : Step Hs H Hs' H') : SlotR K Hs' H' L vh' i v r := by
  have hk : ∀ b x, L b = some x → H' b = H b := fun b x hb => by
    obtain ⟨_, xs, e⟩ := l.lab b x hb
    rw [e, t.h b _ e]
  obtain ⟨d, o⟩ := r
  cases o with
  | own =>
    rcases h with ⟨a, xs, ds, fp, e1, e2, e3, e4, e5, e6, e7⟩ | ⟨e0, fp, e5, e6, e7⟩
    · exact .inl ⟨a, xs, ds, fp, e1, e2, t.h a _ e3, e4, owa_mono t.s (fun b hb => hk b _ (e7 b hb)) e5, e6, e7⟩
    · exact .inr ⟨e0, fp, ow_mono t.s (fun b hb => hk b _ (e7 b hb)) e5, e6, e7⟩
  | top g =>
    obtain ⟨a, xs, ds, e1, e2, e3, e4, e5⟩ := h
    exact ⟨a, xs, ds, e1, e2, t.h a _ e3, e4, rpa_mono (e g) e5⟩
  | sh g => exact rp_mono (e g) h
theorem WFv.stepv (w : WFv K B Hs H L vh σ ρ) (e : ∀ g, Sub (vh g) (vh' g)) (t : Step Hs H Hs' H') : WFv K B Hs' H' L vh' σ ρ :=
  ⟨w.ex0.trans t.h, fun a ha => (t.ag a (w.ex0.ne ha)).trans (w.ag0 a ha), w.exs0.trans t.s, w.sub0, w.lok.step t, w.lab0, w.len,
    fun i r h => let ⟨v, h1, h2⟩ := w.slot i r h; ⟨v, h1, slot_step h2 e w.lok t⟩⟩
theorem WFv.step (w : WF K B Hs H L σ ρ) (t : Step Hs H Hs' H') : WF K B Hs' H' L σ ρ := w.stepv (fun g => vh_step w.lok t) t
theorem WFv.stepS (w : WFS K B Hs H L σ ρ) (t : Step Hs H Hs' H') : WFS K B Hs' H' L σ ρ := w.stepv (fun g => t.s) t
theorem WFv.labH (w : WFv K B Hs H L vh σ ρ) : ∀ a t, L a = some t → H a ≠ none := fun a t h => by
  obtain ⟨_, xs, e⟩ := w.lok.lab a t h
  rw [e]
  intro z; cases z

/-- freezing: the shared part becomes what the tags show -/
def unL (L : Lab) (g : List Tag) : Lab := fun a => match L a with
  | some t => if cov g t then none else some t
  | none => none
theorem unL_some {a : Addr} {t : Tag} (h : unL L g a = some t) : L a = some t ∧ cov g t = false := by
  unfold unL at h
  split at h
  · rename_i x e
    split at h
    · cases h
    · rename_i hc
      cases h
      exact ⟨e, by simpa using hc⟩
  · cases h
theorem unL_keep {a : Addr} {t : Tag} (h : L a = some t) (hc : cov g t = false) : unL L g a = some t := by
  unfold unL
  rw [h]
  show (if cov g t = true then none else some t) = some t
  rw [hc]
  rfl
theorem frzFrom_get (g : List Tag) : ∀ (k : Nat) (ρ : Rho) (i : Nat), (frzFrom g k ρ)[i]? = (ρ[i]?).map (frz1 g (k + i))
  | _, [], i => by simp [frzFrom]
  | k, x :: r, 0 => by simp [frzFrom]
  | k, x :: r, i + 1 => by
    unfold frzFrom
    rw [List.getElem?_cons_succ, List.getElem?_cons_succ, frzFrom_get g (k + 1) r i]
    have e : k + 1 + i = k + (i + 1) := by omega
    rw [e]
theorem frzFrom_len (g : List Tag) : ∀ (k : Nat) (ρ : Rho), (frzFrom g k ρ).length = ρ.length
  | _, [] => rfl
  | k, x :: r => by
    unfold frzFrom
    rw [List.length_cons, List.length_cons, frzFrom_len g (k + 1) r]
theorem frz_len (g : List Tag) (ρ : Rho) : (frz g ρ).length = ρ.length := by
  unfold frz
  split
  · rfl
  · exact frzFrom_len g 0 ρ
theorem frz1_nil (i : Nat) (x : Option R) : frz1 [] i x = x := by
  unfold frz1
  cases x with
  | none => rfl
  | some r =>
    obtain ⟨d, o⟩ := r
    cases o <;> rfl
theorem frz_get (g : List Tag) (ρ : Rho) (i : Nat) : (frz g ρ)[i]? = (ρ[i]?).map (frz1 g i) := by
  unfold frz
  split
  · rename_i e
    have e2 : g = [] := by simpa using e
    subst e2
    cases h : ρ[i]? with
    | none => rfl
    | some x => simp [frz1_nil]
  · rw [frzFrom_get, Nat.zero_add]
theorem cov_top (i : Nat) : cov g (i, true) = hasT i true g := by unfold cov; simp
theorem cov_deep (i : Nat) : cov g (i, false) = (hasT i true g || hasT i false g) := by unfold cov; simp
theorem WFv.freeze (w : WFS K B Hs H L σ ρ) (g : List Tag) : WFS K B (VH L g Hs H) H (unL L g) σ (frz g ρ) := by
  have sv : Sub (VH L g Hs H) H := vh_h w.lok.sh
  refine ⟨w.ex0, fun a ha => ?_, w.exs0.trans vh_s, w.sub0, ⟨sv, fun a t h => ?_⟩, fun a t h => w.lab0 a t (unL_some h).1, by rw [frz_len]; exact w.len, fun i r h => ?_⟩
  · rw [← w.ag0 a ha]
    unfold VH
    split
    · rename_i e; rw [e]
    · rename_i e0
      split
      · rename_i t e
        exact absurd (w.lab0 a t e) ha
      · exact e0.symm
  · obtain ⟨h1, h2⟩ := unL_some h
    refine ⟨?_, (w.lok.lab a t h1).2⟩
    unfold VH
    rw [(w.lok.lab a t h1).1, h1]
    show (if cov g t = true then H a else none) = none
    rw [h2]
    rfl
  · rw [frz_get] at h
    cases hx : ρ[i]? with
    | none => rw [hx] at h; cases h
    | some x =>
      rw [hx] at h
      have h' : frz1 g i x = some r := Option.some.inj h
      cases x with
      | none => unfold frz1 at h'; cases h'
      | some q =>
        obtain ⟨v, hv, hs⟩ := w.slot i q hx
        refine ⟨v, hv, ?_⟩
        obtain ⟨d, o⟩ := q
        have cell : ∀ b x, L b = some x → cov g x = true → VH L g Hs H b = H b := fun b x hb hc => vh_lab (w.lok.lab b x hb).1 hb hc
        cases o with
        | own =>
          unfold frz1 at h'
          by_cases t1 : hasT i true g = true
          · simp only [t1, if_true] at h'
            cases h'
            show Rp K (VH L g Hs H) v d
            rcases hs with ⟨a, xs, ds, fp, e1, e2, e3, e4, e5, e6, e7⟩ | ⟨e0, fp, e5, e6, e7⟩
            · have e1' : d = .list ds := e1
              rw [e1', e2]
              refine .lst (.inl ((cell a _ e4 (by rw [cov_top]; exact t1)).trans e3)) (owa_rp vh_s (fun b hb => cell b _ (e7 b hb) (by rw [cov_deep, t1]; rfl)) e5)
            · exact ow_rp vh_s (fun b hb => cell b _ (e7 b hb) (by rw [cov_deep, t1]; rfl)) e5
          · simp only [t1, if_false, Bool.false_eq_true] at h'
            by_cases t2 : hasT i false g = true
            · simp only [t2, if_true] at h'
              have cd : cov g (i, false) = true := by rw [cov_deep, t2, Bool.or_true]
              have ct : cov g (i, true) = false := by rw [cov_top]; simpa using t1
              rcases hs with ⟨a, xs, ds, fp, e1, e2, e3, e4, e5, e6, e7⟩ | ⟨e0, fp, e5, e6, e7⟩
              · have e1' : d = .list ds := e1
                subst e1'
                cases h'
                exact ⟨a, xs, ds, rfl, e2, e3, unL_keep e4 ct, owa_rp vh_s (fun b hb => cell b _ (e7 b hb) cd) e5⟩
              · have hr : r = (d, .sh []) := by
                  cases d with
                  | list ds => exact absurd rfl (e0 ds)
                  | _ => exact (Option.some.inj h').symm
                rw [hr]
                exact ow_rp vh_s (fun b hb => cell b _ (e7 b hb) cd) e5
            · simp only [t2, if_false, Bool.false_eq_true] at h'
              cases h'
              have cd : cov g (i, false) = false := by rw [cov_deep]; simp [t1, t2]
              have ct : cov g (i, true) = false := by rw [cov_top]; simpa using t1
              rcases hs with ⟨a, xs, ds, fp, e1, e2, e3, e4, e5, e6, e7⟩ | ⟨e0, fp, e5, e6, e7⟩
              · exact .inl ⟨a, xs, ds, fp, e1, e2, e3, unL_keep e4 ct, owa_mono vh_s (fun _ _ => rfl) e5, e6, fun b hb => unL_keep (e7 b hb) cd⟩
              · exact .inr ⟨e0, fp, ow_mono vh_s (fun _ _ => rfl) e5, e6, fun b hb => unL_keep (e7 b hb) cd⟩
        | top q =>
          unfold frz1 at h'
          obtain ⟨a, xs, ds, e1, e2, e3, e4, e5⟩ := hs
          by_cases t1 : hasT i true g = true
          · simp only [t1, if_true] at h'
            cases h'
            show Rp K (VH L g Hs H) v d
            have e1' : d = .list ds := e1
            rw [e1', e2]
            exact .lst (.inl ((cell a _ e4 (by rw [cov_top]; exact t1)).trans e3)) (rpa_mono vh_s e5)
          · simp only [t1, if_false, Bool.false_eq_true] at h'
            cases h'
            exact ⟨a, xs, ds, e1, e2, e3, unL_keep e4 (by rw [cov_top]; simpa using t1), rpa_mono vh_s e5⟩
        | sh q =>
          unfold frz1 at h'
          cases h'
          exact rp_mono vh_s hs
end
end Z
/-! ZD: readings of expressions, and the operations' rules over data. -/
namespace Z
open PySem L2 PySem.Spec PyProof.Rows

/-- the reading of an expression that means f -/
def rdE (K : PySem.W.Frag) (f : Rho → Option R) : TE := fun σ H Q => ∃ (B : Bas) (Hs : Hp) (L : Lab) (ρ : Rho) (r : R), WF K B Hs H L σ ρ ∧ f ρ = some r ∧
  ∀ v Hs' H', Step Hs H Hs' H' → RelR K L H Hs' H' v r → Q v H'
/-- a value that is only looked at -/
def Pk (K : PySem.W.Frag) (Hs H Hv : Hp) (v : V) : D → Prop
  | .list ds => ∃ a xs, v = .ref a ∧ Rd H a (.lst xs) ∧ RpA K Hv xs ds
  | .tuple ds => ∃ a xs, v = .ref a ∧ SqT K Hs a xs ∧ RpA K Hv xs ds
  | .none => v = .non
  | .bool b => v = .bl b
  | .int i => v = .int i
  | .str x => v = .str x
  | .dict _ => False
def rdP (K : PySem.W.Frag) (e : E) (f : Rho → Option R) : TE := fun σ H Q => ∃ (B : Bas) (Hs : Hp) (L : Lab) (ρ : Rho) (r : R), WF K B Hs H L σ ρ ∧ f ρ = some r ∧
  ∀ v Hs' H', Step Hs H Hs' H' → Pk K Hs' H' (VH L (pkT e ρ r.2.tags) Hs' H') v r.1 → Q v H'
/-- a test's -/
def rdT (K : PySem.W.Frag) (f : Rho → Option R) : TT := fun σ H Q => ∃ (B : Bas) (Hs : Hp) (L : Lab) (ρ : Rho) (r : R) (b : Bool), WF K B Hs H L σ ρ ∧ f ρ = some r ∧ truth r.1 = some b ∧
  ∀ Hs' H', Step Hs H Hs' H' → Q b H'
/-- a value that is handed on: shared -/
def rdF (K : PySem.W.Frag) (f : Rho → Option R) : TE := fun σ H Q => ∃ (B : Bas) (Hs : Hp) (L : Lab) (ρ : Rho) (r : R), WF K B Hs H L σ ρ ∧ f ρ = some r ∧
  ∀ v Hs' H', Step Hs H Hs' H' → Rp K (VH L r.2.tags Hs' H') v r.1 → Q v H'

theorem ite_some {α : Type} {c : Prop} [Decidable c] {x y : α} (h : (if c then some x else none) = some y) : c ∧ x = y := by
  by_cases z : c
  · rw [if_pos z] at h
    exact ⟨z, Option.some.inj h⟩
  · rw [if_neg z] at h
    cases h
section
variable {X : Cx} {x : Expr} {te te' : TE} {tt tt' : TT} {K : PySem.W.Frag} {Hs H Hs' H' Hv Hb : Hp} {L : Lab} {g : List Tag} {v : V} {d : D} {e : E} {Φ : Fn} {ρ : Rho} {r : R} {σ : L2.St} {B : Bas}
theorem pe_imp (h : PE X x te) (hi : ∀ σ H Q, te' σ H Q → te σ H Q) : PE X x te' := ⟨fun pins s σ H Q I q => h.run pins s σ H Q I (hi σ H Q q)⟩
theorem pt_imp (h : PT X x tt) (hi : ∀ σ H Q, tt' σ H Q → tt σ H Q) : PT X x tt' := ⟨fun pins s σ H Q I q => h.run pins s σ H Q I (hi σ H Q q)⟩
theorem pw_imp (h : PW X x tt) (hi : ∀ σ H Q, tt' σ H Q → tt σ H Q) : PW X x tt' := ⟨fun wh pins s σ H Q I q => h.run wh pins s σ H Q I (hi σ H Q q)⟩

theorem pk_of (l : LabOk L Hs H) (h : Rp K (VH L g Hs H) v d) : Pk K Hs H (VH L g Hs H) v d := by
  cases d with
  | none => cases h; rfl
  | bool b => cases h; rfl
  | int i => cases h; rfl
  | str y => cases h; rfl
  | list ds =>
    cases h with
    | lst h1 h2 => exact ⟨_, _, rfl, Evl.ex_rd (vh_h l.sh) h1, h2⟩
  | tuple ds =>
    cases h with
    | tup h1 h2 =>
      refine ⟨_, _, rfl, ?_, h2⟩
      rcases h1 with h1 | h1
      · exact .inl (vh_tup l h1)
      · exact .inr h1
  | dict _ => cases h
theorem pk_dp (s1 : Sub Hs H) (s2 : Sub Hv H) (h : Pk K Hs H Hv v d) : Dp K H v d := by
  cases d with
  | none => cases h; exact .non
  | bool b => cases h; exact .bl b
  | int i => cases h; exact .int i
  | str y => cases h; exact .str y
  | list ds =>
    obtain ⟨a, xs, rfl, h1, h2⟩ := h
    exact .lst (.inl h1) (RpA.dp _ _ (rpa_mono s2 h2))
  | tuple ds =>
    obtain ⟨a, xs, rfl, h1, h2⟩ := h
    exact .tup (Evl.ex_t s1 h1) (RpA.dp _ _ (rpa_mono s2 h2))
  | dict _ => exact h.elim
theorem ow_flat : ∀ (d : D) (v : V) (fp : List Addr), flat d = true → Ow1 K Hs H fp v d → fp = [] := by
  intro d v fp hf h
  cases fp with
  | nil => rfl
  | cons a fp =>
    exfalso
    have key : (∀ (d : D) (v : V) (fp : List Addr), flat d = true → Ow1 K Hs H fp v d → fp = []) := ow_flat0
    cases key d v _ hf h
where
  ow_flat0 : ∀ (d : D) (v : V) (fp : List Addr), flat d = true → Ow1 K Hs H fp v d → fp = []
    | .none, _, _, _, h => by cases h; rfl
    | .bool b, _, _, _, h => by cases h; rfl
    | .int i, _, _, _, h => by cases h; rfl
    | .str y, _, _, _, h => by cases h; rfl
    | .list ds, _, _, hf, h => by unfold flat at hf; cases hf
    | .tuple ds, _, _, hf, h => by
      unfold flat at hf
      cases h with
      | tup h1 h2 => exact ow_flats0 ds _ _ hf h2
    | .dict _, _, _, _, h => nomatch h
  ow_flats0 : ∀ (ds : List D) (v : List V) (fp : List Addr), flats ds = true → OwA K Hs H fp v ds → fp = []
    | [], _, _, _, h => by cases h; rfl
    | d :: ds, _, _, hf, h => by
      unfold flats at hf
      rw [Bool.and_eq_true] at hf
      cases h with
      | cons h1 h2 =>
        rw [ow_flat0 d _ _ hf.1 h1, ow_flats0 ds _ _ hf.2 h2]
        rfl
/-- a name's value -/
theorem var_rel {i : Nat} (w : WF K B Hs H L σ ρ) (h : ev Φ (.var i) ρ = some r) : ∃ v, σ[i]? = some (some v) ∧ Rp K (VH L r.2.tags Hs H) v r.1 ∧ Pk K Hs H (VH L (pkT (.var i) ρ r.2.tags) Hs H) v r.1 := by
  unfold ev at h
  cases hx : ρ[i]? with
  | none => rw [hx] at h; cases h
  | some q =>
    rw [hx] at h
    cases q with
    | none => cases h
    | some q =>
      obtain ⟨d, o⟩ := q
      obtain ⟨v, hv, hs⟩ := w.slot i (d, o) hx
      refine ⟨v, hv, ?_⟩
      have cell : ∀ (g : List Tag) (b : Addr) (x : Tag), L b = some x → cov g x = true → VH L g Hs H b = H b := fun g b x hb hc => vh_lab (w.lok.lab b x hb).1 hb hc
      have pkE : pkT (.var i) ρ r.2.tags = (match o with
        | .own => if flat d = true then [] else [(i, false)]
        | .top h => (i, false) :: h
        | .sh _ => r.2.tags) := by
        unfold pkT
        simp only [hx]
        cases o <;> rfl
      rw [pkE]
      cases o with
      | own =>
        simp only at h
        by_cases f : flat d = true
        · rw [if_pos f] at h
          cases h
          simp only [f, if_true]
          have e : Rp K Hs v d := by
            rcases hs with ⟨a, xs, ds, fp, e1, _⟩ | ⟨_, fp, e5, _, _⟩
            · have e1' : d = .list ds := e1
              rw [e1'] at f
              unfold flat at f
              cases f
            · have e6 := ow_flat d v fp f e5
              subst e6
              exact ow_rp (Evl.Ex.refl _) (fun a ha => by cases ha) e5
          have e2 : Rp K (VH L [] Hs H) v d := rp_mono vh_s e
          exact ⟨e2, pk_of w.lok e2⟩
        · rw [if_neg f] at h
          cases h
          simp only [f, if_false, Bool.false_eq_true]
          have c1 : cov [(i, true)] (i, true) = true := by simp [cov, hasT]
          have c2 : cov [(i, true)] (i, false) = true := by simp [cov, hasT]
          have c3 : cov [(i, false)] (i, false) = true := by simp [cov, hasT]
          rcases hs with ⟨a, xs, ds, fp, e1, e2, e3, e4, e5, e6, e7⟩ | ⟨e0, fp, e5, e6, e7⟩
          · have e1' : d = .list ds := e1
            subst e1'
            subst e2
            refine ⟨.lst (.inl ((cell _ a _ e4 c1).trans e3)) (owa_rp vh_s (fun b hb => cell _ b _ (e7 b hb) c2) e5), ?_⟩
            exact ⟨a, xs, rfl, .inl e3, owa_rp vh_s (fun b hb => cell _ b _ (e7 b hb) c3) e5⟩
          · refine ⟨ow_rp vh_s (fun b hb => cell _ b _ (e7 b hb) c2) e5, ?_⟩
            exact pk_of w.lok (ow_rp vh_s (fun b hb => cell _ b _ (e7 b hb) c3) e5)
      | top g =>
        simp only at h
        cases h
        obtain ⟨a, xs, ds, e1, e2, e3, e4, e5⟩ := hs
        have e1' : d = .list ds := e1
        subst e1'
        subst e2
        have mono : ∀ b : Bool, Sub (VH L g Hs H) (VH L ((i, b) :: g) Hs H) := fun b => vh_tags fun t ht => by
          have e : ((i, b) :: g : List Tag) = [(i, b)] ++ g := rfl
          rw [e]
          exact cov_right _ ht
        have c1 : cov ((i, true) :: g) (i, true) = true := by simp [cov, hasT]
        exact ⟨.lst (.inl ((cell _ a _ e4 c1).trans e3)) (rpa_mono (mono true) e5), ⟨a, xs, rfl, .inl e3, rpa_mono (mono false) e5⟩⟩
      | sh g =>
        simp only at h
        cases h
        exact ⟨hs, pk_of w.lok hs⟩
theorem sh_of_var {i : Nat} (h : ev Φ (.var i) ρ = some r) : ∃ g, r.2 = .sh g := by
  unfold ev at h
  split at h
  · split at h <;> (cases h; exact ⟨_, rfl⟩)
  · cases h; exact ⟨_, rfl⟩
  · cases h; exact ⟨_, rfl⟩
  · cases h
/-- the slots' readings of a name -/
theorem varE {i : Nat} (h : PE X x (tVar i)) : PE X x (rdE K (ev Φ (.var i))) := pe_imp h fun σ H Q q => by
  obtain ⟨B, Hs, L, ρ, r, w, hf, hq⟩ := q
  obtain ⟨v, hv, hr, _⟩ := var_rel w hf
  refine ⟨v, hv, hq v Hs H (Step.refl w.lok.sh) ?_⟩
  obtain ⟨g, hg⟩ := sh_of_var hf
  obtain ⟨d, o⟩ := r
  have hg' : o = .sh g := hg
  subst hg'
  exact hr
theorem varP {i : Nat} (h : PE X x (tVar i)) : PE X x (rdP K (.var i) (ev Φ (.var i))) := pe_imp h fun σ H Q q => by
  obtain ⟨B, Hs, L, ρ, r, w, hf, hq⟩ := q
  obtain ⟨v, hv, _, hp⟩ := var_rel w hf
  exact ⟨v, hv, hq v Hs H (Step.refl w.lok.sh) hp⟩
/-- what was given, shared -/
theorem toF {f : Rho → Option R} (h : PE X x (rdE K f)) : PE X x (rdF K f) := pe_imp h fun σ H Q q => by
  obtain ⟨B, Hs, L, ρ, r, w, hf, hq⟩ := q
  refine ⟨B, Hs, L, ρ, r, w, hf, fun v Hs' H' t rel => ?_⟩
  obtain ⟨Hs2, q1, q2, q3, q4, q5⟩ := rel.share (w.lok.step t) w.labH
  exact hq v Hs2 H' ⟨t.s.trans q1, t.h, q2, fun a ha => (q3 a ha).trans (t.ag a ha)⟩ q5
theorem toP (hn : ∀ i, e ≠ .var i) (h : PE X x (rdE K (ev Φ e))) : PE X x (rdP K e (ev Φ e)) := pe_imp (toF h) fun σ H Q q => by
  obtain ⟨B, Hs, L, ρ, r, w, hf, hq⟩ := q
  refine ⟨B, Hs, L, ρ, r, w, hf, fun v Hs' H' t rel => hq v Hs' H' t ?_⟩
  have e1 : pkT e ρ r.2.tags = r.2.tags := by
    cases e with
    | var i => exact absurd rfl (hn i)
    | _ => rfl
  rw [e1]
  exact pk_of (w.lok.step t) rel
theorem truV_of (s1 : Sub Hs H) {b : Bool} (h : Pk K Hs H Hv v d) (hb : truth d = some b) : TruV K v H b := by
  cases d with
  | none => cases h; cases hb; rfl
  | bool c => cases h; cases hb; rfl
  | int i => cases h; cases hb; rfl
  | str y =>
    cases h
    have hb' : (if y.length ≤ 1000000 then some ((y.length : Int) != 0) else none) = some b := hb
    obtain ⟨z, e⟩ := ite_some hb'
    exact ⟨Nat.le_trans z (by decide), e.symm⟩
  | list ds =>
    obtain ⟨a, xs, rfl, h1, h2⟩ := h
    cases hb
    refine .inl ⟨xs, .inl h1, ?_⟩
    have e := h2.length
    cases xs <;> cases ds <;> first | rfl | cases e
  | tuple ds =>
    obtain ⟨a, xs, rfl, h1, h2⟩ := h
    cases hb
    refine .inr (.inl ⟨xs, Evl.ex_t s1 h1, ?_⟩)
    have e := h2.length
    cases xs <;> cases ds <;> first | rfl | cases e
  | dict _ => exact h.elim
/-- a test by a value's truth -/
theorem toT (h : PE X x (rdP K e (ev Φ e))) (hK : X.K = K) (he : ∀ whole, isTrue x X.env whole = (do let v ← whole; standAt x.pos; holding [v] (truthy v))) : PT X x (rdT K (ev Φ e)) := pt_imp (pt_truth h he) fun σ H Q q => by
  obtain ⟨B, Hs, L, ρ, r, b, w, hf, hb, hq⟩ := q
  refine ⟨B, Hs, L, ρ, r, w, hf, fun v Hs' H' t p => ⟨b, ?_, hq Hs' H' t⟩⟩
  rw [hK]
  exact truV_of t.sh p hb
end

/-! ### operations over data -/
def Val1 (K : PySem.W.Frag) (o : Op) (r : V → Hp → VK → Prop) : Prop :=
  ∀ (L : Lab) (Hb Hs H : Hp) (v : V) (d : D) (g : List Tag) (res : R) (Q : VK), LabOk L Hs H → Sub Hb H → Pk K Hs H (VH L g Hs H) v d → opR o [(d, g)] = some res →
    (∀ w Hs' H', Step Hs H Hs' H' → RelR K L Hb Hs' H' w res → Q w H') → r v H Q
def Val2 (K : PySem.W.Frag) (o : Op) (r : R2) : Prop :=
  ∀ (L : Lab) (Hb Hs H : Hp) (v u : V) (d e : D) (g h : List Tag) (res : R) (Q : VK), LabOk L Hs H → Sub Hb H → Pk K Hs H (VH L g Hs H) v d → Pk K Hs H (VH L h Hs H) u e → opR o [(d, g), (e, h)] = some res →
    (∀ w Hs' H', Step Hs H Hs' H' → RelR K L Hb Hs' H' w res → Q w H') → r v u H Q
section
variable {K : PySem.W.Frag} {Hs H Hs' H' Hv Hb : Hp} {L : Lab} {g h : List Tag} {v u : V} {d e : D} {Φ : Fn} {ρ : Rho} {res : R} {Q : VK} {o : Op} {a b : E} {r1 : V → Hp → VK → Prop} {r2 : R2}
theorem opR_inv {ps : List (D × List Tag)} (hr : opR o ps = some res) : ∃ d t, opF o (ps.map (·.1)) = some (d, t) ∧ res = (d, if t = true then nmT d (ps.map (·.2)).flatten else nmS d (ps.map (·.2)).flatten) := by
  unfold opR at hr
  split at hr
  · rename_i d' e'
    cases hr
    exact ⟨d', true, e', rfl⟩
  · rename_i d' e'
    cases hr
    exact ⟨d', false, e', rfl⟩
  · cases hr
theorem opR1 (hr : opR o [(d, g)] = some res) : ∃ d' t, opF o [d] = some (d', t) ∧ res = (d', if t = true then nmT d' g else nmS d' g) := by
  obtain ⟨d', t, h1, h2⟩ := opR_inv hr
  have e1 : (List.map (fun x : D × List Tag => x.2) [(d, g)]).flatten = g := by simp
  rw [e1] at h2
  exact ⟨d', t, h1, h2⟩
theorem opR2 (hr : opR o [(d, g), (e, h)] = some res) : ∃ d' t, opF o [d, e] = some (d', t) ∧ res = (d', if t = true then nmT d' (g ++ h) else nmS d' (g ++ h)) := by
  obtain ⟨d', t, h1, h2⟩ := opR_inv hr
  have e1 : (List.map (fun x : D × List Tag => x.2) [(d, g), (e, h)]).flatten = g ++ h := by simp
  rw [e1] at h2
  exact ⟨d', t, h1, h2⟩
theorem un_red (hv : Val1 K o r1) : ∀ σ H Q, rdE K (ev Φ (.op o (.cons a .nil))) σ H Q → rdP K a (ev Φ a) σ H (fun x H1 => r1 x H1 Q) := by
  intro σ H Q q
  obtain ⟨B, Hs, L, ρ, res, w, hf, hq⟩ := q
  unfold ev evps evps at hf
  cases ha : ev Φ a ρ with
  | none => rw [ha] at hf; cases hf
  | some ra =>
    rw [ha] at hf
    exact ⟨B, Hs, L, ρ, ra, w, ha, fun v Hs' H' t p => hv L H Hs' H' v ra.1 _ res Q (w.lok.step t) t.h p hf fun w' Hs2 H2 t2 rel => hq w' Hs2 H2 (t.trans t2) rel⟩
theorem pk_mono (s1 : Sub Hs Hs') (s2 : Sub H H') {Hv Hv' : Hp} (s3 : Sub Hv Hv') (h : Pk K Hs H Hv v d) : Pk K Hs' H' Hv' v d := by
  cases d with
  | list ds =>
    obtain ⟨a, xs, e, h1, h2⟩ := h
    exact ⟨a, xs, e, Evl.ex_rd s2 h1, rpa_mono s3 h2⟩
  | tuple ds =>
    obtain ⟨a, xs, e, h1, h2⟩ := h
    exact ⟨a, xs, e, Evl.ex_t s1 h1, rpa_mono s3 h2⟩
  | _ => exact h
theorem bin_red (hv : Val2 K o r2) : ∀ σ H Q, rdE K (ev Φ (.op o (.cons a (.cons b .nil)))) σ H Q → rdP K a (ev Φ a) σ H (fun x H1 => rdP K b (ev Φ b) σ H1 fun y H2 => r2 x y H2 Q) := by
  intro σ H Q q
  obtain ⟨B, Hs, L, ρ, res, w, hf, hq⟩ := q
  unfold ev evps evps evps at hf
  cases ha : ev Φ a ρ with
  | none => rw [ha] at hf; cases hf
  | some ra =>
    rw [ha] at hf
    cases hb : ev Φ b ρ with
    | none => rw [hb] at hf; cases hf
    | some rb =>
      rw [hb] at hf
      exact ⟨B, Hs, L, ρ, ra, w, ha, fun v Hs' H' t p => ⟨B, Hs', L, ρ, rb, w.step t, hb, fun u Hs2 H2 t2 p2 =>
        hv L H Hs2 H2 v u ra.1 rb.1 _ _ res Q ((w.lok.step t).step t2) (t.h.trans t2.h) (pk_mono t2.s t2.h (vh_step (w.lok.step t) t2) p) p2 hf fun w' Hs3 H3 t3 rel => hq w' Hs3 H3 ((t.trans t2).trans t3) rel⟩⟩

/-! the ends of a rule: an atom; a new list; a new tuple -/
theorem fin_at (l : LabOk L Hs H) (hQ : ∀ w Hs' H', Step Hs H Hs' H' → RelR K L Hb Hs' H' w (d, nmS d g) → Q w H') (hr : Rp K Hs v d) : Q v H :=
  hQ v Hs H (Step.refl l.sh) (relS (rp_mono vh_s hr) l)
theorem fin_sh (l : LabOk L Hs H) (hQ : ∀ w Hs' H', Step Hs H Hs' H' → RelR K L Hb Hs' H' w (d, nmS d g) → Q w H') (hr : Rp K (VH L g Hs H) v d) : Q v H :=
  hQ v Hs H (Step.refl l.sh) (relS hr l)
theorem step_lst {p : Addr} {o : HO} (s : Sub Hs H) (hp : H p = none) : Step Hs H Hs (upd H p o) :=
  ⟨Evl.Ex.refl _, Evl.Ex.new hp, s.trans (Evl.Ex.new hp), fun _ _ => rfl⟩
theorem step_tup {p : Addr} {o : HO} (s : Sub Hs H) (hp : H p = none) : Step Hs H (upd Hs p o) (upd H p o) := by
  have hs : Hs p = none := s.back hp
  refine ⟨Evl.Ex.new hs, Evl.Ex.new hp, fun a x q => ?_, fun a ha => ?_⟩
  · by_cases z : a = p
    · subst z; rw [upd_same] at q ⊢; exact q
    · rw [upd_ne z] at q ⊢
      exact s a x q
  · exact upd_ne fun z => ha (z ▸ hp)
theorem fin_lst {p : Addr} {xs : List V} {ds : List D} (l : LabOk L Hs H) (sb : Sub Hb H) (hQ : ∀ w Hs' H', Step Hs H Hs' H' → RelR K L Hb Hs' H' w (.list ds, nmT (.list ds) g) → Q w H') (hp : H p = none) (hr : RpA K (VH L g Hs H) xs ds) :
    Q (.ref p) (upd H p (.lst xs)) := by
  have st : Step Hs H Hs (upd H p (.lst xs)) := step_lst l.sh hp
  exact hQ _ Hs _ st (relT upd_same (sb.back hp) (l.sh.back hp) (rpa_mono (vh_step l st) hr) (l.step st))
theorem fin_tup {p : Addr} {xs : List V} {ds : List D} (l : LabOk L Hs H) (hQ : ∀ w Hs' H', Step Hs H Hs' H' → RelR K L Hb Hs' H' w (.tuple ds, nmS (.tuple ds) g) → Q w H') (hp : H p = none) (hr : RpA K (VH L g Hs H) xs ds) :
    Q (.ref p) (upd H p (.tup xs)) := by
  have st : Step Hs H (upd Hs p (.tup xs)) (upd H p (.tup xs)) := step_tup l.sh hp
  exact hQ _ _ _ st (relS (.tup (.inl (.inl (vh_s p _ upd_same))) (rpa_mono (vh_step l st) hr)) (l.step st))
theorem vh_left (g h : List Tag) : Sub (VH L g Hs H) (VH L (g ++ h) Hs H) := vh_tags fun _ ht => cov_left _ ht
theorem vh_right (g h : List Tag) : Sub (VH L h Hs H) (VH L (g ++ h) Hs H) := vh_tags fun _ ht => cov_right _ ht
end
end Z
/-! ZO: each operation's rule. -/
namespace Z
open PySem L2 PySem.Spec PyProof.Rows

section
variable {K : PySem.W.Frag} {Hs H Hs' H' Hv Hb : Hp} {L : Lab} {g h : List Tag} {v u : V} {d e : D} {res : R} {Q : VK}
theorem line_of {n : Nat} (h : n ≤ 1000000) : n ≤ sizeLine := Nat.le_trans h (by decide)
theorem sql_of {a : Addr} {xs : List V} (h : Rd H a (.lst xs)) : SqL K H a xs := .inl h

/-! ### numbers -/
theorem v_neg : Val1 K .neg (rU fun i => .int (-i)) := by
  intro L Hb Hs H v d g res Q l sb p hr hQ
  obtain ⟨d', t, h1, rfl⟩ := opR1 hr
  cases d with
  | int i =>
    cases h1
    cases p
    exact ⟨i, rfl, fin_at l hQ (.int _)⟩
  | _ => cases h1
theorem v_not : Val1 K .not_ (fun x H Q => ∃ k, TruV K x H k ∧ Q (.bl (!k)) H) := by
  intro L Hb Hs H v d g res Q l sb p hr hQ
  obtain ⟨d', t, h1, rfl⟩ := opR1 hr
  have h2 : (truth d).map (fun b => ((PyData.bool (!b)), false)) = some (d', t) := h1
  cases hb : truth d with
  | none => rw [hb] at h2; cases h2
  | some b =>
    rw [hb] at h2
    cases h2
    exact ⟨b, truV_of l.sh p hb, fin_at l hQ (.bl _)⟩
def rAddK (K : PySem.W.Frag) : R2 := fun x y H Q => rI0 (fun i j => .int (i + j)) x y H Q ∨ (∃ i j : Str, x = .str i ∧ y = .str j ∧ i.length + j.length ≤ sizeLine ∧ Q (.str (i ++ j)) H) ∨
  (∃ l b xs zs, x = .ref l ∧ y = .ref b ∧ Rd H l (.lst xs) ∧ Rd H b (.lst zs) ∧ xs.length + zs.length ≤ sizeLine ∧ ∀ p, H p = none → Q (.ref p) (upd H p (.lst (xs ++ zs)))) ∨ rCatA K x y H Q
theorem v_add : Val2 K .add (rAddK K) := by
  intro L Hb Hs H v u d e g h res Q l sb p1 p2 hr hQ
  obtain ⟨d', t, h1, rfl⟩ := opR2 hr
  have h2 : oAdd d e = some (d', t) := h1
  cases d with
  | int i =>
    cases e with
    | int j => cases h2; cases p1; cases p2; exact .inl ⟨i, j, rfl, rfl, fin_at l hQ (.int _)⟩
    | _ => cases h2
  | str x =>
    cases e with
    | str y =>
      have h3 : (if x.length + y.length ≤ 1000000 then some (PyData.str (x ++ y), false) else none) = some (d', t) := h2
      obtain ⟨z, e3⟩ := ite_some h3
      cases e3
      cases p1
      cases p2
      exact .inr (.inl ⟨x, y, rfl, rfl, line_of z, fin_at l hQ (.str _)⟩)
    | _ => cases h2
  | list xs =>
    cases e with
    | list ys =>
      have h3 : (if xs.length + ys.length ≤ 1000000 then some (PyData.list (xs ++ ys), true) else none) = some (d', t) := h2
      obtain ⟨z, e3⟩ := ite_some h3
      cases e3
      obtain ⟨a, vs, rfl, a1, a2⟩ := p1
      obtain ⟨b, ws, rfl, b1, b2⟩ := p2
      refine .inr (.inr (.inl ⟨a, b, vs, ws, rfl, rfl, a1, b1, ?_, fun p hp => ?_⟩))
      · rw [a2.length, b2.length]; exact line_of z
      · exact fin_lst l sb hQ hp ((rpa_mono (vh_left g h) a2).append (rpa_mono (vh_right g h) b2))
    | _ => cases h2
  | tuple xs =>
    cases e with
    | tuple ys =>
      have h3 : (if xs.length + ys.length ≤ 1000000 then some (PyData.tuple (xs ++ ys), false) else none) = some (d', t) := h2
      obtain ⟨z, e3⟩ := ite_some h3
      cases e3
      obtain ⟨a, vs, rfl, a1, a2⟩ := p1
      obtain ⟨b, ws, rfl, b1, b2⟩ := p2
      have a3 := rpa_mono (vh_left g h) a2
      have b3 := rpa_mono (vh_right g h) b2
      refine .inr (.inr (.inr ⟨a, b, vs, ws, rfl, rfl, Evl.ex_t l.sh a1, Evl.ex_t l.sh b1, ?_, fun e1 => ?_, fun e1 e2 => ?_, fun _ _ p hp => ?_⟩))
      · rw [a2.length, b2.length]; exact line_of z
      · subst e1
        cases a3
        exact fin_sh l hQ (.tup (Evl.ex_t vh_s b1) b3)
      · subst e2
        cases b3
        rw [List.append_nil] at hQ
        exact fin_sh l hQ (.tup (Evl.ex_t vh_s a1) a3)
      · exact fin_tup l hQ hp (a3.append b3)
    | _ => cases h2
  | _ => cases h2
theorem v_sub : Val2 K .sub (rI0 fun i j => .int (i - j)) := by
  intro L Hb Hs H v u d e g h res Q l sb p1 p2 hr hQ
  obtain ⟨d', t, h1, rfl⟩ := opR2 hr
  have h2 : oSub d e = some (d', t) := h1
  cases d with
  | int i =>
    cases e with
    | int j => cases h2; cases p1; cases p2; exact ⟨i, j, rfl, rfl, fin_at l hQ (.int _)⟩
    | _ => cases h2
  | _ => cases h2
def rMulK : R2 := fun x y H Q => rI CMul (fun i j => .int (i * j)) x y H Q ∨ rI CMulW (fun i j => .int (i * j)) x y H Q ∨
  (∃ l k xs, x = .ref l ∧ y = .int k ∧ Rd H l (.lst xs) ∧ -(2 ^ 63) ≤ k ∧ k < 2 ^ 63 ∧ xs.length * k.toNat ≤ sizeLine ∧ ∀ p, H p = none → Q (.ref p) (upd H p (.lst (List.replicate k.toNat xs).flatten)))
theorem v_mul : Val2 K .mul rMulK := by
  intro L Hb Hs H v u d e g h res Q l sb p1 p2 hr hQ
  obtain ⟨d', t, h1, rfl⟩ := opR2 hr
  have h2 : oMul d e = some (d', t) := h1
  cases d with
  | int i =>
    cases e with
    | int j =>
      have h3 : (if mulOk i j = true then some (PyData.int (i * j), false) else none) = some (d', t) := h2
      obtain ⟨z, e3⟩ := ite_some h3
      cases e3
      cases p1
      cases p2
      unfold mulOk small at z
      simp only [Bool.or_eq_true, Bool.and_eq_true, decide_eq_true_eq] at z
      rcases z with (z | z) | z
      · exact .inl ⟨i, j, rfl, rfl, .inl ⟨by omega, by omega⟩, fin_at l hQ (.int _)⟩
      · exact .inl ⟨i, j, rfl, rfl, .inr ⟨by omega, by omega⟩, fin_at l hQ (.int _)⟩
      · exact .inr (.inl ⟨i, j, rfl, rfl, z, fin_at l hQ (.int _)⟩)
    | _ => cases h2
  | list xs =>
    cases e with
    | int k =>
      have h3 : (if k ≤ 1000000 ∧ -1000000 ≤ k ∧ xs.length * k.toNat ≤ 1000000 then some (PyData.list (List.replicate k.toNat xs).flatten, true) else none) = some (d', t) := h2
      obtain ⟨⟨z1, z2, z3⟩, e3⟩ := ite_some h3
      cases e3
      obtain ⟨a, vs, rfl, a1, a2⟩ := p1
      cases p2
      refine .inr (.inr ⟨a, k, vs, rfl, rfl, a1, by omega, by omega, ?_, fun p hp => ?_⟩)
      · rw [a2.length]; exact line_of z3
      · exact fin_lst l sb hQ hp (rpa_mono (vh_left g h) (a2.rep _))
    | _ => cases h2
  | _ => cases h2
def rDivK : R2 := fun x y H Q => rI CDivN (fun i j => .int (i.fdiv j)) x y H Q ∨ rI CDivW (fun i j => .int (i / j)) x y H Q
theorem v_div : Val2 K .fdiv rDivK := by
  intro L Hb Hs H v u d e g h res Q l sb p1 p2 hr hQ
  obtain ⟨d', t, h1, rfl⟩ := opR2 hr
  have h2 : oDiv d e = some (d', t) := h1
  cases d with
  | int i =>
    cases e with
    | int j =>
      have h3 : (if divOk j = true then some (PyData.int (i.fdiv j), false) else none) = some (d', t) := h2
      obtain ⟨z, e3⟩ := ite_some h3
      cases e3
      cases p1
      cases p2
      unfold divOk at z
      simp only [Bool.or_eq_true, Bool.and_eq_true, decide_eq_true_eq] at z
      obtain ⟨z0, z | ⟨z1, z2⟩⟩ := z
      · exact .inl ⟨i, j, rfl, rfl, ⟨z0, z⟩, fin_at l hQ (.int _)⟩
      · refine .inr ⟨i, j, rfl, rfl, ⟨z1, z2⟩, ?_⟩
        show Q (V.int (i / j)) H
        rw [← Int.fdiv_eq_ediv_of_nonneg i (Int.le_of_lt z1)]
        exact fin_at l hQ (.int _)
    | _ => cases h2
  | _ => cases h2
theorem v_mod : Val2 K .mod (rI (fun _ j => j ≠ 0) fun i j => .int (i.fmod j)) := by
  intro L Hb Hs H v u d e g h res Q l sb p1 p2 hr hQ
  obtain ⟨d', t, h1, rfl⟩ := opR2 hr
  have h2 : oMod d e = some (d', t) := h1
  cases d with
  | int i =>
    cases e with
    | int j =>
      have h3 : (if j = 0 then none else some (PyData.int (i.fmod j), false)) = some (d', t) := h2
      by_cases z : j = 0
      · rw [if_pos z] at h3; cases h3
      · rw [if_neg z] at h3
        cases h3
        cases p1
        cases p2
        exact ⟨i, j, rfl, rfl, z, fin_at l hQ (.int _)⟩
    | _ => cases h2
  | _ => cases h2
theorem v_pow : Val2 K .pow (rI CPow fun i j => .int (i ^ j.toNat)) := by
  intro L Hb Hs H v u d e g h res Q l sb p1 p2 hr hQ
  obtain ⟨d', t, h1, rfl⟩ := opR2 hr
  have h2 : oPow d e = some (d', t) := h1
  cases d with
  | int i =>
    cases e with
    | int j =>
      have h3 : (if 0 ≤ j ∧ j ≤ 1000000 ∧ i.natAbs < 18446744073709551616 then some (PyData.int (i ^ j.toNat), false) else none) = some (d', t) := h2
      obtain ⟨z, e3⟩ := ite_some h3
      cases e3
      cases p1
      cases p2
      exact ⟨i, j, rfl, rfl, z, fin_at l hQ (.int _)⟩
    | _ => cases h2
  | _ => cases h2
theorem v_shl : Val2 K .shl (rI CPow fun i j => .int (i * 2 ^ j.toNat)) := by
  intro L Hb Hs H v u d e g h res Q l sb p1 p2 hr hQ
  obtain ⟨d', t, h1, rfl⟩ := opR2 hr
  have h2 : oShl d e = some (d', t) := h1
  cases d with
  | int i =>
    cases e with
    | int j =>
      have h3 : (if 0 ≤ j ∧ j ≤ 1000000 ∧ i.natAbs < 18446744073709551616 then some (PyData.int (i * 2 ^ j.toNat), false) else none) = some (d', t) := h2
      obtain ⟨z, e3⟩ := ite_some h3
      cases e3
      cases p1
      cases p2
      exact ⟨i, j, rfl, rfl, z, fin_at l hQ (.int _)⟩
    | _ => cases h2
  | _ => cases h2
end

/-! ### the rules of list + list, list * int over lists that are read -/
section
variable {X : Cx} {pins : List (Addr × Obj)} {σ : L2.St} {H : Hp} {s : Shared}
theorem rd_at (I : Inv X pins σ H s) {a : Addr} {xs : List V} (h : Rd H a (.lst xs)) : xs.length ≤ sizeLine ∧ ∃ (ws : List Value) (m : Nat), Vals xs ws ∧ s.heap.get? a = some { cls := .type "list", data := .seq ws.toArray m } := by
  obtain ⟨z, ws, m, r, e⟩ := h.ok I.hok
  exact ⟨z, ws, m, r, e⟩
theorem o_add : OpR X (binaryOp .Add) (rAddK X.K) := by
  refine op_add.or (op_add_str.or (OpR.or ?_ op_catA))
  intro pins s σ H x y v u Q I rx ry q
  obtain ⟨a, b, xs, ys, rfl, rfl, ha, hb, hz, q⟩ := q
  cases rx
  cases ry
  obtain ⟨z1, ws, m, r1, e1⟩ := rd_at I ha
  obtain ⟨z2, ws', m', r2, e2⟩ := rd_at I hb
  have n1 := r1.length
  have n2 := r2.length
  refine PySem.P.add_list e1 e2 ?_ (by simp only [List.size_toArray]; omega)
  have ea : ws.toArray ++ ws'.toArray = (ws ++ ws').toArray := by simp
  rw [ea]
  refine ⟨.ref s.heap.objs.size, _, I.lnew (t' := s.toks) (r1.append r2) ?_, rfl, q _ I.fresh⟩
  rw [List.length_append]
  exact hz
theorem o_mul : OpR X (binaryOp .Mult) rMulK := by
  refine op_mul.or (op_mulW.or ?_)
  intro pins s σ H x y v u Q I rx ry q
  obtain ⟨a, k, xs, rfl, rfl, ha, h1, h2, hz, q⟩ := q
  rcases ha with ha | ⟨ob, ha⟩
  · exact op_rep pins s σ H _ _ v u Q I rx ry ⟨a, k, xs, rfl, rfl, ha, h1, h2, hz, q⟩
  · -- a locked list: the rule of a list that is only read
    cases rx
    obtain ⟨t, rfl⟩ := ry
    obtain ⟨z1, ws, m, r1, e1⟩ := rd_at I (.inr ⟨ob, ha⟩)
    have n1 := r1.length
    have c1 : ¬ ws.toArray.size * k.toNat > (2 ^ 63 - 1) / 8 := by
      have : (sizeLine : Nat) ≤ (2 ^ 63 - 1) / 8 := by decide
      simp only [List.size_toArray]
      rw [← n1]
      omega
    have c2 : ¬ (!Builtin.List.listFitsIndex k) = true := by
      rw [fitsIndex_both h1 h2]
      decide
    have c3 : ¬ Builtin.List.listTooLong (ws.toArray.size * k.toNat) = true := by
      rw [notLongL (by simp only [List.size_toArray]; rw [← n1]; exact hz)]
      decide
    have c4 : List.foldl (fun x1 x2 => x1 ++ x2) #[] (List.replicate (if ws.toArray.isEmpty = true then 0 else k.toNat) ws.toArray) = (List.replicate k.toNat ws).flatten.toArray := by
      have go : ∀ n : Nat, List.foldl (fun x1 x2 => x1 ++ x2) #[] (List.replicate n ws.toArray) = (List.replicate n ws).flatten.toArray := fun n => by
        have w := foldl_rep ws n []
        rwa [List.nil_append] at w
      rw [go]
      cases ws with
      | nil => simp
      | cons w0 wr => rw [if_neg (by simp)]
    refine wpAny_binaryOp_repeat_ref (T := "list") (U := "int") (by decide) ⟨_, e1, rfl⟩ (fun s' => typeIs_int s' k t) noFill_list_mul F.fills_int_mul F.slot_int_rmul repeat_list F.slot_int_index.lookup
      (call_meets F.slot_int_rmul (typeIs_int s k t) F.entry_int_rmul (F.args_int_rmul_2 _ _) (int___rmul___int_list k t a ws.toArray m)
        ⟨e1, rfl, ⟨_, e1, rfl⟩, call_meets F.slot_list_mul ⟨_, e1, rfl⟩ F.entry_list_mul (F.args_list_mul_2 _ _) (AutoListH.list___mul___list_int_3 a ws.toArray m k t c2 c1 c3) ⟨e1, ?_⟩⟩)
    rw [c4]
    exact ⟨.ref s.heap.objs.size, _, I.lnew (t' := s.toks) (r1.rep k.toNat) (by rw [PyProof.Rows.lm_len_rep_flat, Nat.mul_comm]; exact hz), rfl, q _ I.fresh⟩
theorem o_div : OpR X (binaryOp .FloorDiv) rDivK := op_fdivN.or op_fdivW
end

/-! ### comparisons -/
section
variable {K : PySem.W.Frag} {X : Cx}
/-- a comparison of data gives what opF says -/
def rCmp (K : PySem.W.Frag) (o : Op) : R2 := fun x y H Q => ∃ (Hs Hv Hw : Hp) (d e : D) (b t : Bool), Sub Hs H ∧ Sub Hv H ∧ Sub Hw H ∧ Pk K Hs H Hv x d ∧ Pk K Hs H Hw y e ∧ opF o [d, e] = some (.bool b, t) ∧ Q (.bl b) H
theorem opF_bool {o : Op} {d e : D} {d' : D} {t : Bool} (ho : o = .eq ∨ o = .ne ∨ o = .lt ∨ o = .le ∨ o = .gt ∨ o = .ge ∨ o = .in_ ∨ o = .nin ∨ o = .is_ ∨ o = .isnt) (h : opF o [d, e] = some (d', t)) : t = false ∧ ∃ b, d' = .bool b := by
  have hE : ∀ (c : Bool) (b : Bool), (if c = true then some (PyData.bool b, false) else none) = some (d', t) → t = false ∧ ∃ b, d' = .bool b := fun c b q => by
    obtain ⟨_, e⟩ := ite_some q
    cases e
    exact ⟨rfl, _, rfl⟩
  have hC : ∀ f g, oCmp f g d e = some (d', t) → t = false ∧ ∃ b, d' = .bool b := fun f g q => by
    cases d <;> cases e <;> first | (cases q; exact ⟨rfl, _, rfl⟩) | cases q
  have hI : ∀ n, oIn n d e = some (d', t) → t = false ∧ ∃ b, d' = .bool b := fun n q => by
    cases e with
    | list ds => exact hE _ _ q
    | tuple ds => exact hE _ _ q
    | str y =>
      cases d with
      | str x => cases q; exact ⟨rfl, _, rfl⟩
      | _ => cases q
    | _ => cases q
  have hS : ∀ n, oIs n d e = some (d', t) → t = false ∧ ∃ b, d' = .bool b := fun n q => by
    cases d <;> cases e <;> first | (cases q; exact ⟨rfl, _, rfl⟩) | cases q
  rcases ho with rfl | rfl | rfl | rfl | rfl | rfl | rfl | rfl | rfl | rfl
  · exact hE _ _ h
  · exact hE _ _ h
  · exact hC (fun i j => decide (i < j)) (fun x y => decide (x < y)) h
  · exact hC (fun i j => decide (i ≤ j)) (fun x y => !decide (y < x)) h
  · exact hC (fun i j => decide (j < i)) (fun x y => decide (y < x)) h
  · exact hC (fun i j => decide (j ≤ i)) (fun x y => !decide (x < y)) h
  · exact hI _ h
  · exact hI _ h
  · exact hS _ h
  · exact hS _ h
def isCmp (o : Op) : Bool :=
  match o with
  | .eq | .ne | .lt | .le | .gt | .ge | .in_ | .nin | .is_ | .isnt => true
  | _ => false
theorem isCmp_or {o : Op} (h : isCmp o = true) : o = .eq ∨ o = .ne ∨ o = .lt ∨ o = .le ∨ o = .gt ∨ o = .ge ∨ o = .in_ ∨ o = .nin ∨ o = .is_ ∨ o = .isnt := by
  cases o with
  | eq => simp
  | ne => simp
  | lt => simp
  | le => simp
  | gt => simp
  | ge => simp
  | in_ => simp
  | nin => simp
  | is_ => simp
  | isnt => simp
  | _ => cases h
theorem v_cmp {o : Op} (ho : isCmp o = true) : Val2 K o (rCmp K o) := by
  intro L Hb Hs H v u d e g h res Q l sb p1 p2 hr hQ
  obtain ⟨d', t, h1, rfl⟩ := opR2 hr
  obtain ⟨rfl, b, rfl⟩ := opF_bool (isCmp_or ho) h1
  exact ⟨Hs, _, _, d, e, b, false, l.sh, vh_h l.sh, vh_h l.sh, p1, p2, h1, fin_at l hQ (.bl b)⟩
theorem shaped_all {ds : List D} (h : SeqAt.shaped (.list ds) = true) : PyData.canLayAll0 ds = true := SeqAt.canLay_of_shaped h
def cmpOf : Op → Option CmpOp
  | .eq => some .Eq
  | .ne => some .NotEq
  | .lt => some .Lt
  | .le => some .LtE
  | .gt => some .Gt
  | .ge => some .GtE
  | .in_ => some .In
  | .nin => some .NotIn
  | .is_ => some .Is
  | .isnt => some .IsNot
  | _ => none
theorem cmpOf_is {o : Op} {c : CmpOp} (h : cmpOf o = some c) : isCmp o = true := by cases o <;> first | rfl | cases h
theorem min_le_64 {a b : Nat} (h : b ≤ 64) : min a b ≤ 64 := Nat.le_trans (Nat.min_le_right _ _) h
theorem o_cmp {o : Op} {c : CmpOp} (hc : cmpOf o = some c) (hu : X.A.units + 66 < cLine) : OpR X (compareOp c) (rCmp X.K o) := by
  intro pins s σ H x y v u Q I rx ry q
  obtain ⟨Hs, Hv, Hw, d, e, b, t, s1, s2, s3, p1, p2, hf, q⟩ := q
  have dp1 := pk_dp s1 s2 p1
  have dp2 := pk_dp s1 s3 p2
  have hu64 : X.A.units + 64 < cLine := by omega
  have hu65 : X.A.units + 65 < cLine := by omega
  have cmpd : ∀ (f : Int → Int → Bool) (g : List Nat → List Nat → Bool), oCmp f g d e = some (.bool b, t) →
      (∀ i j, x = .int i → y = .int j → Q (.bl (f i j)) H → wpAny (model X.prog X.w) X.A (compareOp c v u) (EP X pins σ Q) X.xe s) →
      (∀ i j : Str, x = .str i → y = .str j → Q (.bl (g i.cps.toList j.cps.toList)) H → wpAny (model X.prog X.w) X.A (compareOp c v u) (EP X pins σ Q) X.xe s) →
      wpAny (model X.prog X.w) X.A (compareOp c v u) (EP X pins σ Q) X.xe s := fun f g hq k1 k2 => by
    cases d with
    | int i =>
      cases e with
      | int j => cases hq; cases p1; cases p2; exact k1 i j rfl rfl q
      | _ => cases hq
    | str i =>
      cases e with
      | str j => cases hq; cases p1; cases p2; exact k2 i j rfl rfl q
      | _ => cases hq
    | _ => cases hq
  cases o with
  | eq =>
    cases hc
    obtain ⟨z, e3⟩ := ite_some (show (if (shapedB d && shapedB e) = true then some (PyData.bool (PyData.eqv d e), false) else none) = some (.bool b, t) from hf)
    cases e3
    rw [Bool.and_eq_true] at z
    exact op_eqD hu64 pins s σ H x y v u Q I rx ry ⟨d, e, dp1, dp2, z.1, z.2, q⟩
  | ne =>
    cases hc
    obtain ⟨z, e3⟩ := ite_some (show (if (shapedB d && shapedB e) = true then some (PyData.bool (!PyData.eqv d e), false) else none) = some (.bool b, t) from hf)
    cases e3
    rw [Bool.and_eq_true] at z
    exact op_neD hu64 pins s σ H x y v u Q I rx ry ⟨d, e, dp1, dp2, z.1, z.2, q⟩
  | lt =>
    cases hc
    exact cmpd (fun i j => decide (i < j)) (fun x y => decide (x < y)) hf (fun i j e1 e2 q => op_lt pins s σ H x y v u Q I rx ry ⟨i, j, e1, e2, q⟩) fun i j e1 e2 q => op_lt_str pins s σ H x y v u Q I rx ry ⟨i, j, e1, e2, q⟩
  | le =>
    cases hc
    exact cmpd (fun i j => decide (i ≤ j)) (fun x y => !decide (y < x)) hf (fun i j e1 e2 q => op_le pins s σ H x y v u Q I rx ry ⟨i, j, e1, e2, q⟩) fun i j e1 e2 q => op_le_str pins s σ H x y v u Q I rx ry ⟨i, j, e1, e2, q⟩
  | gt =>
    cases hc
    exact cmpd (fun i j => decide (j < i)) (fun x y => decide (y < x)) hf (fun i j e1 e2 q => op_gt pins s σ H x y v u Q I rx ry ⟨i, j, e1, e2, q⟩) fun i j e1 e2 q => op_gt_str pins s σ H x y v u Q I rx ry ⟨i, j, e1, e2, q⟩
  | ge =>
    cases hc
    exact cmpd (fun i j => decide (j ≤ i)) (fun x y => !decide (x < y)) hf (fun i j e1 e2 q => op_ge pins s σ H x y v u Q I rx ry ⟨i, j, e1, e2, q⟩) fun i j e1 e2 q => op_ge_str pins s σ H x y v u Q I rx ry ⟨i, j, e1, e2, q⟩
  | in_ =>
    cases hc
    cases e with
    | list ds =>
      obtain ⟨z, e3⟩ := ite_some (show (if (shapedB d && shapedB (.list ds)) = true then some (PyData.bool (ds.any fun z => PyData.eqv z d), false) else none) = some (.bool b, t) from hf)
      cases e3
      rw [Bool.and_eq_true] at z
      exact op_inD hu65 pins s σ H x y v u Q I rx ry ⟨d, ds, dp1, dp2, z.1, z.2, q⟩
    | tuple ds =>
      obtain ⟨z, e3⟩ := ite_some (show (if (shapedB d && shapedB (.tuple ds)) = true then some (PyData.bool (ds.any fun z => PyData.eqv z d), false) else none) = some (.bool b, t) from hf)
      cases e3
      rw [Bool.and_eq_true] at z
      obtain ⟨as, w1⟩ := Dp.reads I d x v dp1 rx
      obtain ⟨bs, w2⟩ := Dp.reads I (.tuple ds) y u dp2 ry
      have m := min_le_64 (a := PyData.depthAll ds) (SeqAt.depth_of_shaped z.1)
      exact SeqAt.in_tuple_reads w2 w1 (SeqAt.canLay_of_shaped z.2) (SeqAt.canLay_of_shaped z.1) (by omega) ⟨.bl _, H, I, rfl, q⟩
    | str y' =>
      cases d with
      | str x' => cases hf; cases p1; cases p2; exact op_in_str pins s σ H _ _ v u Q I rx ry ⟨x', y', rfl, rfl, q⟩
      | _ => cases hf
    | _ => cases hf
  | nin =>
    cases hc
    cases e with
    | list ds =>
      obtain ⟨z, e3⟩ := ite_some (show (if (shapedB d && shapedB (.list ds)) = true then some (PyData.bool (!(ds.any fun z => PyData.eqv z d)), false) else none) = some (.bool b, t) from hf)
      cases e3
      rw [Bool.and_eq_true] at z
      exact op_notInD hu65 pins s σ H x y v u Q I rx ry ⟨d, ds, dp1, dp2, z.1, z.2, q⟩
    | tuple ds =>
      obtain ⟨z, e3⟩ := ite_some (show (if (shapedB d && shapedB (.tuple ds)) = true then some (PyData.bool (!(ds.any fun z => PyData.eqv z d)), false) else none) = some (.bool b, t) from hf)
      cases e3
      rw [Bool.and_eq_true] at z
      obtain ⟨as, w1⟩ := Dp.reads I d x v dp1 rx
      obtain ⟨bs, w2⟩ := Dp.reads I (.tuple ds) y u dp2 ry
      have m := min_le_64 (a := PyData.depthAll ds) (SeqAt.depth_of_shaped z.1)
      exact SeqAt.notIn_tuple_reads w2 w1 (SeqAt.canLay_of_shaped z.2) (SeqAt.canLay_of_shaped z.1) (by omega) ⟨.bl _, H, I, rfl, q⟩
    | str y' =>
      cases d with
      | str x' => cases hf; cases p1; cases p2; exact op_notin_str pins s σ H _ _ v u Q I rx ry ⟨x', y', rfl, rfl, q⟩
      | _ => cases hf
    | _ => cases hf
  | is_ =>
    cases hc
    cases d with
    | bool a1 =>
      cases e with
      | bool a2 => cases hf; cases p1; cases p2; exact op_isBl pins s σ H _ _ v u Q I rx ry ⟨a1, a2, rfl, rfl, q⟩
      | _ => cases hf
    | _ => cases hf
  | isnt =>
    cases hc
    cases d with
    | bool a1 =>
      cases e with
      | bool a2 => cases hf; cases p1; cases p2; exact op_notBl pins s σ H _ _ v u Q I rx ry ⟨a1, a2, rfl, rfl, q⟩
      | _ => cases hf
    | _ => cases hf
  | _ => cases hc
end
end Z
/-! ZQ: the built-in functions' rules. -/
namespace Z
open PySem L2 PySem.Spec PyProof.Rows

section
variable {K : PySem.W.Frag} {Hs H Hs' H' Hv Hb : Hp} {L : Lab} {g h : List Tag} {v u : V} {d e : D} {res : R} {Q : VK}
theorem maxI_mem : ∀ (r : List Int) (m : Int), maxI m r ∈ m :: r
  | [], m => List.mem_singleton.mpr rfl
  | x :: r, m => by
    unfold maxI
    by_cases h : x > m
    · rw [if_pos h]
      exact List.mem_cons_of_mem _ (maxI_mem r x)
    · rw [if_neg h]
      rcases List.mem_cons.mp (maxI_mem r m) with e | e
      · rw [e]; exact List.mem_cons_self
      · exact List.mem_cons_of_mem _ (List.mem_cons_of_mem _ e)
theorem maxI_ge : ∀ (r : List Int) (m y : Int), y ∈ m :: r → y ≤ maxI m r
  | [], m, y, h => by
    have e : y = m := by simpa using h
    rw [e]; exact Int.le_refl _
  | x :: r, m, y, h => by
    unfold maxI
    by_cases hx : x > m
    · rw [if_pos hx]
      rcases List.mem_cons.mp h with e | e
      · have := maxI_ge r x x List.mem_cons_self
        omega
      · exact maxI_ge r x y e
    · rw [if_neg hx]
      rcases List.mem_cons.mp h with e | e
      · rw [e]; exact maxI_ge r m m List.mem_cons_self
      · rcases List.mem_cons.mp e with e | e
        · have := maxI_ge r m m List.mem_cons_self
          omega
        · exact maxI_ge r m y (List.mem_cons_of_mem _ e)
theorem minI_mem : ∀ (r : List Int) (m : Int), minI m r ∈ m :: r
  | [], m => List.mem_singleton.mpr rfl
  | x :: r, m => by
    unfold minI
    by_cases h : x < m
    · rw [if_pos h]
      exact List.mem_cons_of_mem _ (minI_mem r x)
    · rw [if_neg h]
      rcases List.mem_cons.mp (minI_mem r m) with e | e
      · rw [e]; exact List.mem_cons_self
      · exact List.mem_cons_of_mem _ (List.mem_cons_of_mem _ e)
theorem minI_le : ∀ (r : List Int) (m y : Int), y ∈ m :: r → minI m r ≤ y
  | [], m, y, h => by
    have e : y = m := by simpa using h
    rw [e]; exact Int.le_refl _
  | x :: r, m, y, h => by
    unfold minI
    by_cases hx : x < m
    · rw [if_pos hx]
      rcases List.mem_cons.mp h with e | e
      · have := minI_le r x x List.mem_cons_self
        omega
      · exact minI_le r x y e
    · rw [if_neg hx]
      rcases List.mem_cons.mp h with e | e
      · rw [e]; exact minI_le r m m List.mem_cons_self
      · rcases List.mem_cons.mp e with e | e
        · have := minI_le r m m List.mem_cons_self
          omega
        · exact minI_le r m y (List.mem_cons_of_mem _ e)
theorem insI_perm (x : Int) : ∀ l : List Int, (insI x l).Perm (x :: l)
  | [] => List.Perm.refl _
  | y :: r => by
    unfold insI
    split
    · exact List.Perm.refl _
    · exact ((insI_perm x r).cons y).trans (List.Perm.swap x y r)
theorem sortI_perm : ∀ l : List Int, (sortI l).Perm l
  | [] => List.Perm.refl _
  | x :: r => (insI_perm x (sortI r)).trans ((sortI_perm r).cons x)
theorem insI_sorted (x : Int) : ∀ l : List Int, l.Pairwise (· ≤ ·) → (insI x l).Pairwise (· ≤ ·)
  | [], _ => List.pairwise_singleton _ _
  | y :: r, h => by
    obtain ⟨h1, h2⟩ := List.pairwise_cons.mp h
    unfold insI
    split
    · rename_i hx
      refine List.pairwise_cons.mpr ⟨fun z hz => ?_, h⟩
      rcases List.mem_cons.mp hz with e | e
      · rw [e]; exact hx
      · have := h1 z e
        omega
    · rename_i hx
      refine List.pairwise_cons.mpr ⟨fun z hz => ?_, insI_sorted x r h2⟩
      rcases List.mem_cons.mp ((insI_perm x r).mem_iff.mp hz) with e | e
      · rw [e]; omega
      · exact h1 z e
theorem sortI_sorted : ∀ l : List Int, (sortI l).Pairwise (· ≤ ·)
  | [] => List.Pairwise.nil
  | x :: r => insI_sorted x _ (sortI_sorted r)
theorem sortI_uniq {ns ms : List Int} (hp : ms.Perm ns) (hs : ms.Pairwise (· ≤ ·)) : ms = sortI ns :=
  PySem.W.ksm_same (hp.trans (sortI_perm ns).symm) hs (sortI_sorted ns)

/-- a call of one argument, of two -/
def Val1c (K : PySem.W.Frag) (o : Op) (r : List V → Hp → VK → Prop) : Prop := Val1 K o fun x H Q => r [x] H Q
def Val2c (K : PySem.W.Frag) (o : Op) (r : List V → Hp → VK → Prop) : Prop := Val2 K o fun x y H Q => r [x, y] H Q

theorem v_len : Val1c K .len (fun xs H Q => ∃ x n, xs = [x] ∧ LenV K x H n ∧ Q (.int n) H) := by
  intro L Hb Hs H v d g res Q l sb p hr hQ
  obtain ⟨d', t, h1, rfl⟩ := opR1 hr
  have h2 : oLen d = some (d', t) := h1
  cases d with
  | list ds =>
    cases h2
    obtain ⟨a, xs, rfl, a1, a2⟩ := p
    refine ⟨_, xs.length, rfl, .inl ⟨xs, .inl a1, rfl⟩, ?_⟩
    rw [a2.length]
    exact fin_at l hQ (.int _)
  | tuple ds =>
    cases h2
    obtain ⟨a, xs, rfl, a1, a2⟩ := p
    refine ⟨_, xs.length, rfl, .inr ⟨xs, Evl.ex_t l.sh a1, rfl⟩, ?_⟩
    rw [a2.length]
    exact fin_at l hQ (.int _)
  | str x =>
    obtain ⟨z, e3⟩ := ite_some (show (if x.length ≤ 1000000 then some (PyData.int (x.length : Int), false) else none) = some (d', t) from h2)
    cases e3
    cases p
    exact ⟨_, x.length, rfl, ⟨line_of z, rfl⟩, fin_at l hQ (.int _)⟩
  | _ => cases h2
theorem v_abs : Val1c K .abs (fun xs H Q => ∃ i, xs = [.int i] ∧ Q (.int (if i < 0 then -i else i)) H) := by
  intro L Hb Hs H v d g res Q l sb p hr hQ
  obtain ⟨d', t, h1, rfl⟩ := opR1 hr
  have h2 : oAbs d = some (d', t) := h1
  cases d with
  | int i => cases h2; cases p; exact ⟨i, rfl, fin_at l hQ (.int _)⟩
  | _ => cases h2
theorem v_int : Val1c K .int (fun xs H Q => (∃ i, xs = [.int i] ∧ Q (.int i) H) ∨ ∃ k, xs = [.bl k] ∧ Q (.int (if k then 1 else 0)) H) := by
  intro L Hb Hs H v d g res Q l sb p hr hQ
  obtain ⟨d', t, h1, rfl⟩ := opR1 hr
  have h2 : oInt d = some (d', t) := h1
  cases d with
  | int i => cases h2; cases p; exact .inl ⟨i, rfl, fin_at l hQ (.int _)⟩
  | bool b => cases h2; cases p; exact .inr ⟨b, rfl, fin_at l hQ (.int _)⟩
  | _ => cases h2
theorem v_bool : Val1c K .bool (fun xs H Q => (∃ i, xs = [.int i] ∧ Q (.bl (i != 0)) H) ∨ ∃ k, xs = [.bl k] ∧ Q (.bl k) H) := by
  intro L Hb Hs H v d g res Q l sb p hr hQ
  obtain ⟨d', t, h1, rfl⟩ := opR1 hr
  have h2 : oBool d = some (d', t) := h1
  cases d with
  | int i => cases h2; cases p; exact .inl ⟨i, rfl, fin_at l hQ (.bl _)⟩
  | bool b => cases h2; cases p; exact .inr ⟨b, rfl, fin_at l hQ (.bl _)⟩
  | _ => cases h2
theorem v_max2 : Val2c K .max2 (fun xs H Q => ∃ i j, xs = [.int i, .int j] ∧ Q (.int (if j > i then j else i)) H) := by
  intro L Hb Hs H v u d e g h res Q l sb p1 p2 hr hQ
  obtain ⟨d', t, h1, rfl⟩ := opR2 hr
  have h2 : oMax2 d e = some (d', t) := h1
  cases d with
  | int i =>
    cases e with
    | int j => cases h2; cases p1; cases p2; exact ⟨i, j, rfl, fin_at l hQ (.int _)⟩
    | _ => cases h2
  | _ => cases h2
theorem v_min2 : Val2c K .min2 (fun xs H Q => ∃ i j, xs = [.int i, .int j] ∧ Q (.int (if j < i then j else i)) H) := by
  intro L Hb Hs H v u d e g h res Q l sb p1 p2 hr hQ
  obtain ⟨d', t, h1, rfl⟩ := opR2 hr
  have h2 : oMin2 d e = some (d', t) := h1
  cases d with
  | int i =>
    cases e with
    | int j => cases h2; cases p1; cases p2; exact ⟨i, j, rfl, fin_at l hQ (.int _)⟩
    | _ => cases h2
  | _ => cases h2
theorem v_gcd : Val2c K .gcd rGcd := by
  intro L Hb Hs H v u d e g h res Q l sb p1 p2 hr hQ
  obtain ⟨d', t, h1, rfl⟩ := opR2 hr
  have h2 : oGcd d e = some (d', t) := h1
  cases d with
  | int i =>
    cases e with
    | int j => cases h2; cases p1; cases p2; exact ⟨i, j, rfl, fin_at l hQ (.int _)⟩
    | _ => cases h2
  | _ => cases h2
theorem ext_inv {f : Int → List Int → Int} {ds : List D} {d' : D} {t : Bool} (h : oExt f (.list ds) = some (d', t)) : ∃ x r, toInts ds = some (x :: r) ∧ d' = .int (f x r) ∧ t = false := by
  unfold oExt at h
  simp only at h
  split at h
  · rename_i x r e
    cases h
    exact ⟨x, r, e, rfl, rfl⟩
  · cases h
theorem v_max1 : Val1c K .max1 (rMax K) := by
  intro L Hb Hs H v d g res Q l sb p hr hQ
  obtain ⟨d', t, h1, rfl⟩ := opR1 hr
  have h2 : oExt maxI d = some (d', t) := h1
  cases d with
  | list ds =>
    obtain ⟨x, r, e1, rfl, rfl⟩ := ext_inv h2
    obtain ⟨a, xs, rfl, a1, a2⟩ := p
    have e2 := rpa_ints a2 e1
    subst e2
    refine ⟨a, x :: r, rfl, .inl a1, Nat.succ_pos _, fun m hm hle => ?_⟩
    have e3 : m = maxI x r := Int.le_antisymm (maxI_ge r x m hm) (hle _ (maxI_mem r x))
    subst e3
    exact fin_at l hQ (.int _)
  | _ => cases h2
theorem v_min1 : Val1c K .min1 (rMin K) := by
  intro L Hb Hs H v d g res Q l sb p hr hQ
  obtain ⟨d', t, h1, rfl⟩ := opR1 hr
  have h2 : oExt minI d = some (d', t) := h1
  cases d with
  | list ds =>
    obtain ⟨x, r, e1, rfl, rfl⟩ := ext_inv h2
    obtain ⟨a, xs, rfl, a1, a2⟩ := p
    have e2 := rpa_ints a2 e1
    subst e2
    refine ⟨a, x :: r, rfl, .inl a1, Nat.succ_pos _, fun m hm hle => ?_⟩
    have e3 : m = minI x r := Int.le_antisymm (hle _ (minI_mem r x)) (minI_le r x m hm)
    subst e3
    exact fin_at l hQ (.int _)
  | _ => cases h2
theorem v_sum : Val1c K .sum (rSum K) := by
  intro L Hb Hs H v d g res Q l sb p hr hQ
  obtain ⟨d', t, h1, rfl⟩ := opR1 hr
  have h2 : oSum d = some (d', t) := h1
  cases d with
  | list ds =>
    cases e1 : toInts ds with
    | none => unfold oSum at h2; simp only [e1] at h2; cases h2
    | some ns =>
      unfold oSum at h2
      simp only [e1] at h2
      cases h2
      obtain ⟨a, xs, rfl, a1, a2⟩ := p
      have e2 := rpa_ints a2 e1
      subst e2
      exact ⟨a, ns, rfl, .inl a1, fin_at l hQ (.int _)⟩
  | _ => cases h2
theorem v_sorted : Val1c K .sorted (rSortedI K) := by
  intro L Hb Hs H v d g res Q l sb p hr hQ
  obtain ⟨d', t, h1, rfl⟩ := opR1 hr
  have h2 : oSorted d = some (d', t) := h1
  cases d with
  | list ds =>
    cases e1 : toInts ds with
    | none => unfold oSorted at h2; simp only [e1] at h2; cases h2
    | some ns =>
      unfold oSorted at h2
      simp only [e1] at h2
      cases h2
      obtain ⟨a, xs, rfl, a1, a2⟩ := p
      have e2 := rpa_ints a2 e1
      subst e2
      refine ⟨a, ns, rfl, .inl a1, fun ms p hp hs hn => ?_⟩
      rw [sortI_uniq hp hs]
      exact fin_lst l sb hQ hn (rpa_ofInts _)
  | _ => cases h2
theorem v_list : Val1c K .list (fun xs H Q => ∃ p ys, xs = [.ref p] ∧ (SqL K H p ys ∨ SqT K H p ys) ∧ ∀ l, H l = none → Q (.ref l) (upd H l (.lst ys))) := by
  intro L Hb Hs H v d g res Q l sb p hr hQ
  obtain ⟨d', t, h1, rfl⟩ := opR1 hr
  have h2 : oList d = some (d', t) := h1
  cases d with
  | list ds =>
    cases h2
    obtain ⟨a, xs, rfl, a1, a2⟩ := p
    exact ⟨a, xs, rfl, .inl (.inl a1), fun q hq => fin_lst l sb hQ hq a2⟩
  | tuple ds =>
    cases h2
    obtain ⟨a, xs, rfl, a1, a2⟩ := p
    exact ⟨a, xs, rfl, .inr (Evl.ex_t l.sh a1), fun q hq => fin_lst l sb hQ hq a2⟩
  | _ => cases h2
theorem v_tuple : Val1c K .tuple (fun xs H Q => ∃ p ys, xs = [.ref p] ∧ ((SqL K H p ys ∧ ∀ l, H l = none → Q (.ref l) (upd H l (.tup ys))) ∨ (SqT K H p ys ∧ Q (.ref p) H))) := by
  intro L Hb Hs H v d g res Q l sb p hr hQ
  obtain ⟨d', t, h1, rfl⟩ := opR1 hr
  have h2 : oTuple d = some (d', t) := h1
  cases d with
  | list ds =>
    cases h2
    obtain ⟨a, xs, rfl, a1, a2⟩ := p
    exact ⟨a, xs, rfl, .inl ⟨.inl a1, fun q hq => fin_tup l hQ hq a2⟩⟩
  | tuple ds =>
    cases h2
    obtain ⟨a, xs, rfl, a1, a2⟩ := p
    exact ⟨a, xs, rfl, .inr ⟨Evl.ex_t l.sh a1, fin_sh l hQ (.tup (Evl.ex_t vh_s a1) a2)⟩⟩
  | _ => cases h2
theorem v_all : Val1c K .all (rAll K) := by
  intro L Hb Hs H v d g res Q l sb p hr hQ
  obtain ⟨d', t, h1, rfl⟩ := opR1 hr
  have h2 : oAll d = some (d', t) := h1
  cases d with
  | list ds =>
    cases e1 : toBools ds with
    | none => unfold oAll at h2; simp only [e1] at h2; cases h2
    | some ns =>
      unfold oAll at h2
      simp only [e1] at h2
      cases h2
      obtain ⟨a, xs, rfl, a1, a2⟩ := p
      have e2 := rpa_bools a2 e1
      subst e2
      exact ⟨a, ns, rfl, .inl a1, fin_at l hQ (.bl _)⟩
  | _ => cases h2
theorem v_any : Val1c K .any (rAny K) := by
  intro L Hb Hs H v d g res Q l sb p hr hQ
  obtain ⟨d', t, h1, rfl⟩ := opR1 hr
  have h2 : oAny d = some (d', t) := h1
  cases d with
  | list ds =>
    cases e1 : toBools ds with
    | none => unfold oAny at h2; simp only [e1] at h2; cases h2
    | some ns =>
      unfold oAny at h2
      simp only [e1] at h2
      cases h2
      obtain ⟨a, xs, rfl, a1, a2⟩ := p
      have e2 := rpa_bools a2 e1
      subst e2
      exact ⟨a, ns, rfl, .inl a1, fin_at l hQ (.bl _)⟩
  | _ => cases h2
def rRepr (K : PySem.W.Frag) : List V → Hp → VK → Prop := fun xs H Q => ∃ x d, xs = [x] ∧ Dp K H x d ∧ showOk d = true ∧ Q (.str d.shown) H
theorem v_repr : Val1c K .repr (rRepr K) := by
  intro L Hb Hs H v d g res Q l sb p hr hQ
  obtain ⟨d', t, h1, rfl⟩ := opR1 hr
  obtain ⟨z, e3⟩ := ite_some (show (if showOk d = true then some (PyData.str d.shown, false) else none) = some (d', t) from h1)
  cases e3
  exact ⟨v, d, rfl, pk_dp l.sh (vh_h l.sh) p, z, fin_at l hQ (.str _)⟩
theorem v_idx : Val2 K .idx (rIx K) := by
  intro L Hb Hs H v u d e g h res Q l sb p1 p2 hr hQ
  obtain ⟨d', t, h1, rfl⟩ := opR2 hr
  have h2 : oIdx d e = some (d', t) := h1
  cases e with
  | int i =>
    cases p2
    have seq : ∀ (ds : List D) (xs : List V), RpA K (VH L g Hs H) xs ds → (atD ds i).map (·, false) = some (d', t) → ∃ w, atI xs i = some w ∧ t = false ∧ Rp K (VH L (g ++ h) Hs H) w d' := fun ds xs a2 q => by
      cases hx : atD ds i with
      | none => rw [hx] at q; cases q
      | some y =>
        rw [hx] at q
        cases q
        unfold atD at hx
        cases hj : ixN ds.length i with
        | none => rw [hj] at hx; cases hx
        | some j =>
          rw [hj] at hx
          have hx' : ds[j]? = some d' := hx
          obtain ⟨w, w1, w2⟩ := a2.get hx'
          refine ⟨w, ?_, rfl, rp_mono (vh_left g h) w2⟩
          unfold atI
          rw [a2.length, hj]
          exact w1
    cases d with
    | list ds =>
      obtain ⟨a, xs, rfl, a1, a2⟩ := p1
      obtain ⟨w, w1, rfl, w2⟩ := seq ds xs a2 h2
      exact .inl ⟨a, xs, i, w, rfl, rfl, .inl a1, w1, fin_sh l hQ w2⟩
    | tuple ds =>
      obtain ⟨a, xs, rfl, a1, a2⟩ := p1
      obtain ⟨w, w1, rfl, w2⟩ := seq ds xs a2 h2
      exact .inr (.inl ⟨a, xs, i, w, rfl, rfl, Evl.ex_t l.sh a1, w1, fin_sh l hQ w2⟩)
    | str x =>
      cases p1
      unfold oIdx at h2
      simp only at h2
      by_cases z : x.length ≤ 1000000
      · rw [if_pos z] at h2
        split at h2
        · rename_i c hc
          cases h2
          exact .inr (.inr ⟨x, i, c, rfl, rfl, line_of z, hc, fin_at l hQ (.str _)⟩)
        · cases h2
      · rw [if_neg z] at h2; cases h2
    | _ => cases h2
  | _ => cases d <;> cases h2
theorem cutD_len (ds : List D) (xs : List V) (hl : xs.length = ds.length) (lo hi : Option Int) {Hx : Hp} (a : RpA K Hx xs ds) : RpA K Hx (cutV xs lo hi) (cutD ds lo hi) := by
  unfold cutV cutD
  rw [hl]
  exact (a.drop _).take _
/-- a slice by its bounds -/
def rSlc (K : PySem.W.Frag) : V → Option Int → Option Int → Hp → VK → Prop := fun x lo hi H Q => rSlL K x lo hi H Q ∨ rSlA K x lo hi H Q ∨ rSlS x lo hi H Q
theorem v_slc {d' : D} {t : Bool} {lo hi : Option Int} (l : LabOk L Hs H) (sb : Sub Hb H) (p : Pk K Hs H (VH L g Hs H) v d) (hf : oSlc d lo hi = some (d', t))
    (hQ : ∀ w Hs' H', Step Hs H Hs' H' → RelR K L Hb Hs' H' w (d', if t = true then nmT d' g else nmS d' g) → Q w H') : rSlc K v lo hi H Q := by
  cases d with
  | list ds =>
    cases hf
    obtain ⟨a, xs, rfl, a1, a2⟩ := p
    exact .inl ⟨a, xs, rfl, .inl a1, fun q hq => fin_lst l sb hQ hq (cutD_len ds xs a2.length lo hi a2)⟩
  | tuple ds =>
    cases hf
    obtain ⟨a, xs, rfl, a1, a2⟩ := p
    have c := cutD_len ds xs a2.length lo hi a2
    refine .inr (.inl ⟨a, xs, rfl, Evl.ex_t l.sh a1, fun z => ?_, fun z q hq => fin_tup l hQ hq c⟩)
    have e : cutV xs lo hi = xs := by
      unfold cutV
      rw [z.1, z.2]
      simp
    rw [e] at c
    exact fin_sh l hQ (.tup (Evl.ex_t vh_s a1) c)
  | str x =>
    obtain ⟨z, e3⟩ := ite_some (show (if x.length ≤ 1000000 then some (PyData.str (cutS x lo hi), false) else none) = some (d', t) from hf)
    cases e3
    cases p
    exact .inr (.inr ⟨x, rfl, line_of z, fin_at l hQ (.str _)⟩)
  | _ => cases hf
theorem v_rev : Val1 K .rev (fun x H Q => ∃ a xs, x = .ref a ∧ SqL K H a xs ∧ ∀ p, H p = none → Q (.ref p) (upd H p (.lst xs.reverse))) := by
  intro L Hb Hs H v d g res Q l sb p hr hQ
  obtain ⟨d', t, h1, rfl⟩ := opR1 hr
  have h2 : oRev d = some (d', t) := h1
  cases d with
  | list ds =>
    cases h2
    obtain ⟨a, xs, rfl, a1, a2⟩ := p
    exact ⟨a, xs, rfl, .inl a1, fun q hq => fin_lst l sb hQ hq a2.reverse⟩
  | _ => cases h2
theorem v_isn : Val1 K .isn (fun x H Q => Q (.bl (decide (x = .non))) H) := by
  intro L Hb Hs H v d g res Q l sb p hr hQ
  obtain ⟨d', t, h1, rfl⟩ := opR1 hr
  cases h1
  have e : decide (v = V.non) = isNone d := by
    cases d with
    | none => cases p; rfl
    | bool b => cases p; rfl
    | int i => cases p; rfl
    | str x => cases p; rfl
    | list ds => obtain ⟨a, xs, rfl, _⟩ := p; rfl
    | tuple ds => obtain ⟨a, xs, rfl, _⟩ := p; rfl
    | dict _ => exact p.elim
  show Q (.bl (decide (v = V.non))) H
  rw [e]
  exact fin_at l hQ (.bl _)
theorem v_isnn : Val1 K .isnn (fun x H Q => Q (.bl (!decide (x = .non))) H) := by
  intro L Hb Hs H v d g res Q l sb p hr hQ
  obtain ⟨d', t, h1, rfl⟩ := opR1 hr
  cases h1
  have e : decide (v = V.non) = isNone d := by
    cases d with
    | none => cases p; rfl
    | bool b => cases p; rfl
    | int i => cases p; rfl
    | str x => cases p; rfl
    | list ds => obtain ⟨a, xs, rfl, _⟩ := p; rfl
    | tuple ds => obtain ⟨a, xs, rfl, _⟩ := p; rfl
    | dict _ => exact p.elim
  show Q (.bl (!decide (v = V.non))) H
  rw [e]
  exact fin_at l hQ (.bl _)
/-- [*xs, e] -/
theorem star_red {Φ : Fn} {a b : E} : ∀ σ H Q, rdE K (ev Φ (.op .star1 (.cons a (.cons b .nil)))) σ H Q → tLst (StX.tStar K (rdP K a (ev Φ a)) (tCons (rdP K b (ev Φ b)) tNil)) σ H Q := by
  intro σ H Q q
  obtain ⟨B, Hs, L, ρ, res, w, hf, hq⟩ := q
  unfold ev evps evps evps at hf
  cases ha : ev Φ a ρ with
  | none => rw [ha] at hf; cases hf
  | some ra =>
    rw [ha] at hf
    cases hb : ev Φ b ρ with
    | none => rw [hb] at hf; cases hf
    | some rb =>
      rw [hb] at hf
      obtain ⟨d, od⟩ := ra
      obtain ⟨e, oe⟩ := rb
      obtain ⟨d', t, h1, rfl⟩ := opR2 hf
      have h2 : oStar1 d e = some (d', t) := h1
      have hd : ∃ ds, d = .list ds := by
        cases d with
        | list ds => exact ⟨ds, rfl⟩
        | _ => cases e <;> cases h2
      obtain ⟨ds, rfl⟩ := hd
      have he : (∀ es, e ≠ .list es) ∧ (∀ es, e ≠ .dict es) ∧ ds.length < 1000000 ∧ d' = .list (ds ++ [e]) ∧ t = true := by
        cases e with
        | list es => cases h2
        | dict es => cases h2
        | _ =>
          obtain ⟨z, e3⟩ := ite_some h2
          cases e3
          exact ⟨fun _ z => (by cases z), fun _ z => (by cases z), z, rfl, rfl⟩
      obtain ⟨n1, n2, z, rfl, rfl⟩ := he
      refine ⟨B, Hs, L, ρ, _, w, ha, fun v Hs' H' t1 p => ?_⟩
      obtain ⟨c, vs, rfl, a1, a2⟩ := p
      refine ⟨c, vs, rfl, .inr (.inl a1), B, Hs', L, ρ, _, w.step t1, hb, fun u Hs2 H2 t2 p2 => ?_⟩
      have l2 := (w.lok.step t1).step t2
      have up : Rp K (VH L (pkT b ρ oe.tags) Hs2 H2) u e := by
        cases e with
        | list es => exact absurd rfl (n1 es)
        | dict es => exact absurd rfl (n2 es)
        | tuple es =>
          obtain ⟨c2, ws, rfl, b1, b2⟩ := p2
          exact .tup (Evl.ex_t vh_s b1) b2
        | none => cases p2; exact .non
        | bool x => cases p2; exact .bl _
        | int x => cases p2; exact .int _
        | str x => cases p2; exact .str _
      have al := (rpa_mono (vh_left (pkT a ρ od.tags) (pkT b ρ oe.tags)) (rpa_mono (vh_step (w.lok.step t1) t2) a2)).append (RpA.cons (rp_mono (vh_right (pkT a ρ od.tags) (pkT b ρ oe.tags)) up) .nil)
      refine ⟨?_, fun p hp => ?_⟩
      · rw [List.length_append, a2.length]
        exact line_of (by show ds.length + 1 ≤ 1000000; omega)
      · exact fin_lst l2 (t1.h.trans t2.h) (fun w' Hs3 H3 t3 rel => hq w' Hs3 H3 ((t1.trans t2).trans t3) (by simpa using rel)) hp al
end
section
variable {X : Cx}
theorem o_slc : SlR X (rSlc X.K) := sl_list.or (sl_tupA.or sl_str)
theorem o_repr (hg : X.A.guards = some []) (hu : X.A.units + 66 < cLine) : CallR X (.builtin "repr") (rRepr X.K) := by
  intro pins s σ H xs us Q I r q
  obtain ⟨x, d, rfl, hd, hs, q⟩ := q
  obtain ⟨u, rfl, rx⟩ : ∃ u, us = [u] ∧ RelV x u := by
    cases r with
    | cons a b =>
      cases b
      exact ⟨_, rfl, a⟩
  unfold showOk at hs
  simp only [Bool.and_eq_true, decide_eq_true_eq] at hs
  obtain ⟨⟨h1, h2⟩, h3⟩ := hs
  obtain ⟨as, rd⟩ := Dp.reads I d x u hd rx
  have deep : ∀ a : Addr, x = .ref a → d.hasDict = false → wpAny (model X.prog X.w) X.A (call (.builtin "repr") [u]) (EP X pins σ Q) X.xe s := fun a ea hn => by
    subst ea
    cases rx
    refine repr_of_reads' (h₀ := s.heap) rd h1 (PyData.noDict_hsm hn) hg (by omega) (fun b o e => e) (fun h' t tk hk => ?_) (line_of h3)
    exact ⟨.str d.shown, H, I.kept (h' := h') (t' := tk) hk, ⟨t, rfl⟩, q⟩
  cases d with
  | none =>
    cases hd
    cases rx
    exact PySem.P.repr_of_none ⟨.str _, H, I.tok _, ⟨_, rfl⟩, q⟩
  | bool b =>
    cases hd
    cases rx
    exact PySem.P.repr_of_bool ⟨.str _, H, I.tok _, ⟨_, rfl⟩, q⟩
  | int i =>
    cases hd
    obtain ⟨t, rfl⟩ := rx
    exact PySem.P.repr_of_int (of_decide_eq_true h1) ⟨.str _, H, I.tok _, ⟨_, rfl⟩, q⟩
  | str y =>
    cases hd
    obtain ⟨t, rfl⟩ := rx
    exact PySem.P.repr_of_str ⟨.str _, H, I.tok _, ⟨_, rfl⟩, q⟩ (line_of h3)
  | list ds => cases hd with | lst h1' h2' => exact deep _ rfl (dpNoDict (.list ds) _ (.lst h1' h2'))
  | tuple ds => cases hd with | tup h1' h2' => exact deep _ rfl (dpNoDict (.tuple ds) _ (.tup h1' h2'))
  | dict _ => cases hd
where
  dpNoDict {K : PySem.W.Frag} {H : Hp} : ∀ (d : D) (v : V), Dp K H v d → d.hasDict = false
    | .none, _, _ => rfl
    | .bool _, _, _ => rfl
    | .int _, _, _ => rfl
    | .str _, _, _ => rfl
    | .list ds, _, h => by cases h with | lst _ h2 => unfold PyData.hasDict; exact dpNoDicts ds _ h2
    | .tuple ds, _, h => by cases h with | tup _ h2 => unfold PyData.hasDict; exact dpNoDicts ds _ h2
    | .dict _, _, h => nomatch h
  dpNoDicts {K : PySem.W.Frag} {H : Hp} : ∀ (ds : List D) (vs : List V), DpAll K H vs ds → PyData.hasDictAll ds = false
    | [], _, _ => rfl
    | d :: ds, _, h => by
      cases h with
      | cons h1 h2 =>
        unfold PyData.hasDictAll
        rw [dpNoDict d _ h1, dpNoDicts ds _ h2]
        rfl
end
end Z
/-! ZF: what a def that means φ promises; its call; its body. -/
namespace Z
open PySem L2 PySem.Spec PyProof.Rows

/-- a def's promise where nothing is being shown (no repr is under way): else as FnOk -/
structure FnG (P : Program) (w : World) (K : PySem.W.Frag) (mg : Str → Option Value) (base : Heap) (k : Nat) (f : Addr) (fd : FuncData) (ps : List Str) (sp : Sp) : Prop where
  len : ∀ vs H Q E, sp vs H Q E → vs.length = ps.length
  run : ∀ (A : Around) (outer : List Env) (s : Shared) (H : Hp) (args : Args) (us : List Value) (vs : List V) (Q : VK) (E : XK), A.guards = some [] → Room k A → Env0 P w K mg base A outer s H →
    BindsTo s fd args (ps.zip us) → Vals vs us → sp vs H Q E → codeAny (model P w) A (.call (.ref f) args) (CR CX0 outer P w H s Q E) s

/-- what comes out of a call: its level of ownership -/
def RetR (K : PySem.W.Frag) (Hb Hs H : Hp) (v : V) (d : D) (l : Nat) : Prop :=
  match l with
  | 0 => Rp K Hs v d
  | 1 => ∃ a xs ds, d = .list ds ∧ v = .ref a ∧ H a = some (.lst xs) ∧ Hb a = none ∧ Hs a = none ∧ RpA K Hs xs ds
  | _ => ∃ fp, Ow1 K Hs H fp v d ∧ fp.Nodup ∧ ∀ a ∈ fp, Hb a = none ∧ Hs a = none
def spF (K : PySem.W.Frag) (n : Nat) (φ : List D → Option (D × Nat)) : Sp := fun vs H Q _ => ∃ (Hs : Hp) (ds : List D) (d : D) (l : Nat), Sub Hs H ∧ RpA K Hs vs ds ∧ φ ds = some (d, l) ∧ ds.length = n ∧
  ∀ v Hs' H', Step Hs H Hs' H' → RetR K H Hs' H' v d l → Q v H'

section
variable {X : Cx} {k : Nat} {f : Addr} {fd : FuncData} {ps : List Str} {sp : Sp} {x : Str} {p pos : Pos} {e : Expr} {es : List Expr} {t : TA}
theorem run_g {pins : List (Addr × Obj)} {σ : L2.St} {H : Hp} {s : Shared} {Q : VK} {us : List Value} {vs : List V} (F : FnG X.prog X.w X.K X.mg X.base k f fd ps sp) (hgu : X.A.guards = some []) (hr : Room k X.A) (hb : Binds X.K fd ps [])
    (I : Inv X pins σ H s) (r : Vals vs us) (h : sp vs H Q E0) : wpAny (model X.prog X.w) X.A (call (.ref f) us) (EP X pins σ Q) X.xe s := by
  have hl : us.length = ps.length := r.length.symm.trans (F.len _ _ _ _ h)
  have hb' : BindsTo s fd ⟨us, []⟩ (ps.zip us) := by
    have q := hb s us I.kIn (by rw [List.append_nil]; exact hl)
    rw [List.append_nil] at q
    exact q
  refine wpAny_call (codeAny_mono (F.run X.A X.stack s H ⟨us, []⟩ us vs Q E0 hgu hr I.env0 hb' r h) fun res s' hq => ?_)
  match res, hq with
  | .ok (.ret u), hq => exact I.after hq
theorem pe_callG (F : FnG X.prog X.w X.K X.mg X.base k f fd ps sp) (hgu : X.A.guards = some []) (hr : Room k X.A) (hg : Gl X x) (hm : X.mg x = some (.ref f)) (hk : PySem.W.keepIn X.K (.ref f) = true) (hb : Binds X.K fd ps []) (ha : PA X (e :: es) t)
    (hdb : (x == ("__debug__" : Str)) = false) (he : starEach (e :: es) X.env = (false, eval e X.env) :: starEach es X.env) (hpl : (backTo pos (starEach es X.env)).any (·.1) = false) :
    PE X (.Call (.Name x p) (e :: es) [] pos) (fun σ H Q => t σ H fun vs H1 => sp vs H1 Q E0) := by
  refine ⟨fun pins s σ H Q I h => ?_⟩
  refine wpAny_Call_Name_kw (ld_glob I hg hm ?_ hdb)
  exact PySem.W.callWith_K (h₀ := X.base) I.ok.mod.kin hk (thn (ha.run pos pins s σ H _ I h) fun us s1 ⟨vs, H1, I1, r, q⟩ => ⟨I1.kIn, run_g F hgu hr hb I1 r q⟩) he hpl
theorem pe_callG0 (F : FnG X.prog X.w X.K X.mg X.base k f fd ps sp) (hgu : X.A.guards = some []) (hr : Room k X.A) (hg : Gl X x) (hm : X.mg x = some (.ref f)) (hk : PySem.W.keepIn X.K (.ref f) = true) (hb : Binds X.K fd ps [])
    (hdb : (x == ("__debug__" : Str)) = false) : PE X (.Call (.Name x p) [] [] pos) (fun σ H Q => sp [] H Q E0) := by
  refine ⟨fun pins s σ H Q I h => ?_⟩
  refine wpAny_Call_Name_kw (ld_glob I hg hm ?_ hdb)
  exact PySem.W.callWith_K0 I.kIn hk (run_g (us := []) F hgu hr hb I .nil h)
end

/-- THE BODY: as Fun.ok, of a def under which nothing is being shown -/
theorem fn_g {P : Program} {w : World} {K : PySem.W.Frag} {mg : Str → Option Value} {base : Heap} {x qual : Str} {params : Arguments} {body : List Stmt} {scope : Scope} {dvs : List V} {kws : List (Str × V)} {f : Addr} {fd : FuncData} {N ps : List Str} {k : Nat} {sp : Sp} (F : FunD K x qual params body scope dvs kws f fd) (S : FnScope N ps scope) (len : ∀ vs H Q E, sp vs H Q E → vs.length = ps.length)
    (hbody : ∀ (cdv : Value) (A : Around) (outer : List Env) (s : Shared) (H : Hp) (vs : List V) (Q : VK) (E : XK), A.guards = some [] → Room k (A.deeper (envOfC qual scope s.heap.objs.size f cdv)) → sp vs H Q E →
      ∃ t, PSs (cxOf CX0 P w K mg base N qual scope f cdv A outer s H E).nox body t ∧ t { nx := fun _ H' => Q .non H', rt := Q } (start N vs) H) : FnG P w K mg base (k + 1) f fd ps sp := by
  obtain ⟨oc, od, dV, kV, doc, pm, an, cdv, ct, osl, rfl, lk, hcd, _, _⟩ := F.ex
  refine ⟨len, fun A outer s H args us vs Q E hgu hr e0 hb rv hsp => ?_⟩
  have kIn : K.In s.heap := e0.mod.kin.keeps fun b o q => (e0.bs b o q).1
  have lim : s.heap.NoLimit := e0.mod.nolimit.keeps fun b o q => (e0.bs b o q).1
  have kinds : ∀ y ∈ ps.zip us, scope.names.lookup y.1 = some .local ∨ (scope.names.lookup y.1 = some .cell ∧ ((cellsFrom (s.heap.objs.size + 1) scope.names []).lookup y.1).isSome = true) := by
    rintro ⟨n, v⟩ hy
    rcases S.par n (List.of_mem_zip hy).1 with q | q
    · exact Or.inl q
    · exact Or.inr ⟨q, PySem.W.cellsFrom_some _ _ _ (.inl q)⟩
  refine codeAny_call_function hr.depth (kIn _ _ lk) rfl S.co S.gen rfl (PySem.W.codeRec_of kIn hcd) (hb _ _ _ _ ?_)
  refine wpAny_newFunctionEnv_cells S.kind kinds fun env he s1 x => ?_
  subst he
  refine ⟨lim.keeps x.toInCall.keep, codeAny_func ?_⟩
  obtain ⟨t, ht, hq⟩ := hbody cdv A outer s H vs Q E hgu (hr.deeper _) hsp
  have J := inv_start (CX := CX0) (P := P) (w := w) (K := K) (mg := mg) (base := base) (E := E) (f := f) (cd := cdv) S hr.hd e0 (len _ _ _ _ hsp) rv x
  refine wpAny_mono ((PSs.nox ht).run [] s1 (start N vs) H _ J hq) (fun fl s' hs => ?_) fun e s' hs => hs
  have out : ∀ {σ' : L2.St} {H' : Hp} {v : V} {u : Value}, Inv (cxOf CX0 P w K mg base N qual scope f cdv A outer s H E) [] σ' H' s' → RelV v u → Q v H' → CE outer P w H s Q u s' :=
    fun {σ' H' v u} J' r' q' => ⟨v, H', J'.os, J'.bare, J'.base, J'.hok, r', q'⟩
  match fl, hs with
  | .ret u, hs =>
    obtain ⟨v, σ', H', J', r', q'⟩ := hs
    exact out J' r' q'
  | .next, hs =>
    obtain ⟨σ', H', J', q'⟩ := hs
    exact out (v := V.non) (u := Value.none) J' rfl q'
  | .brk, hs =>
    obtain ⟨_, _, _, q'⟩ := hs
    exact q'.elim
  | .cont, hs =>
    obtain ⟨_, _, _, q'⟩ := hs
    exact q'.elim
end Z
/-! ZE: several values, displays, calls, targets of comprehensions, what is walked. -/
namespace Z
open PySem L2 PySem.Spec PyProof.Rows

/-- several values with the lists that are theirs alone -/
inductive AllF (K : PySem.W.Frag) (L : Lab) (Hs H : Hp) : List Addr → List V → List R → Prop
  | nil : AllF K L Hs H [] [] []
  | own {v : V} {d : D} {fp fq : List Addr} {vs : List V} {rs : List R} : Ow1 K Hs H fp v d → AllF K L Hs H fq vs rs → AllF K L Hs H (fp ++ fq) (v :: vs) ((d, .own) :: rs)
  | top {a : Addr} {xs : List V} {ds : List D} {g : List Tag} {fq : List Addr} {vs : List V} {rs : List R} : H a = some (.lst xs) → RpA K (VH L g Hs H) xs ds → AllF K L Hs H fq vs rs → AllF K L Hs H (a :: fq) (.ref a :: vs) ((.list ds, .top g) :: rs)
  | sh {v : V} {d : D} {g : List Tag} {fq : List Addr} {vs : List V} {rs : List R} : Rp K (VH L g Hs H) v d → AllF K L Hs H fq vs rs → AllF K L Hs H fq (v :: vs) ((d, .sh g) :: rs)
def AllR (K : PySem.W.Frag) (L : Lab) (Hb Hs H : Hp) (vs : List V) (rs : List R) : Prop := ∃ fp, AllF K L Hs H fp vs rs ∧ fp.Nodup ∧ ∀ a ∈ fp, Hb a = none ∧ Hs a = none
section
variable {K : PySem.W.Frag} {L : Lab} {Hb Hb' Hs H Hs' H' : Hp} {vs : List V} {rs : List R} {fp : List Addr} {v : V} {r : R} {Q : VK}
theorem AllF.lists : ∀ {fp : List Addr} {vs : List V} {rs : List R}, AllF K L Hs H fp vs rs → ∀ a ∈ fp, ∃ xs, H a = some (.lst xs)
  | _, _, _, .nil, a, ha => by cases ha
  | _, _, _, .own h t, a, ha => by
    rcases List.mem_append.mp ha with ha | ha
    · exact Ow1.lists _ _ _ h a ha
    · exact AllF.lists t a ha
  | _, _, _, .top h _ t, a, ha => by
    rcases List.mem_cons.mp ha with e | ha
    · exact ⟨_, e ▸ h⟩
    · exact AllF.lists t a ha
  | _, _, _, .sh _ t, a, ha => AllF.lists t a ha
theorem AllF.mono (e1 : Sub Hs Hs') (e2 : ∀ g, Sub (VH L g Hs H) (VH L g Hs' H')) : ∀ {fp : List Addr} {vs : List V} {rs : List R}, (∀ a ∈ fp, H' a = H a) → AllF K L Hs H fp vs rs → AllF K L Hs' H' fp vs rs
  | _, _, _, _, .nil => .nil
  | _, _, _, hf, .own h t => .own (ow_mono e1 (fun a ha => hf a (List.mem_append_left _ ha)) h) (AllF.mono e1 e2 (fun a ha => hf a (List.mem_append_right _ ha)) t)
  | _, _, _, hf, .top h h2 t => .top ((hf _ List.mem_cons_self).trans h) (rpa_mono (e2 _) h2) (AllF.mono e1 e2 (fun a ha => hf a (List.mem_cons_of_mem _ ha)) t)
  | _, _, _, hf, .sh h t => .sh (rp_mono (e2 _) h) (AllF.mono e1 e2 hf t)
theorem AllR.step (h : AllR K L Hb Hs H vs rs) (l : LabOk L Hs H) (t : Step Hs H Hs' H') : AllR K L Hb Hs' H' vs rs := by
  obtain ⟨fp, h1, h2, h3⟩ := h
  have hl := h1.lists
  refine ⟨fp, h1.mono t.s (fun g => vh_step l t) (fun a ha => ?_), h2, fun a ha => ?_⟩
  · obtain ⟨xs, e⟩ := hl a ha
    rw [e, t.h a _ e]
  · obtain ⟨xs, e⟩ := hl a ha
    exact ⟨(h3 a ha).1, (t.ag a (by rw [e]; intro z; cases z)).trans (h3 a ha).2⟩
theorem AllR.base (h : AllR K L Hb' Hs H vs rs) (e : Sub Hb Hb') : AllR K L Hb Hs H vs rs := by
  obtain ⟨fp, h1, h2, h3⟩ := h
  exact ⟨fp, h1, h2, fun a ha => ⟨e.back (h3 a ha).1, (h3 a ha).2⟩⟩
theorem AllR.nil : AllR K L Hb Hs H [] [] := ⟨[], .nil, List.nodup_nil, fun a ha => by cases ha⟩
/-- one value as a part of several, in a later state -/
theorem RelR.part (h : RelR K L Hb Hs H v r) (l : LabOk L Hs H) : ∃ fp, fp.Nodup ∧ (∀ a ∈ fp, Hb a = none ∧ Hs a = none) ∧ (∀ a ∈ fp, ∃ xs, H a = some (.lst xs)) ∧
    ∀ {Hs' H' : Hp}, Step Hs H Hs' H' → ∀ {fq : List Addr} {vs : List V} {rs : List R}, AllF K L Hs' H' fq vs rs → AllF K L Hs' H' (fp ++ fq) (v :: vs) (r :: rs) := by
  obtain ⟨d, o⟩ := r
  cases o with
  | own =>
    obtain ⟨fp, h1, h2, h3⟩ := h
    have hl := Ow1.lists _ _ _ h1
    refine ⟨fp, h2, h3, hl, fun t => .own (ow_mono t.s (fun a ha => ?_) h1)⟩
    obtain ⟨xs, e⟩ := hl a ha
    rw [e, t.h a _ e]
  | top g =>
    obtain ⟨a, xs, ds, e1, e2, e3, e4, e5, e6⟩ := h
    have e1' : d = .list ds := e1
    subst e1'
    subst e2
    refine ⟨[a], List.nodup_cons.mpr ⟨fun z => (by cases z), List.nodup_nil⟩, fun b hb => ?_, fun b hb => ?_, fun t => .top (t.h a _ e3) (rpa_mono (vh_step l t) e6)⟩
    · have e : b = a := by simpa using hb
      rw [e]; exact ⟨e4, e5⟩
    · have e : b = a := by simpa using hb
      rw [e]; exact ⟨_, e3⟩
  | sh g => exact ⟨[], List.nodup_nil, (fun a ha => by cases ha), (fun a ha => by cases ha), fun t => .sh (rp_mono (vh_step l t) h)⟩
/-- the first value came ahead of the others -/
theorem AllR.cons (h : RelR K L Hb Hs H v r) (t : AllR K L H Hs' H' vs rs) (l : LabOk L Hs H) (st : Step Hs H Hs' H') (e : Sub Hb H) : AllR K L Hb Hs' H' (v :: vs) (r :: rs) := by
  obtain ⟨fp, p1, p2, p3, p4⟩ := RelR.part h l
  obtain ⟨fq, t1, t2, t3⟩ := t
  have some_ : ∀ a ∈ fp, H a ≠ none := fun a ha => by
    obtain ⟨xs, q⟩ := p3 a ha
    rw [q]; intro z; cases z
  refine ⟨fp ++ fq, p4 st t1, List.nodup_append.mpr ⟨p1, t2, fun a ha b hb z => some_ a ha (z ▸ (t3 b hb).1)⟩, fun a ha => ?_⟩
  rcases List.mem_append.mp ha with ha | ha
  · exact ⟨(p2 a ha).1, (st.ag a (some_ a ha)).trans (p2 a ha).2⟩
  · exact ⟨e.back (t3 a ha).1, (t3 a ha).2⟩
/-- one more behind -/
theorem AllR.snoc (t : AllR K L Hb Hs H vs rs) (l : LabOk L Hs H) (st : Step Hs H Hs' H') (h : RelR K L H Hs' H' v r) (e : ∀ a, H a = none → Hb a = none) : AllR K L Hb Hs' H' (vs ++ [v]) (rs ++ [r]) := by
  obtain ⟨fq, t1, t2, t3⟩ := t
  obtain ⟨fp, p1, p2, p3, p4⟩ := RelR.part h (l.step st)
  have hl := t1.lists
  have t4 : AllF K L Hs' H' fq vs rs := t1.mono st.s (fun g => vh_step l st) fun a ha => by
    obtain ⟨xs, q⟩ := hl a ha
    rw [q, st.h a _ q]
  have one : AllF K L Hs' H' (fp ++ []) [v] [r] := p4 (Step.refl (l.step st).sh) .nil
  rw [List.append_nil] at one
  have app : ∀ {fq : List Addr} {vs : List V} {rs : List R}, AllF K L Hs' H' fq vs rs → AllF K L Hs' H' (fq ++ fp) (vs ++ [v]) (rs ++ [r]) := by
    intro fq vs rs q
    induction q with
    | nil => exact one
    | own h _ ih => rw [List.append_assoc]; exact .own h ih
    | top h h2 _ ih => exact .top h h2 ih
    | sh h _ ih => exact .sh h ih
  refine ⟨fq ++ fp, app t4, List.nodup_append.mpr ⟨t2, p1, fun a ha b hb z => ?_⟩, fun a ha => ?_⟩
  · obtain ⟨xs, q⟩ := hl a ha
    have := (p2 b hb).1
    rw [← z, q] at this
    cases this
  · rcases List.mem_append.mp ha with ha | ha
    · obtain ⟨xs, q⟩ := hl a ha
      exact ⟨(t3 a ha).1, (st.ag a (by rw [q]; intro z; cases z)).trans (t3 a ha).2⟩
    · exact ⟨e a (p2 a ha).1, (p2 a ha).2⟩
theorem AllF.length : ∀ {fp : List Addr} {vs : List V} {rs : List R}, AllF K L Hs H fp vs rs → vs.length = rs.length
  | _, _, _, .nil => rfl
  | _, _, _, .own _ t => congrArg (· + 1) (AllF.length t)
  | _, _, _, .top _ _ t => congrArg (· + 1) (AllF.length t)
  | _, _, _, .sh _ t => congrArg (· + 1) (AllF.length t)
theorem AllR.length (h : AllR K L Hb Hs H vs rs) : vs.length = rs.length := let ⟨_, h, _⟩ := h; h.length
/-- all of it nobody else's -/
theorem AllF.owns (l : LabOk L Hs H) : ∀ {fp : List Addr} {vs : List V} {rs : List R}, AllF K L Hs H fp vs rs → rs.all isOwn = true → OwA K Hs H fp vs (rs.map (·.1))
  | _, _, _, .nil, _ => .nil
  | _, _, _, .own h t, e => by
    rw [List.all_cons, Bool.and_eq_true] at e
    exact .cons h (AllF.owns l t e.2)
  | _, _, _, .top _ _ _, e => by
    rw [List.all_cons, Bool.and_eq_true] at e
    cases e.1
  | _, _, _, .sh h t, e => by
    rw [List.all_cons, Bool.and_eq_true] at e
    have q := flat_ow (Hs := Hs) (H := H) (fun a xs z => vh_tup l z) _ _ e.1 h
    exact OwA.cons (fp := []) q (AllF.owns l t e.2)
theorem vh_addH (fp : List Addr) (hf : ∀ a ∈ fp, Hs a = none) (hlab : ∀ a t, L a = some t → a ∉ fp) (g : List Tag) : Sub (VH L g Hs H) (VH L g (addH fp Hs H) H) := fun b o hb => by
  unfold VH at hb
  split at hb
  · rename_i z
    cases hb
    exact vh_s b _ (addH_sub hf b _ z)
  · rename_i z0
    split at hb
    · rename_i t z
      split at hb
      · rename_i hc
        rw [vh_lab ((addH_out (hlab b t z)).trans z0) z hc]
        exact hb
      · cases hb
    · cases hb
/-- all of it shared from now on -/
theorem AllF.shared (e1 : Sub Hs Hs') (e2 : ∀ g, Sub (VH L g Hs H) (VH L g Hs' H)) : ∀ {fp : List Addr} {vs : List V} {rs : List R}, (∀ a ∈ fp, Hs' a = H a) → AllF K L Hs H fp vs rs → RpA K (VH L (tagsAll rs) Hs' H) vs (rs.map (·.1))
  | _, _, _, _, .nil => .nil
  | _, _, _, hf, .own h t => by
    refine .cons (ow_rp (e1.trans vh_s) (fun a ha => ?_) h) (rpa_mono (vh_right _ _) (AllF.shared e1 e2 (fun a ha => hf a (List.mem_append_right _ ha)) t))
    obtain ⟨xs, q⟩ := Ow1.lists _ _ _ h a ha
    rw [q]
    exact vh_s a _ ((hf a (List.mem_append_left _ ha)).trans q)
  | _, _, _, hf, .top h h2 t =>
    .cons (.lst (.inl (vh_s _ _ ((hf _ List.mem_cons_self).trans h))) (rpa_mono (Evl.Ex.trans (e2 _) (vh_left _ _)) h2)) (rpa_mono (vh_right _ _) (AllF.shared e1 e2 (fun a ha => hf a (List.mem_cons_of_mem _ ha)) t))
  | _, _, _, hf, .sh h t => .cons (rp_mono (Evl.Ex.trans (e2 _) (vh_left _ _)) h) (rpa_mono (vh_right _ _) (AllF.shared e1 e2 hf t))
theorem AllR.share (h : AllR K L Hb Hs H vs rs) (l : LabOk L Hs H) (hlab : ∀ a t, L a = some t → Hb a ≠ none) :
    ∃ Hs', Sub Hs Hs' ∧ Sub Hs' H ∧ (∀ a, Hb a ≠ none → Hs' a = Hs a) ∧ LabOk L Hs' H ∧ RpA K (VH L (tagsAll rs) Hs' H) vs (rs.map (·.1)) := by
  obtain ⟨fp, h1, h2, h3⟩ := h
  have nl : ∀ a t, L a = some t → a ∉ fp := fun a t e z => hlab a t e (h3 a z).1
  have ag : ∀ a, Hb a ≠ none → addH fp Hs H a = Hs a := fun a ha => addH_out fun z => ha (h3 a z).1
  have hs : Sub Hs (addH fp Hs H) := addH_sub fun a ha => (h3 a ha).2
  exact ⟨addH fp Hs H, hs, addH_h l.sh, ag, ⟨addH_h l.sh, fun a t e => ⟨(addH_out (nl a t e)).trans (l.lab a t e).1, (l.lab a t e).2⟩⟩,
    h1.shared hs (vh_addH fp (fun a ha => (h3 a ha).2) nl) fun a ha => addH_in ha⟩
/-- the new list D holds it -/
theorem AllR.intoL {Dl : Addr} (h : AllR K L Hb Hs H vs rs) (l : LabOk L Hs H) (hlab : ∀ a t, L a = some t → Hb a ≠ none) (hb : Hb Dl = none) (hd : H Dl = some (.lst vs)) (hs : Hs Dl = none) (hn : ∀ fp, AllF K L Hs H fp vs rs → (∀ a ∈ fp, Hb a = none ∧ Hs a = none) → fp.Nodup → Dl ∉ fp) :
    ∃ Hs', Sub Hs Hs' ∧ Sub Hs' H ∧ (∀ a, Hb a ≠ none → Hs' a = Hs a) ∧ RelR K L Hb Hs' H (.ref Dl) (dispL rs) := by
  unfold dispL
  by_cases e : rs.all isOwn = true
  · rw [if_pos e]
    obtain ⟨fp, h1, h2, h3⟩ := h
    refine ⟨Hs, Evl.Ex.refl _, l.sh, fun _ _ => rfl, Dl :: fp, .lst hd (h1.owns l e), List.nodup_cons.mpr ⟨hn fp h1 h3 h2, h2⟩, fun a ha => ?_⟩
    rcases List.mem_cons.mp ha with z | ha
    · rw [z]; exact ⟨hb, hs⟩
    · exact h3 a ha
  · rw [if_neg e]
    obtain ⟨fp, h1, h2, h3⟩ := h
    have nl : ∀ a t, L a = some t → a ∉ fp := fun a t q z => hlab a t q (h3 a z).1
    have hss : Sub Hs (addH fp Hs H) := addH_sub fun a ha => (h3 a ha).2
    refine ⟨addH fp Hs H, hss, addH_h l.sh, fun a ha => addH_out fun z => ha (h3 a z).1, Dl, vs, rs.map (·.1), rfl, rfl, hd, hb, (addH_out (hn fp h1 h3 h2)).trans hs,
      h1.shared hss (vh_addH fp (fun a ha => (h3 a ha).2) nl) fun a ha => addH_in ha⟩
end
end Z
/-! ZG: argument lists, displays, calls, targets, what is walked, comprehensions: their readings. -/
namespace Z
open PySem L2 PySem.Spec PyProof.Rows

def rdA (K : PySem.W.Frag) (f : Rho → Option (List R)) : TA := fun σ H Q => ∃ (B : Bas) (Hs : Hp) (L : Lab) (ρ : Rho) (rs : List R), WF K B Hs H L σ ρ ∧ f ρ = some rs ∧
  ∀ vs Hs' H', Step Hs H Hs' H' → AllR K L H Hs' H' vs rs → Q vs H'
section
variable {X : Cx} {x : Expr} {xs : List Expr} {ta ta' : TA} {K : PySem.W.Frag} {Φ : Fn} {e : E} {es : Es} {pos : Pos}
theorem pa_imp (h : PA X xs ta) (hi : ∀ σ H Q, ta' σ H Q → ta σ H Q) : PA X xs ta' := ⟨fun pos pins s σ H Q I q => h.run pos pins s σ H Q I (hi σ H Q q)⟩
theorem args_nil : PA X [] (rdA K (evs Φ .nil)) := pa_imp pa_nil fun σ H Q q => by
  obtain ⟨B, Hs, L, ρ, rs, w, hf, hq⟩ := q
  unfold evs at hf
  cases hf
  exact hq [] Hs H (Step.refl w.lok.sh) AllR.nil
theorem args_cons (h1 : PE X x (rdE K (ev Φ e))) (h2 : PA X xs (rdA K (evs Φ es))) (hs : starEach (x :: xs) X.env = (false, eval x X.env) :: starEach xs X.env) : PA X (x :: xs) (rdA K (evs Φ (.cons e es))) :=
  pa_imp (pa_cons h1 h2 hs) fun σ H Q q => by
    obtain ⟨B, Hs, L, ρ, rs, w, hf, hq⟩ := q
    unfold evs at hf
    cases ha : ev Φ e ρ with
    | none => rw [ha] at hf; cases hf
    | some r =>
      rw [ha] at hf
      cases hb : evs Φ es ρ with
      | none => rw [hb] at hf; cases hf
      | some rr =>
        rw [hb] at hf
        cases hf
        exact ⟨B, Hs, L, ρ, r, w, ha, fun v Hs1 H1 t1 rel => ⟨B, Hs1, L, ρ, rr, w.step t1, hb, fun vs Hs2 H2 t2 all => hq (v :: vs) Hs2 H2 (t1.trans t2) (AllR.cons rel all (w.lok.step t1) t2 t1.h)⟩⟩
end
section
variable {K : PySem.W.Frag} {L : Lab} {Hb Hb' Hs H Hs' H' : Hp} {vs : List V} {rs : List R} {fp : List Addr} {v : V} {r : R} {Q : VK}
/-- a list made behind them -/
theorem AllR.beside {p : Addr} {o : HO} (h : AllR K L Hb Hs H vs rs) (l : LabOk L Hs H) (hp : H p = none) (e : Sub Hb H) : AllR K L (upd Hb p o) Hs (upd H p o) vs rs := by
  obtain ⟨fp, h1, h2, h3⟩ := h
  have hl := h1.lists
  have ne : ∀ a ∈ fp, a ≠ p := fun a ha z => by
    obtain ⟨xs, q⟩ := hl a ha
    rw [z, hp] at q
    cases q
  have st : Step Hs H Hs (upd H p o) := step_lst l.sh hp
  exact ⟨fp, h1.mono st.s (fun g => vh_step l st) (fun a ha => upd_ne (ne a ha)), h2, fun a ha => ⟨(upd_ne (ne a ha)).trans (h3 a ha).1, (h3 a ha).2⟩⟩
/-- the list D takes them in: Hb' is a heap ahead of them that has D -/
theorem AllR.into {Dl : Addr} (h : AllR K L Hb' Hs H vs rs) (l : LabOk L Hs H) (hlab : ∀ a t, L a = some t → Hb' a ≠ none) (hb : Hb Dl = none) (hd' : Hb' Dl ≠ none) (hd : H Dl = some (.lst vs)) (hs : Hs Dl = none) (e : Sub Hb Hb') :
    ∃ Hs', Sub Hs Hs' ∧ Sub Hs' H ∧ (∀ a, Hb' a ≠ none → Hs' a = Hs a) ∧ RelR K L Hb Hs' H (.ref Dl) (dispL rs) := by
  unfold dispL
  obtain ⟨fp, h1, h2, h3⟩ := h
  have nd : Dl ∉ fp := fun z => hd' (h3 Dl z).1
  by_cases q : rs.all isOwn = true
  · rw [if_pos q]
    refine ⟨Hs, Evl.Ex.refl _, l.sh, fun _ _ => rfl, Dl :: fp, .lst hd (h1.owns l q), List.nodup_cons.mpr ⟨nd, h2⟩, fun a ha => ?_⟩
    rcases List.mem_cons.mp ha with z | ha
    · rw [z]; exact ⟨hb, hs⟩
    · exact ⟨e.back (h3 a ha).1, (h3 a ha).2⟩
  · rw [if_neg q]
    have nl : ∀ a t, L a = some t → a ∉ fp := fun a t q z => hlab a t q (h3 a z).1
    have hss : Sub Hs (addH fp Hs H) := addH_sub fun a ha => (h3 a ha).2
    exact ⟨addH fp Hs H, hss, addH_h l.sh, fun a ha => addH_out fun z => ha (h3 a z).1, Dl, vs, rs.map (·.1), rfl, rfl, hd, hb, (addH_out nd).trans hs,
      h1.shared hss (vh_addH fp (fun a ha => (h3 a ha).2) nl) fun a ha => addH_in ha⟩
end
section
variable {X : Cx} {x : Expr} {xs : List Expr} {K : PySem.W.Frag} {Φ : Fn} {e : E} {es : Es} {pos : Pos}
theorem list_disp (h : PA X xs (rdA K (evs Φ es))) : PE X (.List xs pos) (rdE K (ev Φ (.lst es))) := pe_imp (pe_lst h) fun σ H Q q => by
  obtain ⟨B, Hs, L, ρ, r, w, hf, hq⟩ := q
  unfold ev at hf
  cases ha : evs Φ es ρ with
  | none => rw [ha] at hf; cases hf
  | some rs =>
    rw [ha] at hf
    obtain ⟨z, e⟩ := ite_some (show (if rs.length ≤ 1000000 then some (dispL rs) else none) = some r from hf)
    subst e
    refine ⟨B, Hs, L, ρ, rs, w, ha, fun vs Hs1 H1 t1 all => ⟨by rw [all.length]; exact line_of z, fun p hp => ?_⟩⟩
    have l1 := w.lok.step t1
    have st : Step Hs1 H1 Hs1 (upd H1 p (.lst vs)) := step_lst l1.sh hp
    have e : Sub H (upd H p (.lst vs)) := Evl.Ex.new (t1.h.back hp)
    obtain ⟨Hs2, q1, q2, q3, q4⟩ := AllR.into (Hb := H) (Dl := p) (all.beside l1 hp t1.h) (l1.step st) (fun a t q => e.ne (w.labH a t q)) (t1.h.back hp) (by rw [upd_same]; intro z; cases z) upd_same (l1.sh.back hp) e
    exact hq _ Hs2 _ ⟨t1.s.trans q1, t1.h.trans st.h, q2, fun a ha => (q3 a (e.ne ha)).trans (t1.ag a ha)⟩ q4
theorem tup_disp {k : Nat} (h : PA X xs (rdA K (evs Φ es))) : PE X (.Tuple xs k pos) (rdE K (ev Φ (.tup es))) := pe_imp (pe_tup h) fun σ H Q q => by
  obtain ⟨B, Hs, L, ρ, r, w, hf, hq⟩ := q
  unfold ev at hf
  cases ha : evs Φ es ρ with
  | none => rw [ha] at hf; cases hf
  | some rs =>
    rw [ha] at hf
    obtain ⟨z, e⟩ := ite_some (show (if rs.length ≤ 1000000 then some (dispT rs) else none) = some r from hf)
    subst e
    refine ⟨B, Hs, L, ρ, rs, w, ha, fun vs Hs1 H1 t1 all => ⟨by rw [all.length]; exact line_of z, fun p hp => ?_⟩⟩
    have l1 := w.lok.step t1
    unfold dispT at hq
    by_cases q : rs.all isOwn = true
    · rw [if_pos q] at hq
      have st : Step Hs1 H1 (upd Hs1 p (.tup vs)) (upd H1 p (.tup vs)) := step_tup l1.sh hp
      obtain ⟨fp, h1, h2, h3⟩ := all
      have hl := h1.lists
      have ne : ∀ a ∈ fp, a ≠ p := fun a ha z => by
        obtain ⟨xs, q⟩ := hl a ha
        rw [z, hp] at q
        cases q
      refine hq _ _ _ (t1.trans st) ⟨fp, .tup (.inl (.inl upd_same)) (owa_mono st.s (fun a ha => upd_ne (ne a ha)) (h1.owns l1 q)), h2, fun a ha => ⟨(h3 a ha).1, ?_⟩⟩
      rw [upd_ne (ne a ha)]
      exact (h3 a ha).2
    · rw [if_neg q] at hq
      obtain ⟨Hs2, q1, q2, q3, l2, q5⟩ := all.share l1 w.labH
      have t2 : Step Hs H Hs2 H1 := ⟨t1.s.trans q1, t1.h, q2, fun a ha => (q3 a ha).trans (t1.ag a ha)⟩
      exact fin_tup (Hb := H) (g := tagsAll rs) l2 (fun w' Hs' H' t3 rel => hq w' Hs' H' (t2.trans t3) rel) hp q5
/-- the reading of shared arguments -/
def rdFs (K : PySem.W.Frag) (f : Rho → Option (List R)) : TA := fun σ H Q => ∃ (B : Bas) (Hs : Hp) (L : Lab) (ρ : Rho) (rs : List R), WF K B Hs H L σ ρ ∧ f ρ = some rs ∧
  ∀ vs Hs' H', Step Hs H Hs' H' → RpA K (VH L (tagsAll rs) Hs' H') vs (rs.map (·.1)) → Q vs H'
theorem args_sh {f : Rho → Option (List R)} (h : PA X xs (rdA K f)) : PA X xs (rdFs K f) := pa_imp h fun σ H Q q => by
  obtain ⟨B, Hs, L, ρ, rs, w, hf, hq⟩ := q
  refine ⟨B, Hs, L, ρ, rs, w, hf, fun vs Hs1 H1 t1 all => ?_⟩
  obtain ⟨Hs2, q1, q2, q3, l2, q5⟩ := all.share (w.lok.step t1) w.labH
  exact hq vs Hs2 H1 ⟨t1.s.trans q1, t1.h, q2, fun a ha => (q3 a ha).trans (t1.ag a ha)⟩ q5
/-- a call, from its arguments -/
theorem call_red {j n : Nat} {σ : L2.St} {H : Hp} {Q : VK} (hn : ∀ ds d l, Φ j ds = some (d, l) → ds.length = n) (q : rdE K (ev Φ (.call j es)) σ H Q) : rdFs K (evs Φ es) σ H fun vs H1 => spF K n (Φ j) vs H1 Q E0 := by
  obtain ⟨B, Hs, L, ρ, r, w, hf, hq⟩ := q
  unfold ev at hf
  cases ha : evs Φ es ρ with
  | none => rw [ha] at hf; cases hf
  | some rs =>
    rw [ha] at hf
    have hf' : callR Φ j rs = some r := hf
    refine ⟨B, Hs, L, ρ, rs, w, ha, fun vs Hs1 H1 t1 ra => ?_⟩
    have l1 := w.lok.step t1
    cases hc : Φ j (rs.map (·.1)) with
    | none => unfold callR at hf'; rw [hc] at hf'; cases hf'
    | some p =>
      obtain ⟨d, lv⟩ := p
      refine ⟨VH L (tagsAll rs) Hs1 H1, rs.map (·.1), d, lv, vh_h l1.sh, ra, hc, hn _ _ _ hc, fun v Hs2 H2 t2 rr => ?_⟩
      -- the caller's shared part: without the slots' lists
      let Hs3 : Hp := fun a => match L a with | some _ => none | none => Hs2 a
      have l0 : ∀ a t, L a = some t → H1 a ≠ none := fun a t e => (w.step t1).labH a t e
      have e3 : ∀ a, L a = none → Hs3 a = Hs2 a := fun a e => by show (match L a with | some _ => none | none => Hs2 a) = Hs2 a; rw [e]
      have e3' : ∀ a t, L a = some t → Hs3 a = none := fun a t e => by show (match L a with | some _ => none | none => Hs2 a) = none; rw [e]
      have sub13 : Sub Hs1 Hs3 := fun a o h => by
        cases hl : L a with
        | some t =>
          have := (l1.lab a t hl).1
          rw [this] at h; cases h
        | none =>
          rw [e3 a hl]
          exact t2.s a o (vh_s a o h)
      have sub32 : Sub Hs3 H2 := fun a o h => by
        cases hl : L a with
        | some t => rw [e3' a t hl] at h; cases h
        | none => rw [e3 a hl] at h; exact t2.sh a o h
      have t3 : Step Hs1 H1 Hs3 H2 := by
        refine ⟨sub13, t2.h, sub32, fun a ha => ?_⟩
        cases hl : L a with
        | some t => rw [e3' a t hl]; exact (l1.lab a t hl).1.symm
        | none =>
          rw [e3 a hl, t2.ag a ha]
          unfold VH
          split
          · rename_i e; exact e.symm
          · rename_i e
            rw [hl]
            exact e.symm
      have l3 := l1.step t3
      have back : Sub Hs2 (VH L (tagsAll rs) Hs3 H2) := fun a o h => by
        cases hl : L a with
        | none => exact vh_s a o (by rw [e3 a hl]; exact h)
        | some t =>
          have h1 := t2.ag a (l0 a t hl)
          rw [h1] at h
          unfold VH at h
          rw [(l1.lab a t hl).1, hl] at h
          by_cases hcov : cov (tagsAll rs) t = true
          · have h2 : (if cov (tagsAll rs) t = true then H1 a else none) = some o := h
            rw [if_pos hcov] at h2
            rw [vh_lab (e3' a t hl) hl hcov]
            exact t2.h a o h2
          · have h2 : (if cov (tagsAll rs) t = true then H1 a else none) = some o := h
            rw [if_neg hcov] at h2
            cases h2
      have fresh : ∀ a, H1 a = none → Hs2 a = none → Hs3 a = none := fun a _ h2 => by
        cases hl : L a with
        | some t => exact e3' a t hl
        | none => rw [e3 a hl]; exact h2
      refine hq v Hs3 H2 (t1.trans t3) ?_
      unfold callR at hf'
      rw [hc] at hf'
      match lv, rr, hf' with
      | 0, rr, hf' =>
        cases hf'
        exact relS (rp_mono back rr) l3
      | 1, rr, hf' =>
        cases hf'
        obtain ⟨a, ys, ds, rfl, rfl, b1, b2, b3, b4⟩ := rr
        exact relT b1 (t1.h.back b2) (fresh a b2 b3) (rpa_mono back b4) l3
      | (m + 2), rr, hf' =>
        cases hf'
        obtain ⟨fp, b1, b2, b3⟩ := rr
        refine ⟨fp, ?_, b2, fun a ha => ⟨t1.h.back (b3 a ha).1, fresh a (b3 a ha).1 (b3 a ha).2⟩⟩
        -- its tuples stand in the shared part: none of them is a slot's list
        exact ow_tups (fun a xs h => by
          have key : ∀ u, Hs2 a = some u → (∀ ys, u ≠ .lst ys) → Hs3 a = some u := fun u hu hnl => by
            cases hl : L a with
            | none => rw [e3 a hl]; exact hu
            | some t =>
              obtain ⟨_, ys, e⟩ := l1.lab a t hl
              have := t2.h a _ e
              rw [t2.sh a u hu] at this
              exact absurd (Option.some.inj this) (hnl ys)
          rcases h with h | ⟨o, h⟩
          · exact .inl (key _ h (by intro ys z; cases z))
          · exact .inr ⟨o, key _ h (by intro ys z; cases z)⟩) d v fp b1
where
  ow_tups {K : PySem.W.Frag} {Hs Hs' H : Hp} (ht : ∀ a xs, Rd Hs a (.tup xs) → Rd Hs' a (.tup xs)) : ∀ (d : D) (v : V) (fp : List Addr), Ow1 K Hs H fp v d → Ow1 K Hs' H fp v d
    | .none, _, _, h => by cases h; exact .non
    | .bool b, _, _, h => by cases h; exact .bl b
    | .int i, _, _, h => by cases h; exact .int i
    | .str y, _, _, h => by cases h; exact .str y
    | .list ds, _, _, h => by cases h with | lst h1 h2 => exact .lst h1 (owa_tups ht ds _ _ h2)
    | .tuple ds, _, _, h => by
      cases h with
      | tup h1 h2 =>
        refine .tup ?_ (owa_tups ht ds _ _ h2)
        rcases h1 with h1 | h1
        · exact .inl (ht _ _ h1)
        · exact .inr h1
    | .dict _, _, _, h => nomatch h
  owa_tups {K : PySem.W.Frag} {Hs Hs' H : Hp} (ht : ∀ a xs, Rd Hs a (.tup xs) → Rd Hs' a (.tup xs)) : ∀ (ds : List D) (vs : List V) (fp : List Addr), OwA K Hs H fp vs ds → OwA K Hs' H fp vs ds
    | [], _, _, h => by cases h; exact .nil
    | d :: ds, _, _, h => by cases h with | cons h1 h2 => exact .cons (ow_tups ht d _ _ h1) (owa_tups ht ds _ _ h2)
end
end Z
/-! ZH: targets of comprehensions, what is walked, comprehensions. -/
namespace Z
open PySem L2 PySem.Spec PyProof.Rows

theorem nmS_sh (d : D) (g : List Tag) : ∃ h, nmS d g = .sh h := by
  unfold nmS
  split
  · exact ⟨_, rfl⟩
  · split
    · exact ⟨_, rfl⟩
    · exact ⟨_, rfl⟩
section
variable {K : PySem.W.Frag} {B : Bas} {Hs H Hs' H' Hb : Hp} {L : Lab} {σ σ' : L2.St} {ρ ρ' : Rho} {v : V} {d : D} {g : List Tag} {i : Nat}
/-- a shared value into a slot, within an expression -/
theorem WFv.setC (w : WF K B Hs H L σ ρ) (h : Rp K (VH L g Hs H) v d) : WF K B Hs H L (σ.set i (some v)) (ρ.set i (some (d, nmS d g))) := by
  refine ⟨w.ex0, w.ag0, w.exs0, w.sub0, w.lok, w.lab0, by rw [List.length_set, List.length_set]; exact w.len, fun j r hj => ?_⟩
  rw [List.getElem?_set] at hj ⊢
  by_cases e : i = j
  · subst e
    rw [if_pos rfl] at hj ⊢
    by_cases hl : i < ρ.length
    · rw [if_pos hl] at hj
      rw [if_pos (by rw [w.len]; exact hl)]
      cases hj
      refine ⟨v, rfl, ?_⟩
      have rel := relS (Hb := H) h w.lok
      obtain ⟨q, hq⟩ := nmS_sh d g
      rw [hq] at rel ⊢
      exact rel
    · rw [if_neg hl] at hj
      cases hj
  · rw [if_neg e] at hj ⊢
    exact w.slot j r hj
theorem wipeR_get : ∀ (vs : List Nat) (ρ : Rho) (j : Nat) (r : R), (wipeR vs ρ)[j]? = some (some r) → ρ[j]? = some (some r) ∧ j ∉ vs
  | [], ρ, j, r, h => ⟨h, by simp⟩
  | v :: vs, ρ, j, r, h => by
    unfold wipeR at h
    rw [List.getElem?_set] at h
    by_cases e : v = j
    · rw [if_pos e] at h
      split at h <;> cases h
    · rw [if_neg e] at h
      obtain ⟨h1, h2⟩ := wipeR_get vs ρ j r h
      exact ⟨h1, by simp only [List.mem_cons, not_or]; exact ⟨fun z => e z.symm, h2⟩⟩
theorem wipe_get : ∀ (vs : List Nat) (σ : L2.St) (j : Nat) (x : Option V), j ∉ vs → σ[j]? = some x → (wipe σ vs)[j]? = some x
  | [], σ, j, x, _, h => h
  | v :: vs, σ, j, x, hn, h => by
    unfold wipe
    rw [List.getElem?_set, if_neg (fun e => hn (by rw [e]; exact List.mem_cons_self))]
    exact wipe_get vs σ j x (fun z => hn (List.mem_cons_of_mem _ z)) h
theorem wipeR_len : ∀ (vs : List Nat) (ρ : Rho), (wipeR vs ρ).length = ρ.length
  | [], _ => rfl
  | v :: vs, ρ => by unfold wipeR; rw [List.length_set, wipeR_len vs ρ]
theorem WFv.wipe {vh : List Tag → Hp} (w : WFv K B Hs H L vh σ ρ) (vs : List Nat) : WFv K B Hs H L vh (wipe σ vs) (wipeR vs ρ) := by
  refine ⟨w.ex0, w.ag0, w.exs0, w.sub0, w.lok, w.lab0, by rw [wipe_length, wipeR_len]; exact w.len, fun j r hj => ?_⟩
  obtain ⟨h1, h2⟩ := wipeR_get vs ρ j r hj
  obtain ⟨v, q1, q2⟩ := w.slot j r h1
  exact ⟨v, wipe_get vs σ j _ h2 q1, q2⟩

/-! ### targets of comprehensions -/
mutual
def pIn (vs : List Nat) : Pat → Bool
  | .nm i => vs.contains i
  | .tp ps => psIn vs ps
def psIn (vs : List Nat) : Pats → Bool
  | .nil => true
  | .cons p r => pIn vs p && psIn vs r
end
theorem wipe_set : ∀ (vs : List Nat) (σ : L2.St) (i : Nat) (x : Option V), i ∈ vs → wipe (σ.set i x) vs = wipe σ vs
  | v :: vs, σ, i, x, h => by
    unfold wipe
    by_cases e : i ∈ vs
    · rw [wipe_set vs σ i x e]
    · have e2 : i = v := by
        rcases List.mem_cons.mp h with z | z
        · exact z
        · exact absurd z e
      subst e2
      apply List.ext_getElem?
      intro j
      rw [List.getElem?_set, List.getElem?_set, wipe_length, wipe_length, List.length_set]
      by_cases q : i = j
      · subst q
        rw [if_pos rfl, if_pos rfl]
      · rw [if_neg q, if_neg q]
        by_cases qv : j ∈ vs
        · exact wipe_in vs (σ.set i x) σ j qv (by rw [List.length_set])
        · rw [wipe_out vs _ j qv, wipe_out vs _ j qv, List.getElem?_set, if_neg q]
where
  wipe_out : ∀ (vs : List Nat) (σ : L2.St) (j : Nat), j ∉ vs → (wipe σ vs)[j]? = σ[j]?
    | [], σ, j, _ => rfl
    | v :: vs, σ, j, h => by
      unfold wipe
      rw [List.getElem?_set, if_neg (fun e => h (by rw [e]; exact List.mem_cons_self))]
      exact wipe_out vs σ j fun z => h (List.mem_cons_of_mem _ z)
  wipe_in : ∀ (vs : List Nat) (σ τ : L2.St) (j : Nat), j ∈ vs → σ.length = τ.length → (wipe σ vs)[j]? = (wipe τ vs)[j]?
    | v :: vs, σ, τ, j, h, hl => by
      unfold wipe
      rw [List.getElem?_set, List.getElem?_set, wipe_length, wipe_length, hl]
      by_cases q : v = j
      · rw [if_pos q, if_pos q]
      · rw [if_neg q, if_neg q]
        rcases List.mem_cons.mp h with z | z
        · exact absurd z.symm q
        · exact wipe_in vs σ τ j z hl
def rdG (K : PySem.W.Frag) (p : Pat) : TG := fun v σ H Q => ∃ (B : Bas) (Hs : Hp) (L : Lab) (ρ ρ' : Rho) (d : D) (g : List Tag), WF K B Hs H L σ ρ ∧ Rp K (VH L g Hs H) v d ∧ setC p d g ρ = some ρ' ∧
  ∀ σ', WF K B Hs H L σ' ρ' → (∀ vs, pIn vs p = true → wipe σ' vs = wipe σ vs) → Q σ' H
def rdGs (K : PySem.W.Frag) (ps : Pats) : TGs := fun us σ H Q => ∃ (B : Bas) (Hs : Hp) (L : Lab) (ρ ρ' : Rho) (ds : List D) (g : List Tag), WF K B Hs H L σ ρ ∧ RpA K (VH L g Hs H) us ds ∧ setCs ps ds g ρ = some ρ' ∧
  ∀ σ', WF K B Hs H L σ' ρ' → (∀ vs, psIn vs ps = true → wipe σ' vs = wipe σ vs) → Q σ' H
variable {X : Cx} {t : Expr} {ts : List Expr} {tg tg' : TG} {tgs tgs' : TGs} {p : Pat} {ps : Pats}
theorem pg_imp (h : PG X t tg) (hi : ∀ v σ H Q, tg' v σ H Q → tg v σ H Q) : PG X t tg' := ⟨fun pins s σ H v u Q I r q => h.run pins s σ H v u Q I r (hi v σ H Q q)⟩
theorem pgs_imp (h : PGs X ts tgs) (hi : ∀ v σ H Q, tgs' v σ H Q → tgs v σ H Q) : PGs X ts tgs' := ⟨fun pins s σ H v u Q I r q => h.run pins s σ H v u Q I r (hi v σ H Q q)⟩
theorem pg_or (h : PG X t tg) (h' : PG X t tg') : PG X t (fun v σ H Q => tg v σ H Q ∨ tg' v σ H Q) := ⟨fun pins s σ H v u Q I r q => by
  rcases q with q | q
  · exact h.run pins s σ H v u Q I r q
  · exact h'.run pins s σ H v u Q I r q⟩
theorem tg_nm (h : PG X t (gName i)) : PG X t (rdG K (.nm i)) := pg_imp h fun v σ H Q q => by
  obtain ⟨B, Hs, L, ρ, ρ', d, g, w, rv, hs, hq⟩ := q
  unfold setC at hs
  cases hs
  refine hq _ (w.setC rv) fun vs hv => wipe_set vs σ i _ ?_
  unfold pIn at hv
  simpa using hv
theorem tgs_nil : PGs X [] (rdGs K .nil) := pgs_imp pgs_nil fun us σ H Q q => by
  obtain ⟨B, Hs, L, ρ, ρ', ds, g, w, rv, hs, hq⟩ := q
  cases rv with
  | nil =>
    unfold setCs at hs
    cases hs
    exact ⟨rfl, hq σ w fun _ _ => rfl⟩
  | cons _ _ => unfold setCs at hs; cases hs
theorem tgs_cons (h1 : PG X t (rdG K p)) (h2 : PGs X ts (rdGs K ps)) (hs : (assignEach (t :: ts) X.env).map (·.2) = assign t X.env :: (assignEach ts X.env).map (·.2)) : PGs X (t :: ts) (rdGs K (.cons p ps)) :=
  pgs_imp (pgs_cons h1 h2 hs) fun us σ H Q q => by
    obtain ⟨B, Hs, L, ρ, ρ', ds, g, w, rv, hs, hq⟩ := q
    cases rv with
    | nil => unfold setCs at hs; cases hs
    | cons r1 r2 =>
      unfold setCs at hs
      split at hs
      · rename_i ρ1 e1
        refine ⟨_, _, rfl, B, Hs, L, ρ, ρ1, _, g, w, r1, e1, fun σ1 w1 k1 => ⟨B, Hs, L, ρ1, ρ', _, g, w1, r2, hs, fun σ2 w2 k2 => hq σ2 w2 fun vs hv => ?_⟩⟩
        unfold psIn at hv
        rw [Bool.and_eq_true] at hv
        exact (k2 vs hv.2).trans (k1 vs hv.1)
      · cases hs
def psLen : Pats → Nat
  | .nil => 0
  | .cons _ r => psLen r + 1
theorem setCs_len : ∀ {ps : Pats} {ds : List D} {g : List Tag} {ρ ρ' : Rho}, setCs ps ds g ρ = some ρ' → ds.length = psLen ps
  | .nil, [], _, _, _, _ => rfl
  | .nil, _ :: _, _, _, _, h => by unfold setCs at h; cases h
  | .cons p r, [], _, _, _, h => by unfold setCs at h; cases h
  | .cons p r, d :: ds, g, ρ, ρ', h => by
    unfold setCs at h
    split at h
    · rename_i ρ1 e1
      show ds.length + 1 = psLen r + 1
      rw [setCs_len h]
    · cases h
theorem tg_tp {k : Nat} {pos : Pos} (hK : X.K = K) (hc : X.calm = true) (h : PGs X ts (rdGs K ps)) (hn : (assignEach ts X.env).length = psLen ps) (hst : (assignEach ts X.env).findIdx? (·.1) = none) : PG X (.Tuple ts k pos) (rdG K (.tp ps)) :=
  pg_imp (pg_or (pg_tup hc h hn hst) (pg_unl hc h hn hst)) fun v σ H Q q => by
    rw [hK]
    obtain ⟨B, Hs, L, ρ, ρ', d, g, w, rv, hs, hq⟩ := q
    have pw : ∀ vs, pIn vs (.tp ps) = psIn vs ps := fun vs => by conv => lhs; unfold pIn
    cases d with
    | tuple ds =>
      cases rv with
      | tup h1 h2 =>
        unfold setC at hs
        refine .inl ⟨_, _, rfl, ?_, h2.length.trans (setCs_len hs), B, Hs, L, ρ, ρ', ds, g, w, h2, hs, fun σ' w' k' => hq σ' w' fun vs hv => k' vs ((pw vs).symm.trans hv)⟩
        exact Evl.ex_t (vh_h w.lok.sh) h1
    | list ds =>
      cases rv with
      | lst h1 h2 =>
        unfold setC at hs
        refine .inr ⟨_, _, rfl, ?_, h2.length.trans (setCs_len hs), B, Hs, L, ρ, ρ', ds, g, w, h2, hs, fun σ' w' k' => hq σ' w' fun vs hv => k' vs ((pw vs).symm.trans hv)⟩
        exact .inl (Evl.ex_rd (vh_h w.lok.sh) h1)
    | _ => unfold setC at hs; cases hs
end

/-! ### what is walked -/
def ItemR (K : PySem.W.Frag) (Vw H2 H3 : Hp) (x : V) (d : D) : Prop :=
  (H3 = H2 ∧ Rp K Vw x d) ∨ (∃ T a b v w, H2 T = none ∧ H3 = upd H2 T (.tup [v, w]) ∧ x = .ref T ∧ d = .tuple [a, b] ∧ Rp K Vw v a ∧ Rp K Vw w b)
def Walk (K : PySem.W.Frag) (J : L2.It) (HW Vw : Hp) (ds : List D) : Prop :=
  ∀ H2, Sub HW H2 → J.stop ds.length H2 ∧ ∀ i d, ds[i]? = some d → J.go i H2 ∧ ∀ x H3, J.yld i H2 x H3 → ItemR K Vw H2 H3 x d
def rdI (K : PySem.W.Frag) (f : Rho → Option (List D × List Tag × List Tag)) : TI := fun σ H Rr => ∃ (B : Bas) (Hs : Hp) (L : Lab) (ρ : Rho) (ds : List D) (g1 g : List Tag), WF K B Hs H L σ ρ ∧ f ρ = some (ds, g1, g) ∧
  ∀ J Hs' H', Step Hs H Hs' H' → (∀ t, cov g1 t = true → cov g t = true) → Walk K J (VH L g Hs' H') (VH L g1 Hs' H') ds → Rr J H'
section
variable {K : PySem.W.Frag} {X : Cx} {tg it : Expr} {wi wi' : TI} {HW Vw H : Hp} {a b : Addr} {xs ys : List V} {ds es : List D}
theorem pi_imp (h : PI X tg it wi) (hi : ∀ σ H Q, wi' σ H Q → wi σ H Q) : PI X tg it wi' := ⟨fun pins s σ H Q I q => h.run pins s σ H Q I (hi σ H Q q)⟩
theorem pi_or (h : PI X tg it wi) (h' : PI X tg it wi') : PI X tg it (fun σ H Q => wi σ H Q ∨ wi' σ H Q) := ⟨fun pins s σ H Q I q => by
  rcases q with q | q
  · exact h.run pins s σ H Q I q
  · exact h'.run pins s σ H Q I q⟩
theorem walk_list (h : SqL K HW a xs) (r : RpA K Vw xs ds) : Walk K (Itl K a) HW Vw ds := fun H2 e => by
  have h2 := Evl.ex_l e h
  refine ⟨⟨xs, h2, Nat.le_of_eq r.length⟩, fun i d hd => ?_⟩
  obtain ⟨v, hv, rv⟩ := r.get hd
  refine ⟨⟨xs, v, h2, hv⟩, fun x H3 y => ?_⟩
  obtain ⟨e3, hy⟩ := y
  have := hy xs h2
  rw [hv] at this
  cases this
  exact .inl ⟨e3, rv⟩
theorem walk_tup (h : SqT K HW a xs) (r : RpA K Vw xs ds) : Walk K (Itt K a) HW Vw ds := fun H2 e => by
  have h2 := Evl.ex_t e h
  refine ⟨⟨xs, h2, Nat.le_of_eq r.length⟩, fun i d hd => ?_⟩
  obtain ⟨v, hv, rv⟩ := r.get hd
  refine ⟨⟨xs, v, h2, hv⟩, fun x H3 y => ?_⟩
  obtain ⟨e3, hy⟩ := y
  have := hy xs h2
  rw [hv] at this
  cases this
  exact .inl ⟨e3, rv⟩
theorem range_get {lo : Int} {n i : Nat} {d : D} (h : (rangeD lo n)[i]? = some d) : i < n ∧ d = .int (lo + (i : Int)) := by
  unfold rangeD at h
  rw [List.getElem?_map] at h
  cases hx : (List.range n)[i]? with
  | none => rw [hx] at h; cases h
  | some k =>
    rw [hx] at h
    cases h
    obtain ⟨h1, h2⟩ := List.getElem?_eq_some_iff.mp hx
    rw [List.length_range] at h1
    rw [List.getElem_range] at h2
    subst h2
    exact ⟨h1, rfl⟩
theorem walk_range {lo : Int} {n : Nat} : Walk K (Itr lo n) HW Vw (rangeD lo n) := fun H2 e => by
  refine ⟨?_, fun i d hd => ?_⟩
  · show n ≤ (rangeD lo n).length
    unfold rangeD
    simp
  · obtain ⟨h1, rfl⟩ := range_get hd
    refine ⟨h1, fun x H3 y => ?_⟩
    obtain ⟨e3, rfl⟩ := y
    exact .inl ⟨e3, .int _⟩
theorem walk_rangeC {lo c : Int} {n : Nat} : Walk K (Itc lo c n) HW Vw (rangeC lo c n) := fun H2 e => by
  refine ⟨?_, fun i d hd => ?_⟩
  · show n ≤ (rangeC lo c n).length
    unfold rangeC
    simp
  · unfold rangeC at hd
    rw [List.getElem?_map] at hd
    cases hx : (List.range n)[i]? with
    | none => rw [hx] at hd; cases hd
    | some k =>
      rw [hx] at hd
      cases hd
      obtain ⟨h1, h2⟩ := List.getElem?_eq_some_iff.mp hx
      rw [List.length_range] at h1
      rw [List.getElem_range] at h2
      subst h2
      refine ⟨h1, fun x H3 y => ?_⟩
      obtain ⟨e3, rfl⟩ := y
      exact .inl ⟨e3, .int _⟩
theorem enum_get : ∀ (ds : List D) (k i : Nat) (d : D), (enumD k ds)[i]? = some d → ∃ x, ds[i]? = some x ∧ d = .tuple [.int ((k + i : Nat) : Int), x]
  | [], k, i, d, h => by simp [enumD] at h
  | x :: ds, k, 0, d, h => by
    unfold enumD at h
    rw [List.getElem?_cons_zero] at h
    cases h
    exact ⟨x, rfl, rfl⟩
  | x :: ds, k, i + 1, d, h => by
    unfold enumD at h
    rw [List.getElem?_cons_succ] at h
    obtain ⟨y, h1, h2⟩ := enum_get ds (k + 1) i d h
    refine ⟨y, by rw [List.getElem?_cons_succ]; exact h1, ?_⟩
    rw [h2]
    have e : k + 1 + i = k + (i + 1) := by omega
    rw [e]
theorem enum_len : ∀ (ds : List D) (k : Nat), (enumD k ds).length = ds.length
  | [], _ => rfl
  | x :: ds, k => by unfold enumD; rw [List.length_cons, List.length_cons, enum_len ds (k + 1)]
theorem walk_enum (h : SqL K HW a xs) (r : RpA K Vw xs ds) : Walk K (Ite K a) HW Vw (enumD 0 ds) := fun H2 e => by
  have h2 := Evl.ex_l e h
  refine ⟨⟨xs, h2, by rw [enum_len]; exact Nat.le_of_eq r.length⟩, fun i d hd => ?_⟩
  obtain ⟨y, hy, rfl⟩ := enum_get ds 0 i d hd
  obtain ⟨v, hv, rv⟩ := r.get hy
  refine ⟨⟨xs, v, h2, hv⟩, fun x H3 q => ?_⟩
  obtain ⟨T, x', rfl, hT, e3, hx⟩ := q
  have := hx xs h2
  rw [hv] at this
  cases this
  refine .inr ⟨T, _, _, _, _, hT, e3, rfl, rfl, ?_, rv⟩
  rw [Nat.zero_add]
  exact .int _
theorem zip_get : ∀ (ds es : List D) (i : Nat) (d : D), (zipD ds es)[i]? = some d → ∃ x y, ds[i]? = some x ∧ es[i]? = some y ∧ d = .tuple [x, y]
  | x :: ds, y :: es, 0, d, h => by
    unfold zipD at h
    rw [List.getElem?_cons_zero] at h
    cases h
    exact ⟨x, y, rfl, rfl, rfl⟩
  | x :: ds, y :: es, i + 1, d, h => by
    unfold zipD at h
    rw [List.getElem?_cons_succ] at h
    obtain ⟨x', y', h1, h2, h3⟩ := zip_get ds es i d h
    exact ⟨x', y', by rw [List.getElem?_cons_succ]; exact h1, by rw [List.getElem?_cons_succ]; exact h2, h3⟩
  | [], es, i, d, h => by unfold zipD at h; simp at h
  | x :: ds, [], i, d, h => by unfold zipD at h; simp at h
theorem zip_len : ∀ (ds es : List D), (zipD ds es).length = min ds.length es.length
  | x :: ds, y :: es => by
    unfold zipD
    rw [List.length_cons, List.length_cons, List.length_cons, zip_len ds es]
    omega
  | [], es => by unfold zipD; simp
  | x :: ds, [] => by unfold zipD; simp
theorem walk_zip (h : SqL K HW a xs) (r : RpA K Vw xs ds) (h' : SqL K HW b ys) (r' : RpA K Vw ys es) : Walk K (Itz K a b) HW Vw (zipD ds es) := fun H2 e => by
  have h2 := Evl.ex_l e h
  have h2' := Evl.ex_l e h'
  refine ⟨⟨xs, ys, h2, h2', ?_⟩, fun i d hd => ?_⟩
  · rw [zip_len, r.length, r'.length]
    omega
  · obtain ⟨x, y, hx, hy, rfl⟩ := zip_get ds es i d hd
    obtain ⟨v, hv, rv⟩ := r.get hx
    obtain ⟨w, hw, rw'⟩ := r'.get hy
    refine ⟨⟨xs, ys, v, w, h2, h2', hv, hw⟩, fun z H3 q => ?_⟩
    obtain ⟨T, x', y', rfl, hT, e3, h3, h4⟩ := q
    have q1 := h3 xs h2
    have q2 := h4 ys h2'
    rw [hv] at q1
    rw [hw] at q2
    cases q1
    cases q2
    exact .inr ⟨T, _, _, _, _, hT, e3, rfl, rfl, rv, rw'⟩
theorem walk_rev (h : SqL K HW a xs) (r : RpA K Vw xs ds) : Walk K (Itv K a xs.length) HW Vw ds.reverse := fun H2 e => by
  have h2 := Evl.ex_l e h
  have hl := r.length
  refine ⟨?_, fun i d hd => ?_⟩
  · show xs.length ≤ ds.reverse.length
    rw [List.length_reverse, hl]
    exact Nat.le_refl _
  · have hi : i < ds.length := by
      have q := (List.getElem?_eq_some_iff.mp hd).1
      rw [List.length_reverse] at q
      exact q
    rw [List.getElem?_reverse hi] at hd
    obtain ⟨v, hv, rv⟩ := r.get hd
    have hv' : xs[xs.length - 1 - i]? = some v := by rw [hl]; exact hv
    refine ⟨⟨by omega, xs, v, h2, hv'⟩, fun x H3 y => ?_⟩
    obtain ⟨e3, hy⟩ := y
    have := hy xs h2
    rw [hv'] at this
    cases this
    exact .inl ⟨e3, rv⟩
end
end Z
/-! ZI: the readings of what is walked; comprehensions. -/
namespace Z
open PySem L2 PySem.Spec PyProof.Rows

/-- a value as it is, and as it is looked at -/
def rdW (K : PySem.W.Frag) (e : E) (f : Rho → Option R) : TE := fun σ H Q => ∃ (B : Bas) (Hs : Hp) (L : Lab) (ρ : Rho) (r : R), WF K B Hs H L σ ρ ∧ f ρ = some r ∧
  ∀ v Hs' H', Step Hs H Hs' H' → Rp K (VH L r.2.tags Hs' H') v r.1 → Pk K Hs' H' (VH L (pkT e ρ r.2.tags) Hs' H') v r.1 → Q v H'
section
variable {K : PySem.W.Frag} {X : Cx} {tg x y z : Expr} {Φ : Fn} {a b c e : E} {p pos apos tpos : Pos} {Hs H Hv Hw : Hp} {L : Lab}
theorem varW {i : Nat} (h : PE X x (tVar i)) : PE X x (rdW K (.var i) (ev Φ (.var i))) := pe_imp h fun σ H Q q => by
  obtain ⟨B, Hs, L, ρ, r, w, hf, hq⟩ := q
  obtain ⟨v, hv, hr, hp⟩ := var_rel w hf
  exact ⟨v, hv, hq v Hs H (Step.refl w.lok.sh) hr hp⟩
theorem toW (hn : ∀ i, e ≠ .var i) (h : PE X x (rdE K (ev Φ e))) : PE X x (rdW K e (ev Φ e)) := pe_imp (toF h) fun σ H Q q => by
  obtain ⟨B, Hs, L, ρ, r, w, hf, hq⟩ := q
  refine ⟨B, Hs, L, ρ, r, w, hf, fun v Hs' H' t rel => hq v Hs' H' t rel ?_⟩
  have e1 : pkT e ρ r.2.tags = r.2.tags := by
    cases e with
    | var i => exact absurd rfl (hn i)
    | _ => rfl
  rw [e1]
  exact pk_of (w.lok.step t) rel
theorem wP (h : PE X x (rdW K e (ev Φ e))) : PE X x (rdP K e (ev Φ e)) := pe_imp h fun σ H Q ⟨B, Hs, L, ρ, r, w, hf, hq⟩ => ⟨B, Hs, L, ρ, r, w, hf, fun v Hs' H' t _ pk => hq v Hs' H' t pk⟩
theorem wF (h : PE X x (rdW K e (ev Φ e))) : PE X x (rdF K (ev Φ e)) := pe_imp h fun σ H Q ⟨B, Hs, L, ρ, r, w, hf, hq⟩ => ⟨B, Hs, L, ρ, r, w, hf, fun v Hs' H' t rel _ => hq v Hs' H' t rel⟩
theorem rd_inj {Hx : Hp} {l : Addr} {us ws : List V} (h1 : Rd Hx l (.lst us)) (h2 : Rd Hx l (.lst ws)) : us = ws := by
  rcases h1 with h1 | ⟨o1, h1⟩ <;> rcases h2 with h2 | ⟨o2, h2⟩ <;> rw [h1] at h2 <;> cases h2 <;> rfl
/-- a list: it stands in the one view, its items in the other -/
theorem two_views {v : V} {es : List D} {g g1 : List Tag} (s : Sub Hs H) (h1 : Rp K (VH L g Hs H) v (.list es)) (h2 : Pk K Hs H (VH L g1 Hs H) v (.list es)) : ∃ l ws, v = .ref l ∧ SqL K (VH L g Hs H) l ws ∧ SqL K H l ws ∧ RpA K (VH L g1 Hs H) ws es := by
  obtain ⟨l, ws, rfl, q1, q2⟩ := h2
  cases h1 with
  | lst q3 q4 =>
    have e := rd_inj (Evl.ex_rd (vh_h s) q3) q1
    subst e
    exact ⟨l, _, rfl, .inl q3, .inl q1, q2⟩
/-- over a list or a tuple -/
theorem it_ex (hK : X.K = K) (h : PE X x (rdW K a (ev Φ a))) : PI X tg x (rdI K (evi Φ (.ex a))) := pi_imp (pi_or (pi_list h) (pi_tup h)) fun σ H Rr q => by
  rw [hK]
  obtain ⟨B, Hs, L, ρ, ds, g1, g, w, hf, hq⟩ := q
  unfold evi at hf
  cases ha : ev Φ a ρ with
  | none => rw [ha] at hf; cases hf
  | some r =>
    rw [ha] at hf
    simp only at hf
    cases hs : seqItems r.1 with
    | none => rw [hs] at hf; cases hf
    | some xs =>
      rw [hs] at hf
      cases hf
      have hc : ∀ t, cov (pkT a ρ r.2.tags) t = true → cov r.2.tags t = true := fun t ht => cov_pk ha ht
      obtain ⟨d, o⟩ := r
      cases d with
      | list ds =>
        cases hs
        refine .inl ⟨B, Hs, L, ρ, (.list _, o), w, ha, fun v Hs1 H1 t1 rel pk => ?_⟩
        obtain ⟨l, ws, rfl, h1, h0, h2⟩ := two_views t1.sh rel pk
        exact ⟨l, rfl, ⟨ws, h0⟩, hq _ Hs1 H1 t1 hc (walk_list h1 h2)⟩
      | tuple ds =>
        cases hs
        refine .inr ⟨B, Hs, L, ρ, (.tuple _, o), w, ha, fun v Hs1 H1 t1 rel pk => ?_⟩
        obtain ⟨l, ws, rfl, h1, h2⟩ := pk
        exact ⟨l, rfl, ⟨ws, Evl.ex_t t1.sh h1⟩, hq _ Hs1 H1 t1 hc (walk_tup (Evl.ex_t vh_s h1) h2)⟩
      | _ => cases hs
theorem rngOk_b {i : Int} (h : rngOk i = true) : -1000000000 ≤ i ∧ i ≤ 1000000000 := by
  unfold rngOk at h
  simpa using h
theorem pk_int {Hx : Hp} {v : V} {i : Int} (h : Pk K Hs H Hx v (.int i)) : v = .int i := h
theorem star1 {X : Cx} {x : Expr} (h : ∀ es, starEach (x :: es) X.env = (false, eval x X.env) :: starEach es X.env) : starEach [x] X.env = [(false, eval x X.env)] := h []
theorem it_rng1 (hg : Gl X "range") (hm : X.mg "range" = none) (hs : ∀ es, starEach (x :: es) X.env = (false, eval x X.env) :: starEach es X.env) (h : PE X x (rdP K a (ev Φ a))) : PI X tg (.Call (.Name "range" p) [x] [] pos) (rdI K (evi Φ (.rng1 a))) :=
  pi_imp (pi_range1 hg hm (pa_cons h pa_nil (hs [])) (hs [])) fun σ H Rr q => by
    obtain ⟨B, Hs, L, ρ, ds, g1, g, w, hf, hq⟩ := q
    unfold evi at hf
    split at hf
    · rename_i j o ha
      obtain ⟨z, e⟩ := ite_some hf
      cases e
      obtain ⟨z1, z2⟩ := rngOk_b z
      show (rdP K a (ev Φ a)) σ H fun v H1 => _
      refine ⟨B, Hs, L, ρ, _, w, ha, fun v Hs1 H1 t1 pk => ?_⟩
      have e := pk_int pk
      subst e
      exact ⟨j, rfl, by omega, by omega, hq _ Hs1 H1 t1 (fun t ht => ht) walk_range⟩
    · cases hf
theorem it_rng2 (hg : Gl X "range") (hm : X.mg "range" = none) (hs : ∀ es, starEach (x :: es) X.env = (false, eval x X.env) :: starEach es X.env) (hs2 : ∀ es, starEach (y :: es) X.env = (false, eval y X.env) :: starEach es X.env)
    (h : PE X x (rdP K a (ev Φ a))) (h2 : PE X y (rdP K b (ev Φ b))) : PI X tg (.Call (.Name "range" p) [x, y] [] pos) (rdI K (evi Φ (.rng2 a b))) :=
  pi_imp (pi_range2 hg hm (pa_cons h (pa_cons h2 pa_nil (hs2 [])) (hs [y])) (by rw [hs, hs2]; rfl) (hs2 [])) fun σ H Rr q => by
    obtain ⟨B, Hs, L, ρ, ds, g1, g, w, hf, hq⟩ := q
    unfold evi at hf
    split at hf
    · rename_i i o ha
      split at hf
      · rename_i j o2 hb
        obtain ⟨z, e⟩ := ite_some hf
        cases e
        rw [Bool.and_eq_true] at z
        obtain ⟨z1, z2⟩ := rngOk_b z.1
        obtain ⟨z3, z4⟩ := rngOk_b z.2
        show (rdP K a (ev Φ a)) σ H fun v H1 => (rdP K b (ev Φ b)) σ H1 fun u H2 => _
        refine ⟨B, Hs, L, ρ, _, w, ha, fun v Hs1 H1 t1 pk => ⟨B, Hs1, L, ρ, _, w.step t1, hb, fun u Hs2 H2 t2 pk2 => ?_⟩⟩
        have e := pk_int pk
        have e2 := pk_int pk2
        subst e e2
        exact ⟨i, j, rfl, ⟨by omega, by omega, by omega, by omega⟩, hq _ Hs2 H2 (t1.trans t2) (fun t ht => ht) walk_range⟩
      · cases hf
    · cases hf
theorem it_rng3 (hg : Gl X "range") (hm : X.mg "range" = none) (hs : ∀ es, starEach (x :: es) X.env = (false, eval x X.env) :: starEach es X.env) (hs2 : ∀ es, starEach (y :: es) X.env = (false, eval y X.env) :: starEach es X.env)
    (hs3 : ∀ es, starEach (z :: es) X.env = (false, eval z X.env) :: starEach es X.env)
    (h : PE X x (rdP K a (ev Φ a))) (h2 : PE X y (rdP K b (ev Φ b))) (h3 : PE X z (rdP K c (ev Φ c))) : PI X tg (.Call (.Name "range" p) [x, y, z] [] pos) (rdI K (evi Φ (.rng3 a b c))) :=
  pi_imp (pi_range3 hg hm (pa_cons h (pa_cons h2 (pa_cons h3 pa_nil (hs3 [])) (hs2 [z])) (hs [y, z])) (hs [y, z]) (by rw [hs2, hs3]; rfl)) fun σ H Rr q => by
    obtain ⟨B, Hs, L, ρ, ds, g1, g, w, hf, hq⟩ := q
    unfold evi at hf
    split at hf
    · rename_i i o ha
      split at hf
      · rename_i j o2 hb
        split at hf
        · rename_i k o3 hk
          obtain ⟨z, e⟩ := ite_some hf
          cases e
          simp only [Bool.and_eq_true, decide_eq_true_eq] at z
          obtain ⟨⟨y1, y2⟩, y3⟩ := z
          obtain ⟨z1, z2⟩ := rngOk_b y1
          obtain ⟨z3, z4⟩ := rngOk_b y2
          subst y3
          show (rdP K a (ev Φ a)) σ H fun v H1 => (rdP K b (ev Φ b)) σ H1 fun u H2 => (rdP K c (ev Φ c)) σ H2 fun s H3 => _
          refine ⟨B, Hs, L, ρ, _, w, ha, fun v Hs1 H1 t1 pk => ⟨B, Hs1, L, ρ, _, w.step t1, hb, fun u Hs2 H2 t2 pk2 => ⟨B, Hs2, L, ρ, _, (w.step t1).step t2, hk, fun s Hs3 H3 t3 pk3 => ?_⟩⟩⟩
          have e := pk_int pk
          have e2 := pk_int pk2
          have e3 := pk_int pk3
          subst e e2 e3
          exact ⟨i, j, -1, _, rfl, RgC.neg (by omega) (by omega) (by omega) (by omega), hq _ Hs3 H3 ((t1.trans t2).trans t3) (fun t ht => ht) walk_rangeC⟩
        · cases hf
      · cases hf
    · cases hf
theorem it_enum {elts : List Expr} {kk : Nat} (hK : X.K = K) (hg : Gl X "enumerate") (hm : X.mg "enumerate" = none) (hs : ∀ es, starEach (x :: es) X.env = (false, eval x X.env) :: starEach es X.env) (h : PE X x (rdW K a (ev Φ a))) :
    PI X (.Tuple elts kk tpos) (.Call (.Name "enumerate" p) [x] [] pos) (rdI K (evi Φ (.enum a))) :=
  pi_imp (pi_enum hg hm (pa_cons h pa_nil (hs [])) (hs [])) fun σ H Rr q => by
    rw [hK]
    obtain ⟨B, Hs, L, ρ, ds, g1, g, w, hf, hq⟩ := q
    unfold evi at hf
    split at hf
    · rename_i es o ha
      cases hf
      show (rdW K a (ev Φ a)) σ H fun v H1 => _
      refine ⟨B, Hs, L, ρ, _, w, ha, fun v Hs1 H1 t1 rel pk => ?_⟩
      obtain ⟨l, ws, rfl, h1, h0, h2⟩ := two_views t1.sh rel pk
      exact ⟨l, ws, rfl, h0, hq _ Hs1 H1 t1 (fun t ht => cov_pk ha ht) (walk_enum h1 h2)⟩
    · cases hf
theorem it_revd (hK : X.K = K) (hg : Gl X "reversed") (hm : X.mg "reversed" = none) (hs : ∀ es, starEach (x :: es) X.env = (false, eval x X.env) :: starEach es X.env) (h : PE X x (rdW K a (ev Φ a))) :
    PI X tg (.Call (.Name "reversed" p) [x] [] pos) (rdI K (evi Φ (.revd a))) :=
  pi_imp (pi_reversed hg hm (pa_cons h pa_nil (hs [])) (hs [])) fun σ H Rr q => by
    rw [hK]
    obtain ⟨B, Hs, L, ρ, ds, g1, g, w, hf, hq⟩ := q
    unfold evi at hf
    split at hf
    · rename_i es o ha
      cases hf
      show (rdW K a (ev Φ a)) σ H fun v H1 => _
      refine ⟨B, Hs, L, ρ, _, w, ha, fun v Hs1 H1 t1 rel pk => ?_⟩
      obtain ⟨l, ws, rfl, h1, h0, h2⟩ := two_views t1.sh rel pk
      exact ⟨l, ws, rfl, h0, hq _ Hs1 H1 t1 (fun t ht => cov_pk ha ht) (walk_rev h1 h2)⟩
    · cases hf
theorem it_zip {elts : List Expr} {kk : Nat} (hK : X.K = K) (hg : Gl X "zip") (hm : X.mg "zip" = none) (hs : ∀ es, starEach (x :: es) X.env = (false, eval x X.env) :: starEach es X.env) (hs2 : ∀ es, starEach (y :: es) X.env = (false, eval y X.env) :: starEach es X.env)
    (h : PE X x (rdW K a (ev Φ a))) (h2 : PE X y (rdW K b (ev Φ b))) : PI X (.Tuple elts kk tpos) (.Call (.Name "zip" p) [x, y] [] pos) (rdI K (evi Φ (.zip a b))) :=
  pi_imp (pi_zip hg hm (pa_cons h (pa_cons h2 pa_nil (hs2 [])) (hs [y])) (hs [y]) (by rw [hs2]; rfl)) fun σ H Rr q => by
    rw [hK]
    obtain ⟨B, Hs, L, ρ, ds, g1, g, w, hf, hq⟩ := q
    unfold evi at hf
    split at hf
    · rename_i es o ha
      split at hf
      · rename_i fs o2 hb
        cases hf
        show (rdW K a (ev Φ a)) σ H fun v H1 => (rdW K b (ev Φ b)) σ H1 fun u H2 => _
        refine ⟨B, Hs, L, ρ, _, w, ha, fun v Hs1 H1 t1 rel pk => ⟨B, Hs1, L, ρ, _, w.step t1, hb, fun u Hs2 H2 t2 rel2 pk2 => ?_⟩⟩
        have l1 := w.lok.step t1
        have rel' := rp_mono (vh_step l1 t2) rel
        have pk' := pk_mono t2.s t2.h (vh_step l1 t2) pk
        obtain ⟨l, ws, rfl, q1, q0, q2⟩ := two_views t2.sh rel' pk'
        obtain ⟨m, us, rfl, r1, r0, r2⟩ := two_views t2.sh rel2 pk2
        refine ⟨l, m, ws, us, rfl, q0, r0, hq _ Hs2 H2 (t1.trans t2) (fun t ht => ?_) (walk_zip (Evl.ex_l (vh_left _ _) q1) (rpa_mono (vh_left _ _) q2) (Evl.ex_l (vh_right _ _) r1) (rpa_mono (vh_right _ _) r2))⟩
        rw [cov_append, Bool.or_eq_true] at ht
        rcases ht with ht | ht
        · exact cov_left _ (cov_pk ha ht)
        · exact cov_right _ (cov_pk hb ht)
      · cases hf
    · cases hf
end
end Z
/-! ZJ: comprehensions. -/
namespace Z
open PySem L2 PySem.Spec PyProof.Rows

def rdTs (K : PySem.W.Frag) (f : Rho → Option Bool) : TT := fun σ H Q => ∃ (B : Bas) (Hs : Hp) (L : Lab) (ρ : Rho) (b : Bool), WF K B Hs H L σ ρ ∧ f ρ = some b ∧ ∀ Hs' H', Step Hs H Hs' H' → Q b H'
section
variable {K : PySem.W.Frag} {X : Cx} {Φ : Fn} {e : E} {x : Expr} {xs : List Expr} {tt tt' : TT}
theorem pts_imp (h : PTs X xs tt) (hi : ∀ σ H Q, tt' σ H Q → tt σ H Q) : PTs X xs tt' := ⟨fun pins s σ H Q I q => h.run pins s σ H Q I (hi σ H Q q)⟩
theorem tests_nil : PTs X [] (rdTs K (evts Φ .nil)) := pts_imp pts_nil fun σ H Q q => by
  obtain ⟨B, Hs, L, ρ, b, w, hf, hq⟩ := q
  unfold evts at hf
  cases hf
  exact hq Hs H (Step.refl w.lok.sh)
theorem tests_one (h : PT X x (rdT K (ev Φ e))) : PTs X [x] (rdTs K (evts Φ (.cons e .nil))) := pts_imp (pts_one h) fun σ H Q q => by
  obtain ⟨B, Hs, L, ρ, b, w, hf, hq⟩ := q
  unfold evts at hf
  cases ha : ev Φ e ρ with
  | none => rw [ha] at hf; cases hf
  | some r =>
    rw [ha] at hf
    simp only at hf
    cases hb : truth r.1 with
    | none => rw [hb] at hf; cases hf
    | some c =>
      rw [hb] at hf
      refine ⟨B, Hs, L, ρ, r, c, w, ha, hb, fun Hs' H' t => ?_⟩
      have e1 : b = c := by
        cases c with
        | true => unfold evts at hf; exact (Option.some.inj hf).symm
        | false => exact (Option.some.inj hf).symm
      rw [← e1]
      exact hq Hs' H' t
end
section
variable {K : PySem.W.Frag} {L : Lab} {Hb Hs H Hs' H' Vw H2 H3 Hs2 : Hp} {vs : List V} {rs : List R} {g : List Tag} {x : V} {d : D}
theorem item_step (s : Sub Hs2 H2) (hv : Sub Vw (VH L g Hs2 H2)) (l : LabOk L Hs2 H2) (h : ItemR K Vw H2 H3 x d) : ∃ Hs3, Step Hs2 H2 Hs3 H3 ∧ Rp K (VH L g Hs3 H3) x d := by
  rcases h with ⟨rfl, h⟩ | ⟨T, a, b, v, w, hT, rfl, rfl, rfl, ha, hb⟩
  · exact ⟨Hs2, Step.refl s, rp_mono hv h⟩
  · have st : Step Hs2 H2 (upd Hs2 T (.tup [v, w])) (upd H2 T (.tup [v, w])) := step_tup s hT
    have m := Evl.Ex.trans hv (vh_step l st)
    exact ⟨_, st, .tup (.inl (.inl (vh_s T _ upd_same))) (.cons (rp_mono m ha) (.cons (rp_mono m hb) .nil))⟩
theorem vh_put {Dl : Addr} {o : HO} (hl : L Dl = none) : Sub (VH L g Hs H) (VH L g Hs (upd H Dl o)) := fun a q h => by
  unfold VH at h
  split at h
  · rename_i e
    cases h
    exact vh_s a _ e
  · rename_i e0
    split at h
    · rename_i t e
      split at h
      · rename_i hc
        rw [vh_lab e0 e hc, upd_ne (fun z => by rw [z, hl] at e; cases e)]
        exact h
      · cases h
    · cases h
theorem AllR.put {Dl : Addr} {o : HO} (h : AllR K L Hb Hs H vs rs) (hd : Hb Dl ≠ none) (hl : L Dl = none) : AllR K L Hb Hs (upd H Dl o) vs rs := by
  obtain ⟨fp, h1, h2, h3⟩ := h
  exact ⟨fp, h1.mono (Evl.Ex.refl _) (fun g => vh_put hl) (fun a ha => upd_ne fun z => hd (z ▸ (h3 a ha).1)), h2, h3⟩
theorem wipe_wipe : ∀ (vs : List Nat) (σ : L2.St), wipe (wipe σ vs) vs = wipe σ vs := fun vs σ => by
  apply List.ext_getElem?
  intro j
  by_cases hj : j ∈ vs
  · exact wipe_set.wipe_in vs _ _ j hj (wipe_length σ vs)
  · rw [wipe_set.wipe_out vs _ j hj]
end

/-- the state of a comprehension's loop -/
structure LcS (K : PySem.W.Frag) (L : Lab) (Hs1 H1 HD : Hp) (Dl : Addr) (Hs2 H2 : Hp) (acc : List V) (ra : List R) : Prop where
  s : Sub Hs1 Hs2
  h : Sub H1 H2
  sh : Sub Hs2 H2
  ag : ∀ a, HD a ≠ none → Hs2 a = Hs1 a
  hd : H2 Dl = some (.lst acc)
  all : AllR K L HD Hs2 H2 acc ra
section
variable {K : PySem.W.Frag} {Φ : Fn} {σ : L2.St} {H : Hp} {Q : VK} {vs : List Nat} {elt : E} {p : Pat} {it : It} {ifs : Es} {L : Lab} {Hs1 H1 HD Hs2 H2 Hs5 H5 : Hp} {Dl : Addr} {acc : List V} {ra : List R} {y : V} {r : R}
theorem LcS.step0 (c : LcS K L Hs1 H1 (upd H1 Dl (.lst [])) Dl Hs2 H2 acc ra) (hD : H1 Dl = none) : Step Hs1 H1 Hs2 H2 :=
  ⟨c.s, c.h, c.sh, fun a ha => c.ag a (by
    have z : a ≠ Dl := fun z => ha (by rw [z]; exact hD)
    rw [upd_ne z]
    exact ha)⟩
theorem LcS.move (c : LcS K L Hs1 H1 (upd H1 Dl (.lst [])) Dl Hs2 H2 acc ra) (hD : H1 Dl = none) (l1 : LabOk L Hs1 H1) (t : Step Hs2 H2 Hs5 H5) : LcS K L Hs1 H1 (upd H1 Dl (.lst [])) Dl Hs5 H5 acc ra := by
  refine ⟨c.s.trans t.s, c.h.trans t.h, t.sh, fun a ha => (t.ag a ?_).trans (c.ag a ha), t.h Dl _ c.hd, c.all.step (l1.step (c.step0 hD)) t⟩
  by_cases z : a = Dl
  · rw [z, c.hd]; intro q; cases q
  · rw [upd_ne z] at ha
    exact c.h.ne ha
theorem LcS.push (c : LcS K L Hs1 H1 (upd H1 Dl (.lst [])) Dl Hs2 H2 acc ra) (hD : H1 Dl = none) (l1 : LabOk L Hs1 H1) (t : Step Hs2 H2 Hs5 H5) (rel : RelR K L H2 Hs5 H5 y r) :
    LcS K L Hs1 H1 (upd H1 Dl (.lst [])) Dl Hs5 (upd H5 Dl (.lst (acc ++ [y]))) (acc ++ [y]) (ra ++ [r]) := by
  have c5 := c.move hD l1 t
  have hl : L Dl = none := by
    cases q : L Dl with
    | none => rfl
    | some t =>
      obtain ⟨_, xs, e⟩ := l1.lab Dl t q
      rw [hD] at e
      cases e
  have nd : (upd H1 Dl (.lst [])) Dl ≠ none := by rw [upd_same]; intro z; cases z
  have sD : Hs5 Dl = none := by
    rw [c5.ag Dl nd]
    exact l1.sh.back hD
  have dom : ∀ a, H2 a = none → (upd H1 Dl (.lst [])) a = none := fun a ha => by
    have z : a ≠ Dl := fun z => by rw [z, c.hd] at ha; cases ha
    rw [upd_ne z]
    exact c.h.back ha
  refine ⟨c5.s, fun a o q => ?_, fun a o q => ?_, c5.ag, upd_same, AllR.put (AllR.snoc c.all (l1.step (c.step0 hD)) t rel dom) nd hl⟩
  · have z : a ≠ Dl := fun z => by rw [z, hD] at q; cases q
    rw [upd_ne z]
    exact c5.h a o q
  · have z : a ≠ Dl := fun z => by rw [z, sD] at q; cases q
    rw [upd_ne z]
    exact c5.sh a o q
/-- the loop's end -/
theorem LcS.fin {B : Bas} {Hs : Hp} {ρ : Rho} (c : LcS K L Hs1 H1 (upd H1 Dl (.lst [])) Dl Hs2 H2 acc ra) (hD : H1 Dl = none) (w : WF K B Hs H L σ ρ) (t1 : Step Hs H Hs1 H1) : ∃ Hs3, Step Hs H Hs3 H2 ∧ RelR K L H Hs3 H2 (.ref Dl) (dispL ra) := by
  have l1 := w.lok.step t1
  have st := c.step0 hD
  have nd : (upd H1 Dl (.lst [])) Dl ≠ none := by rw [upd_same]; intro z; cases z
  have sD : Hs2 Dl = none := by
    rw [c.ag Dl nd]
    exact l1.sh.back hD
  have e : Sub H (upd H1 Dl (.lst [])) := t1.h.trans (Evl.Ex.new hD)
  obtain ⟨Hs3, q1, q2, q3, q4⟩ := AllR.into (Hb := H) c.all (l1.step st) (fun a t q => e.ne (w.labH a t q)) (t1.h.back hD) nd c.hd sD e
  exact ⟨Hs3, ⟨(t1.trans st).s.trans q1, (t1.trans st).h, q2, fun a ha => (q3 a (e.ne ha)).trans ((t1.trans st).ag a ha)⟩, q4⟩
theorem lc_red (hp : pIn vs p = true) (q : rdE K (ev Φ (.lc vs elt p it ifs)) σ H Q) : tLc (rdI K (evi Φ it)) (rdG K p) (rdTs K (evts Φ ifs)) (rdE K (ev Φ elt)) vs σ H Q := by
  obtain ⟨B, Hs, L, ρ, r, w, hf, hq⟩ := q
  unfold ev at hf
  cases hi : evi Φ it ρ with
  | none => rw [hi] at hf; cases hf
  | some q =>
    obtain ⟨xs, g1, g⟩ := q
    rw [hi] at hf
    simp only at hf
    by_cases hlen : xs.length ≤ 1000000
    · rw [if_pos hlen] at hf
      generalize hF : (fun x => match setC p x g1 (wipeR vs ρ) with
          | some ρ' => match evts Φ ifs ρ' with
            | some true => match ev Φ elt ρ' with
              | some r => some (some r)
              | none => none
            | some false => some none
            | none => none
          | none => none : D → Option (Option R)) = F at hf
      cases hrs : lcRun F xs with
      | none => rw [hrs] at hf; cases hf
      | some rs =>
        rw [hrs] at hf
        cases hf
        refine ⟨B, Hs, L, ρ, xs, g1, g, w, hi, fun J Hs1 H1 t1 hcov walk Dl hD => ?_⟩
        have l1 := w.lok.step t1
        refine ⟨fun i m H2 => i ≤ xs.length ∧ m = xs.length - i ∧ ∃ Hs2 acc ra rb, LcS K L Hs1 H1 (upd H1 Dl (.lst [])) Dl Hs2 H2 acc ra ∧ lcRun F (xs.drop i) = some rb ∧ rs = ra ++ rb ∧ acc.length ≤ i,
          ⟨xs.length, Nat.zero_le _, rfl, Hs1, [], [], rs, ⟨Evl.Ex.refl _, Evl.Ex.new hD, l1.sh.trans (Evl.Ex.new hD), fun _ _ => rfl, upd_same, AllR.nil⟩, hrs, rfl, Nat.le_refl _⟩, ?_⟩
        rintro i m H2 ⟨hi1, rfl, Hs2, acc, ra, rb, c, hrb, hra, hacc⟩
        have st := c.step0 hD
        obtain ⟨wstop, wgo⟩ := walk H2 ((vh_h l1.sh).trans c.h)
        by_cases hlt : i < xs.length
        · refine .inr ?_
          have hx : xs[i]? = some xs[i] := List.getElem?_eq_getElem hlt
          obtain ⟨go, yld⟩ := wgo i xs[i] hx
          rw [List.drop_eq_getElem_cons hlt] at hrb
          unfold lcRun at hrb
          refine ⟨go, fun H' => i + 1 ≤ xs.length ∧ ∃ Hs2 acc ra rb, LcS K L Hs1 H1 (upd H1 Dl (.lst [])) Dl Hs2 H' acc ra ∧ lcRun F (xs.drop (i + 1)) = some rb ∧ rs = ra ++ rb ∧ acc.length ≤ i + 1,
            fun H' h' => ⟨xs.length - (i + 1), by omega, h'.1, rfl, h'.2⟩, fun x H3 y => ?_⟩
          obtain ⟨Hs3, t3, rx⟩ := item_step (L := L) (g := g1) c.sh (vh_step l1 st) (l1.step st) (yld x H3 y)
          have t13 := st.trans t3
          have w3 := ((w.step (t1.trans t13)).wipe vs)
          have hFi : F xs[i] = (match setC p xs[i] g1 (wipeR vs ρ) with
            | some ρ' => match evts Φ ifs ρ' with
              | some true => match ev Φ elt ρ' with
                | some r => some (some r)
                | none => none
              | some false => some none
              | none => none
            | none => none) := by rw [← hF]
          cases hset : setC p xs[i] g1 (wipeR vs ρ) with
          | none => rw [hset] at hFi; rw [hFi] at hrb; cases hrb
          | some ρ' =>
            rw [hset] at hFi
            simp only at hFi
            refine ⟨B, Hs3, L, wipeR vs ρ, ρ', xs[i], g1, w3, rx, hset, fun σ2 w2 k2 => ⟨(k2 vs hp).trans (wipe_wipe vs σ), ?_⟩⟩
            cases ht : evts Φ ifs ρ' with
            | none => rw [ht] at hFi; rw [hFi] at hrb; cases hrb
            | some b =>
              rw [ht] at hFi
              refine ⟨B, Hs3, L, ρ', b, w2, ht, fun Hs4 H4 t4 => ?_⟩
              cases b with
              | false =>
                simp only at hFi
                rw [hFi] at hrb
                rw [if_neg (by decide)]
                exact ⟨hlt, Hs4, acc, ra, rb, c.move hD l1 (t3.trans t4), hrb, hra, Nat.le_succ_of_le hacc⟩
              | true =>
                simp only at hFi
                rw [if_pos rfl]
                cases he : ev Φ elt ρ' with
                | none => rw [he] at hFi; rw [hFi] at hrb; cases hrb
                | some r' =>
                  rw [he] at hFi
                  rw [hFi] at hrb
                  simp only at hrb
                  refine ⟨B, Hs4, L, ρ', r', w2.step t4, he, fun y Hs5 H5 t5 rel => ?_⟩
                  have t25 := (t3.trans t4).trans t5
                  refine ⟨acc, t25.h Dl _ c.hd, Nat.lt_of_le_of_lt hacc (Nat.lt_of_lt_of_le (Nat.lt_of_lt_of_le hlt hlen) (by decide)), ?_⟩
                  cases hr2 : lcRun F (xs.drop (i + 1)) with
                  | none => rw [hr2] at hrb; cases hrb
                  | some rb' =>
                    rw [hr2] at hrb
                    have e1 : r' :: rb' = rb := Option.some.inj hrb
                    refine ⟨hlt, Hs5, acc ++ [y], ra ++ [r'], rb', c.push hD l1 t25 (rel.base (t3.trans t4).h), rfl, ?_, ?_⟩
                    · rw [hra, ← e1, List.append_assoc]; rfl
                    · rw [List.length_append]; exact Nat.succ_le_succ hacc
        · have e : i = xs.length := by omega
          subst e
          refine .inl ⟨wstop, ?_⟩
          rw [List.drop_length] at hrb
          unfold lcRun at hrb
          cases hrb
          rw [List.append_nil] at hra
          subst hra
          obtain ⟨Hs3, t3, rel⟩ := c.fin hD w t1
          exact hq _ Hs3 H2 t3 rel
    · rw [if_neg hlen] at hf
      cases hf
end
end Z
/-! ZK: the check that a text's tree is a term's. -/
namespace Z
open PySem L2 PySem.Spec PyProof.Rows

/-- what is known of the text: the slots' names, the defs' names, the built-in names that nothing hides, gcd, constants -/
structure Cn where
  N : List Str
  fn : List (Str × Nat)
  bl : List Str
  gc : Bool
  cs : List (Str × D)

mutual
def sameD : D → D → Bool
  | .none, .none => true
  | .bool a, .bool b => decide (a = b)
  | .int a, .int b => decide (a = b)
  | .str a, .str b => decide (a = b)
  | .tuple xs, .tuple ys => sameDs xs ys
  | _, _ => false
def sameDs : List D → List D → Bool
  | [], [] => true
  | x :: xs, y :: ys => sameD x y && sameDs xs ys
  | _, _ => false
end
mutual
theorem sameD_eq : ∀ (d e : D), sameD d e = true → d = e
  | .none, e, h => by cases e <;> first | rfl | (unfold sameD at h; cases h)
  | .bool a, e, h => by
    cases e with
    | bool b => unfold sameD at h; rw [of_decide_eq_true h]
    | _ => unfold sameD at h; cases h
  | .int a, e, h => by
    cases e with
    | int b => unfold sameD at h; rw [of_decide_eq_true h]
    | _ => unfold sameD at h; cases h
  | .str a, e, h => by
    cases e with
    | str b => unfold sameD at h; rw [of_decide_eq_true h]
    | _ => unfold sameD at h; cases h
  | .tuple xs, e, h => by
    cases e with
    | tuple ys => unfold sameD at h; rw [sameDs_eq xs ys h]
    | _ => unfold sameD at h; cases h
  | .list _, e, h => by unfold sameD at h; cases h
  | .dict _, e, h => by unfold sameD at h; cases h
theorem sameDs_eq : ∀ (ds es : List D), sameDs ds es = true → ds = es
  | [], [], _ => rfl
  | [], _ :: _, h => by unfold sameDs at h; cases h
  | _ :: _, [], h => by unfold sameDs at h; cases h
  | d :: ds, e :: es, h => by
    unfold sameDs at h
    rw [Bool.and_eq_true] at h
    rw [sameD_eq d e h.1, sameDs_eq ds es h.2]
end

def gl (sc : Scope) (x : Str) : Bool := match sc.names.lookup x with
  | some .globalImplicit => true
  | _ => false
def vis (sc : Scope) (x : Str) : Bool := match sc.names.lookup x with
  | some .local => true
  | some .cell => true
  | some .free => true
  | _ => false
def okN (x : Str) : Bool := !(x == ("__debug__" : Str)) && !(x == ("__classdict__" : Str)) && decide (x ≠ "__name__")
def blt (C : Cn) (sc : Scope) (x : Str) : Bool := gl sc x && C.bl.contains x && okN x
def notSlice : Expr → Bool
  | .Slice _ _ _ _ => false
  | _ => true
def noKw : List Keyword → Bool
  | [] => true
  | _ => false
def mBin (op : Operator) : Expr → Option (List Expr)
  | .BinOp y op' z _ => if op' = op then some [y, z] else none
  | _ => none
def mCmp (c : CmpOp) : Expr → Option (List Expr)
  | .Compare y [c'] [z] _ => if c' = c then some [y, z] else none
  | _ => none
def mNone (c : CmpOp) : Expr → Option (List Expr)
  | .Compare y [c'] [.Constant .none _ _] _ => if c' = c then some [y] else none
  | _ => none
def mUn (op : UnaryOp) : Expr → Option (List Expr)
  | .UnaryOp op' y _ => if op' = op then some [y] else none
  | _ => none
/-- a call of a built-in by its name -/
def mCall (C : Cn) (sc : Scope) (nm : Str) : Expr → Option (List Expr)
  | .Call (.Name f _) xs kw _ => if noKw kw = true ∧ f = nm ∧ blt C sc f = true then some xs else none
  | _ => none
def mGcd (C : Cn) (sc : Scope) : Expr → Option (List Expr)
  | .Call (.Name f _) xs kw _ => if noKw kw = true ∧ f = "gcd" ∧ C.gc = true ∧ gl sc f = true then some xs else none
  | _ => none
def mIdx : Expr → Option (List Expr)
  | .Subscript y z _ => if notSlice z = true then some [y, z] else none
  | _ => none
def mSlc (lo hi : Bool) : Expr → Option (List Expr)
  | .Subscript y (.Slice none none none _) _ => if lo = false ∧ hi = false then some [y] else none
  | .Subscript y (.Slice (some l) none none _) _ => if lo = true ∧ hi = false then some [y, l] else none
  | .Subscript y (.Slice none (some u) none _) _ => if lo = false ∧ hi = true then some [y, u] else none
  | .Subscript y (.Slice (some l) (some u) none _) _ => if lo = true ∧ hi = true then some [y, l, u] else none
  | _ => none
def mRev : Expr → Option (List Expr)
  | .Subscript y (.Slice none none (some (.UnaryOp .USub (.Constant (.int i) _ _) _)) _) _ => if i = 1 then some [y] else none
  | _ => none
def mStar : Expr → Option (List Expr)
  | .List [.Starred a _, b] _ => some [a, b]
  | _ => none
def mN (n : Nat) : Option (List Expr) → Option (List Expr)
  | some xs => if xs.length = n then some xs else none
  | none => none
/-- the arguments of an operation's tree -/
def mOp (C : Cn) (sc : Scope) (o : Op) (x : Expr) : Option (List Expr) :=
  match o with
  | .neg => mUn .USub x
  | .not_ => mUn .Not x
  | .add => mBin .Add x
  | .sub => mBin .Sub x
  | .mul => mBin .Mult x
  | .fdiv => mBin .FloorDiv x
  | .mod => mBin .Mod x
  | .pow => mBin .Pow x
  | .shl => mBin .LShift x
  | .eq => mCmp .Eq x
  | .ne => mCmp .NotEq x
  | .lt => mCmp .Lt x
  | .le => mCmp .LtE x
  | .gt => mCmp .Gt x
  | .ge => mCmp .GtE x
  | .in_ => mCmp .In x
  | .nin => mCmp .NotIn x
  | .is_ => mCmp .Is x
  | .isnt => mCmp .IsNot x
  | .isn => mNone .Is x
  | .isnn => mNone .IsNot x
  | .len => mN 1 (mCall C sc "len" x)
  | .abs => mN 1 (mCall C sc "abs" x)
  | .int => mN 1 (mCall C sc "int" x)
  | .bool => mN 1 (mCall C sc "bool" x)
  | .min1 => mN 1 (mCall C sc "min" x)
  | .max1 => mN 1 (mCall C sc "max" x)
  | .min2 => mN 2 (mCall C sc "min" x)
  | .max2 => mN 2 (mCall C sc "max" x)
  | .sum => mN 1 (mCall C sc "sum" x)
  | .sorted => mN 1 (mCall C sc "sorted" x)
  | .list => mN 1 (mCall C sc "list" x)
  | .tuple => mN 1 (mCall C sc "tuple" x)
  | .repr => mN 1 (mCall C sc "repr" x)
  | .all => mN 1 (mCall C sc "all" x)
  | .any => mN 1 (mCall C sc "any" x)
  | .gcd => mN 2 (mGcd C sc x)
  | .idx => mIdx x
  | .slc lo hi => mSlc lo hi x
  | .rev => mRev x
  | .star1 => mStar x
def chkC : D → Const → Bool
  | .none, .none => true
  | .bool a, .bool b => decide (a = b)
  | .int a, .int b => decide (a = b)
  | .str a, .str b => decide (a = b)
  | _, _ => false
mutual
def chkP (N : List Str) (sc : Scope) (fc : Str → Bool) : Pat → Expr → Bool
  | .nm i, .Name x _ => decide (N[i]? = some x) && (match sc.names.lookup x with
    | some .local => true
    | some .cell => fc x
    | _ => false)
  | .tp ps, .Tuple es _ _ => chkPs N sc fc ps es
  | _, _ => false
def chkPs (N : List Str) (sc : Scope) (fc : Str → Bool) : Pats → List Expr → Bool
  | .nil, [] => true
  | .cons p r, e :: es => chkP N sc fc p e && chkPs N sc fc r es
  | _, _ => false
end
def ownOf (N : List Str) (vs : List Nat) : List (Str × Nat) := vs.map fun i => (N.getD i "", i)
def isTup : Expr → Bool
  | .Tuple _ _ _ => true
  | _ => false
def mVar (C : Cn) (sc : Scope) (i : Nat) : Expr → Bool
  | .Name x _ => decide (C.N[i]? = some x) && vis sc x && okN x
  | _ => false
def mLit (d : D) : Expr → Bool
  | .Constant c _ _ => chkC d c
  | _ => false
def mCon (C : Cn) (sc : Scope) (x : Str) (d : D) : Expr → Bool
  | .Name y _ => decide (x = y) && gl sc x && okN x && C.cs.any fun p => decide (p.1 = x) && sameD p.2 d
  | _ => false
def mFn (C : Cn) (sc : Scope) (j : Nat) : Expr → Option (List Expr)
  | .Call (.Name f _) xs kw _ => match C.fn[j]? with
    | some (x, _) => if x = f ∧ noKw kw = true ∧ gl sc f = true ∧ okN f = true then some xs else none
    | none => none
  | _ => none
/-- and, or: the first part, the rest -/
def mBool (op : BoolOp) : Expr → Option (Expr × Expr)
  | .BoolOp op' (x :: y :: r) p => if op' = op then some (x, match r with
    | [] => y
    | _ => .BoolOp op (y :: r) p) else none
  | _ => none
def mIf : Expr → Option (Expr × Expr × Expr)
  | .IfExp x y z _ => some (x, y, z)
  | _ => none
def mChain (o : Op) : Expr → Option (Expr × Expr × List CmpOp × List Expr)
  | .Compare x (c :: c2 :: cs) (y :: y2 :: ys) _ => if cmpOf o = some c then some (x, y, c2 :: cs, y2 :: ys) else none
  | _ => none
def mList : Expr → Option (List Expr)
  | .List xs _ => some xs
  | _ => none
def mTup : Expr → Option (List Expr)
  | .Tuple xs _ _ => some xs
  | _ => none
/-- a comprehension of one clause: its element, target, source, tests, scope -/
def mLc : Expr → Option (Expr × Expr × Expr × List Expr × Scope)
  | .ListComp x [⟨tg, ie, fs, as⟩] scope _ => if as = 0 then some (x, tg, ie, fs, scope) else none
  | _ => none
def mRange (C : Cn) (sc : Scope) : Expr → Option (List Expr) := mCall C sc "range"
mutual
def chkE (C : Cn) (sc : Scope) : E → Expr → Bool
  | .var i, x => mVar C sc i x
  | .lit d, x => mLit d x
  | .con n d, x => mCon C sc n d x
  | .op o as, x => match mOp C sc o x with
    | some xs => chkEs C sc as xs
    | none => false
  | .call j as, x => match mFn C sc j x with
    | some xs => chkEs C sc as xs
    | none => false
  | .and_ a b, x => match mBool .And x with
    | some (y, z) => chkE C sc a y && chkE C sc b z
    | none => false
  | .or_ a b, x => match mBool .Or x with
    | some (y, z) => chkE C sc a y && chkE C sc b z
    | none => false
  | .ife c a b, x => match mIf x with
    | some (y, z, w) => chkE C sc c y && chkE C sc a z && chkE C sc b w
    | none => false
  | .chain a o b r, x => match mChain o x with
    | some (y, z, cs, zs) => chkE C sc a y && chkE C sc b z && chkCh C sc r cs zs
    | none => false
  | .lst as, x => match mList x with
    | some xs => chkEs C sc as xs
    | none => false
  | .tup as, x => match mTup x with
    | some xs => chkEs C sc as xs
    | none => false
  | .lc vs elt p it ifs, x => match mLc x with
    | some (y, tg, ie, fs, scope) => blkC C.N sc scope (ownOf C.N vs) && pIn vs p && chkP C.N (L2.relS scope sc) (fun n => scope.names.lookup n == some .cell) p tg &&
      chkI C sc it ie tg && chkT C (L2.relS scope sc) ifs fs && chkE C (L2.relS scope sc) elt y
    | none => false
  | .lc2 _ _ _ _ _ _ _ _ _, _ => false
def chkEs (C : Cn) (sc : Scope) : Es → List Expr → Bool
  | .nil, [] => true
  | .cons e r, x :: xs => chkE C sc e x && chkEs C sc r xs
  | _, _ => false
def chkCh (C : Cn) (sc : Scope) : Ch → List CmpOp → List Expr → Bool
  | .one o e, [c], [x] => decide (cmpOf o = some c) && chkE C sc e x
  | .more o e r, c :: c2 :: cs, x :: x2 :: xs => decide (cmpOf o = some c) && chkE C sc e x && chkCh C sc r (c2 :: cs) (x2 :: xs)
  | _, _, _ => false
/-- the tests of a comprehension: none or one -/
def chkT (C : Cn) (sc : Scope) : Es → List Expr → Bool
  | .nil, [] => true
  | .cons e r, [x] => chkE C sc e x && (match r with
    | .nil => true
    | _ => false)
  | _, _ => false
def chkI (C : Cn) (sc : Scope) : It → Expr → Expr → Bool
  | .ex e, x, _ => chkE C sc e x
  | .rng1 a, x, _ => match mCall C sc "range" x with
    | some [y] => chkE C sc a y
    | _ => false
  | .rng2 a b, x, _ => match mCall C sc "range" x with
    | some [y, z] => chkE C sc a y && chkE C sc b z
    | _ => false
  | .rng3 a b c, x, _ => match mCall C sc "range" x with
    | some [y, z, w] => chkE C sc a y && chkE C sc b z && chkE C sc c w
    | _ => false
  | .enum a, x, t => match mCall C sc "enumerate" x with
    | some [y] => isTup t && chkE C sc a y
    | _ => false
  | .zip a b, x, t => match mCall C sc "zip" x with
    | some [y, z] => isTup t && chkE C sc a y && chkE C sc b z
    | _ => false
  | .revd a, x, _ => match mCall C sc "reversed" x with
    | some [y] => chkE C sc a y
    | _ => false
end
end Z
/-! ZL: a term that the check accepts reads as its tree runs: operations. -/
namespace Z
open PySem L2 PySem.Spec PyProof.Rows

structure XOk (X : Cx) (C : Cn) (sc : Scope) (fc : Str → Bool) (Φ : Fn) : Prop where
  calm : X.calm = true
  N : X.N = C.N
  nd : C.N.Nodup
  sc : X.env.scope = sc
  fn : X.fn = fc
  bl : ∀ x, C.bl.contains x = true → X.mg x = none
  gc : C.gc = true → X.mg "gcd" = some (.builtin "math.gcd")
  cs : ∀ p ∈ C.cs, ∃ v u, X.mg p.1 = some u ∧ RelV v u ∧ Rp X.K (fun _ => none) v p.2
  gu : X.A.guards = some []
  un : X.A.units + 66 < cLine
  calls : ∀ j x n, C.fn[j]? = some (x, n) → ∃ f fd ps k, X.mg x = some (.ref f) ∧ PySem.W.keepIn X.K (.ref f) = true ∧ Binds X.K fd ps [] ∧ Room k X.A ∧ FnG X.prog X.w X.K X.mg X.base k f fd ps (spF X.K n (Φ j)) ∧ ∀ ds d l, Φ j ds = some (d, l) → ds.length = n

/-- what the check promises of an expression -/
structure Snd (X : Cx) (Φ : Fn) (e : Z.E) (x : Expr) : Prop where
  vE : PE X x (rdE X.K (ev Φ e))
  vW : PE X x (rdW X.K e (ev Φ e))
  vT : PT X x (rdT X.K (ev Φ e))
  vB : ∀ op vs p, x = .BoolOp op vs p → PW X x (rdT X.K (ev Φ e))
  st : ∀ es, starEach (x :: es) X.env = (false, eval x X.env) :: starEach es X.env
  be : ∀ op, behindInMarks op x = false
  fo : ∀ (env : Env) y, foldedSetIterable x env y = pure y

section
variable {X : Cx} {C : Cn} {sc : Scope} {fc : Str → Bool} {Φ : Fn} {e a b c : E} {x y z : Expr} {pos p : Pos} {f : Str} {K : PySem.W.Frag}
theorem Snd.P (s : Snd X Φ e x) : PE X x (rdP X.K e (ev Φ e)) := wP s.vW
theorem Snd.F (s : Snd X Φ e x) : PE X x (rdF X.K (ev Φ e)) := wF s.vW
theorem snd_plain (hn : ∀ i, e ≠ .var i) (hE : PE X x (rdE X.K (ev Φ e))) (ht : ∀ whole, isTrue x X.env whole = (do let v ← whole; standAt x.pos; holding [v] (truthy v))) (hb : ∀ op vs p, x ≠ .BoolOp op vs p)
    (st : ∀ es, starEach (x :: es) X.env = (false, eval x X.env) :: starEach es X.env) (be : ∀ op, behindInMarks op x = false) (fo : ∀ (env : Env) y, foldedSetIterable x env y = pure y) : Snd X Φ e x :=
  ⟨hE, toW hn hE, toT (toP hn hE) rfl ht, fun op vs p q => absurd q (hb op vs p), st, be, fo⟩
theorem gl_of (o : XOk X C sc fc Φ) (h : gl sc f = true) : Gl X f := by
  unfold gl at h
  show X.env.scope.names.lookup f = some .globalImplicit
  rw [o.sc]
  split at h
  · assumption
  · cases h
theorem okN_of (h : okN f = true) : (f == ("__debug__" : Str)) = false ∧ (f == ("__classdict__" : Str)) = false ∧ f ≠ "__name__" := by
  unfold okN at h
  simp only [Bool.and_eq_true, Bool.not_eq_true', decide_eq_true_eq] at h
  exact ⟨h.1.1, h.1.2, h.2⟩
theorem blt_of (o : XOk X C sc fc Φ) (h : blt C sc f = true) : Gl X f ∧ X.mg f = none ∧ (f == ("__debug__" : Str)) = false ∧ f ≠ "__name__" := by
  unfold blt at h
  simp only [Bool.and_eq_true] at h
  obtain ⟨h1, h2, h3⟩ := okN_of h.2
  exact ⟨gl_of o h.1.1, o.bl f h.1.2, h1, h3⟩
theorem vis_of (o : XOk X C sc fc Φ) (h : vis sc f = true) : Vis X.env.scope f := by
  unfold vis at h
  unfold Vis
  rw [o.sc]
  split at h
  · exact .inl (by assumption)
  · exact .inr (.inl (by assumption))
  · exact .inr (.inr (by assumption))
  · cases h
theorem mUn_inv {op : UnaryOp} {xs : List Expr} (h : mUn op x = some xs) : ∃ y p, x = .UnaryOp op y p ∧ xs = [y] := by
  unfold mUn at h
  split at h
  · obtain ⟨e, q⟩ := ite_some h
    subst e q
    exact ⟨_, _, rfl, rfl⟩
  · cases h
theorem mBin_inv {op : Operator} {xs : List Expr} (h : mBin op x = some xs) : ∃ y z p, x = .BinOp y op z p ∧ xs = [y, z] := by
  unfold mBin at h
  split at h
  · obtain ⟨e, q⟩ := ite_some h
    subst e q
    exact ⟨_, _, _, rfl, rfl⟩
  · cases h
theorem mCmp_inv {op : CmpOp} {xs : List Expr} (h : mCmp op x = some xs) : ∃ y z p, x = .Compare y [op] [z] p ∧ xs = [y, z] := by
  unfold mCmp at h
  split at h
  · obtain ⟨e, q⟩ := ite_some h
    subst e q
    exact ⟨_, _, _, rfl, rfl⟩
  · cases h
theorem mNone_inv {op : CmpOp} {xs : List Expr} (h : mNone op x = some xs) : ∃ y j q p, x = .Compare y [op] [.Constant .none j q] p ∧ xs = [y] := by
  unfold mNone at h
  split at h
  · obtain ⟨e, q⟩ := ite_some h
    subst e q
    exact ⟨_, _, _, _, rfl, rfl⟩
  · cases h
theorem noKw_inv {kw : List Keyword} (h : noKw kw = true) : kw = [] := by
  cases kw with
  | nil => rfl
  | cons _ _ => cases h
theorem mCall_inv {nm : Str} {xs : List Expr} (h : mCall C sc nm x = some xs) : ∃ q p, x = .Call (.Name nm q) xs [] p ∧ blt C sc nm = true := by
  unfold mCall at h
  split at h
  · obtain ⟨⟨e1, e2, e3⟩, q⟩ := ite_some h
    subst e2 q
    rw [noKw_inv e1]
    exact ⟨_, _, rfl, e3⟩
  · cases h
theorem mGcd_inv {xs : List Expr} (h : mGcd C sc x = some xs) : ∃ q p, x = .Call (.Name "gcd" q) xs [] p ∧ C.gc = true ∧ gl sc "gcd" = true := by
  unfold mGcd at h
  split at h
  · obtain ⟨⟨e1, e2, e3, e4⟩, q⟩ := ite_some h
    subst e2 q
    rw [noKw_inv e1]
    exact ⟨_, _, rfl, e3, e4⟩
  · cases h
theorem mIdx_inv {xs : List Expr} (h : mIdx x = some xs) : ∃ y z p, x = .Subscript y z p ∧ notSlice z = true ∧ xs = [y, z] := by
  unfold mIdx at h
  split at h
  · obtain ⟨e, q⟩ := ite_some h
    subst q
    exact ⟨_, _, _, rfl, e, rfl⟩
  · cases h
theorem mSlc_inv {lo hi : Bool} {xs : List Expr} (h : mSlc lo hi x = some xs) : ∃ y p q, (lo = false ∧ hi = false ∧ x = .Subscript y (.Slice none none none p) q ∧ xs = [y]) ∨
    (∃ l, lo = true ∧ hi = false ∧ x = .Subscript y (.Slice (some l) none none p) q ∧ xs = [y, l]) ∨ (∃ u, lo = false ∧ hi = true ∧ x = .Subscript y (.Slice none (some u) none p) q ∧ xs = [y, u]) ∨
    ∃ l u, lo = true ∧ hi = true ∧ x = .Subscript y (.Slice (some l) (some u) none p) q ∧ xs = [y, l, u] := by
  unfold mSlc at h
  split at h
  · obtain ⟨⟨e1, e2⟩, q⟩ := ite_some h
    subst e1 e2 q
    exact ⟨_, _, _, .inl ⟨rfl, rfl, rfl, rfl⟩⟩
  · obtain ⟨⟨e1, e2⟩, q⟩ := ite_some h
    subst e1 e2 q
    exact ⟨_, _, _, .inr (.inl ⟨_, rfl, rfl, rfl, rfl⟩)⟩
  · obtain ⟨⟨e1, e2⟩, q⟩ := ite_some h
    subst e1 e2 q
    exact ⟨_, _, _, .inr (.inr (.inl ⟨_, rfl, rfl, rfl, rfl⟩))⟩
  · obtain ⟨⟨e1, e2⟩, q⟩ := ite_some h
    subst e1 e2 q
    exact ⟨_, _, _, .inr (.inr (.inr ⟨_, _, rfl, rfl, rfl, rfl⟩))⟩
  · cases h
theorem mRev_inv {xs : List Expr} (h : mRev x = some xs) : ∃ y k p1 p2 p3 p, x = .Subscript y (.Slice none none (some (.UnaryOp .USub (.Constant (.int 1) k p1) p2)) p3) p ∧ xs = [y] := by
  unfold mRev at h
  split at h
  · obtain ⟨e, q⟩ := ite_some h
    subst e q
    exact ⟨_, _, _, _, _, _, rfl, rfl⟩
  · cases h

theorem mStar_inv {xs : List Expr} (h : mStar x = some xs) : ∃ y z q p, x = .List [.Starred y q, z] p ∧ xs = [y, z] := by
  unfold mStar at h
  split at h
  · cases h
    exact ⟨_, _, _, _, rfl, rfl⟩
  · cases h
theorem snd_var {i : Nat} (o : XOk X C sc fc Φ) (h : mVar C sc i x = true) : Snd X Φ (.var i) x := by
  unfold mVar at h
  split at h
  · rename_i f pos
    simp only [Bool.and_eq_true, decide_eq_true_eq] at h
    obtain ⟨⟨q1, q2⟩, q3⟩ := h
    obtain ⟨n1, n2, n3⟩ := okN_of q3
    have hv : PE X (.Name f pos) (tVar i) := pe_var (by rw [o.N]; exact q1) (vis_of o q2) n1 n2
    exact ⟨varE hv, varW hv, toT (varP hv) rfl (fun _ => rfl), fun _ _ _ q => (by cases q), fun _ => rfl, fun _ => rfl, fun _ _ => rfl⟩
  · cases h
theorem const_red {d : D} {v : V} (hr : ∀ Hx, Rp K Hx v d) (he : ∀ ρ, ev Φ e ρ = some (d, .sh [])) : ∀ σ H Q, rdE K (ev Φ e) σ H Q → tC v σ H Q := fun σ H Q q => by
  obtain ⟨B, Hs, L, ρ, r, w, hf, hq⟩ := q
  rw [he] at hf
  cases hf
  exact hq v Hs H (Step.refl w.lok.sh) (hr _)
theorem snd_lit {d : D} (h : mLit d x = true) : Snd X Φ (.lit d) x := by
  have he : ∀ ρ, ev Φ (.lit d) ρ = some (d, .sh []) := fun ρ => by unfold ev; rfl
  unfold mLit at h
  split at h
  · rename_i c k pos
    have go : ∀ v, PE X (.Constant c k pos) (tC v) → (∀ Hx, Rp X.K Hx v d) → Snd X Φ (.lit d) (.Constant c k pos) := fun v hp hr =>
      snd_plain (fun i q => by cases q) (pe_imp hp (const_red hr he)) (fun _ => rfl) (fun _ _ _ q => by cases q) (fun _ => rfl) (fun _ => rfl) (fun _ _ => rfl)
    unfold chkC at h
    split at h
    · exact go _ pe_non fun _ => .non
    · have e := of_decide_eq_true h
      subst e
      exact go _ pe_bl fun _ => .bl _
    · have e := of_decide_eq_true h
      subst e
      exact go _ pe_int fun _ => .int _
    · have e := of_decide_eq_true h
      subst e
      exact go _ pe_str fun _ => .str _
    · cases h
  · cases h
theorem snd_con {n : Str} {d : D} (o : XOk X C sc fc Φ) (h : mCon C sc n d x = true) : Snd X Φ (.con n d) x := by
  have he : ∀ ρ, ev Φ (.con n d) ρ = some (d, .sh []) := fun ρ => by unfold ev; rfl
  unfold mCon at h
  split at h
  · rename_i y pos
    simp only [Bool.and_eq_true, decide_eq_true_eq, List.any_eq_true] at h
    obtain ⟨⟨⟨q1, q2⟩, q3⟩, pr, q4, q5, q6⟩ := h
    subst q1
    have q7 := sameD_eq _ _ q6
    obtain ⟨n1, n2, n3⟩ := okN_of q3
    obtain ⟨v, u, m1, m2, m3⟩ := o.cs pr q4
    rw [q5] at m1
    rw [q7] at m3
    have hp : PE X (.Name n pos) (tC v) := pe_glob (gl_of o q2) m1 m2 n1
    exact snd_plain (fun i q => by cases q) (pe_imp hp (const_red (fun Hx => rp_mono (fun a o q => by cases q) m3) he)) (fun _ => rfl) (fun _ _ _ q => by cases q) (fun _ => rfl) (fun _ => rfl) (fun _ _ => rfl)
  · cases h

/-- a comparison's: as a value, as a test -/
theorem t_of_E {t : TE} {g : Rho → Option R} (hred : ∀ σ H Q, rdE K g σ H Q → t σ H Q) (hb : ∀ ρ r, g ρ = some r → ∃ c, r = (.bool c, .sh [])) : ∀ σ H Q, rdT K g σ H Q → tB t σ H Q := fun σ H Q q => by
  obtain ⟨B, Hs, L, ρ, r, b, w, hf, ht, hq⟩ := q
  obtain ⟨c, rfl⟩ := hb ρ r hf
  have e : c = b := Option.some.inj ht
  subst e
  refine hred σ H _ ⟨B, Hs, L, ρ, _, w, hf, fun v Hs' H' t1 rel => ?_⟩
  have e2 : v = .bl c := by
    have q : Rp K (VH L [] Hs' H') v (.bool c) := rel
    cases q
    rfl
  exact ⟨c, e2, hq Hs' H' t1⟩
theorem nmS_bool (c : Bool) (g : List Tag) : nmS (.bool c) g = .sh [] := by
  unfold nmS
  split <;> rfl
theorem opR_bool {o : Op} {ps : List (D × List Tag)} {r : R} (h : opR o ps = some r) (hb : ∀ d t, opF o (ps.map (·.1)) = some (d, t) → t = false ∧ ∃ c, d = .bool c) : ∃ c, r = (.bool c, .sh []) := by
  obtain ⟨d, t, h1, rfl⟩ := opR_inv h
  obtain ⟨rfl, c, rfl⟩ := hb d t h1
  refine ⟨c, ?_⟩
  show (PyData.bool c, nmS (.bool c) _) = _
  rw [nmS_bool]
theorem ev1_bool {o : Op} (hb : ∀ d d' t, opF o [d] = some (d', t) → t = false ∧ ∃ c, d' = .bool c) : ∀ ρ r, ev Φ (.op o (.cons a .nil)) ρ = some r → ∃ c, r = (.bool c, .sh []) := fun ρ r h => by
  unfold ev evps evps at h
  cases ha : ev Φ a ρ with
  | none => rw [ha] at h; cases h
  | some ra =>
    rw [ha] at h
    exact opR_bool h fun d t q => hb _ d t q
theorem ev2_bool {o : Op} (hb : ∀ d e d' t, opF o [d, e] = some (d', t) → t = false ∧ ∃ c, d' = .bool c) : ∀ ρ r, ev Φ (.op o (.cons a (.cons b .nil))) ρ = some r → ∃ c, r = (.bool c, .sh []) := fun ρ r h => by
  unfold ev evps evps evps at h
  cases ha : ev Φ a ρ with
  | none => rw [ha] at h; cases h
  | some ra =>
    rw [ha] at h
    cases hb' : ev Φ b ρ with
    | none => rw [hb'] at h; cases h
    | some rb =>
      rw [hb'] at h
      exact opR_bool h fun d t q => hb _ _ d t q
theorem snd_cmp {t : TE} {cs : List CmpOp} {ys : List Expr} (hn : ∀ i, e ≠ .var i) (hc : PE X (.Compare x cs ys pos) t) (hT : PT X (.Compare x cs ys pos) (tB t)) (hred : ∀ σ H Q, rdE X.K (ev Φ e) σ H Q → t σ H Q) (hb : ∀ ρ r, ev Φ e ρ = some r → ∃ c, r = (.bool c, .sh [])) : Snd X Φ e (.Compare x cs ys pos) :=
  have hE := pe_imp hc hred
  ⟨hE, toW hn hE, pt_imp hT (t_of_E hred hb), fun _ _ _ q => (by cases q), fun _ => rfl, fun _ => rfl, fun _ _ => rfl⟩
theorem tB_test {t : TE} (h : PT X x (tTest t)) : PT X x (tB t) := h
end
end Z
/-! ZM: each operation that the check accepts. -/
namespace Z
open PySem L2 PySem.Spec PyProof.Rows

def SndL (X : Cx) (Φ : Fn) : Es → List Expr → Prop
  | .nil, [] => True
  | .cons e r, x :: xs => Snd X Φ e x ∧ SndL X Φ r xs
  | _, _ => False
section
variable {X : Cx} {C : Cn} {sc : Scope} {fc : Str → Bool} {Φ : Fn} {e a b c : E} {as : Es} {x y z : Expr} {xs : List Expr} {pos p : Pos} {f : Str} {K : PySem.W.Frag} {o : Op}
theorem sndL1 (h : SndL X Φ as [y]) : ∃ a, as = .cons a .nil ∧ Snd X Φ a y := by
  cases as with
  | nil => exact h.elim
  | cons a r =>
    cases r with
    | nil => exact ⟨a, rfl, h.1⟩
    | cons _ _ => exact h.2.elim
theorem sndL2 (h : SndL X Φ as [y, z]) : ∃ a b, as = .cons a (.cons b .nil) ∧ Snd X Φ a y ∧ Snd X Φ b z := by
  cases as with
  | nil => exact h.elim
  | cons a r =>
    obtain ⟨b, rfl, hb⟩ := sndL1 h.2
    exact ⟨a, b, rfl, h.1, hb⟩
theorem mN_inv {n : Nat} {o : Option (List Expr)} (h : mN n o = some xs) : o = some xs ∧ xs.length = n := by
  unfold mN at h
  split at h
  · obtain ⟨e, q⟩ := ite_some h
    subst q
    exact ⟨rfl, e⟩
  · cases h
theorem len1 (h : xs.length = 1) : ∃ y, xs = [y] := by
  match xs, h with
  | [y], _ => exact ⟨y, rfl⟩
theorem len2 (h : xs.length = 2) : ∃ y z, xs = [y, z] := by
  match xs, h with
  | [y, z], _ => exact ⟨y, z, rfl⟩
/-- binary operators -/
theorem bin_snd {op : Operator} {r : R2} (ho : OpR X (binaryOp op) r) (hv : Val2 X.K o r) (h : mBin op x = some xs) (hl : SndL X Φ as xs) : Snd X Φ (.op o as) x := by
  obtain ⟨y, z, p, rfl, rfl⟩ := mBin_inv h
  obtain ⟨a, b, rfl, sa, sb⟩ := sndL2 hl
  exact snd_plain (fun i q => by cases q) (pe_imp (pe_op ho sa.P sb.P) (bin_red hv)) (fun _ => rfl) (fun _ _ _ q => by cases q) (fun _ => rfl) (fun _ => rfl) (fun _ _ => rfl)
theorem cmp_bool (ho : isCmp o = true) : ∀ d e d' t, opF o [d, e] = some (d', t) → t = false ∧ ∃ c, d' = .bool c := fun d e d' t h => opF_bool (isCmp_or ho) h
theorem cmp_snd {op : CmpOp} (hc : cmpOf o = some op) (hu : X.A.units + 66 < cLine) (h : mCmp op x = some xs) (hl : SndL X Φ as xs) : Snd X Φ (.op o as) x := by
  obtain ⟨y, z, p, rfl, rfl⟩ := mCmp_inv h
  obtain ⟨a, b, rfl, sa, sb⟩ := sndL2 hl
  have hO := o_cmp (X := X) hc hu
  exact snd_cmp (fun i q => by cases q) (pe_cmpR hO sa.P sb.P (sb.be op)) (tB_test (pt_cmpR hO sa.P sb.P (sb.be op))) (bin_red (v_cmp (cmpOf_is hc))) (ev2_bool (cmp_bool (cmpOf_is hc)))
/-- built-ins of one argument, of two -/
theorem call1_snd {nm : Str} {id : String} {r : List V → Hp → VK → Prop} (ox : XOk X C sc fc Φ) (hb : bootBuiltins nm = some (.builtin id)) (hc : CallR X (.builtin id) r) (hv : Val1c X.K o r) (h : mN 1 (mCall C sc nm x) = some xs) (hl : SndL X Φ as xs) : Snd X Φ (.op o as) x := by
  obtain ⟨h1, h2⟩ := mN_inv h
  obtain ⟨q, p, rfl, h3⟩ := mCall_inv h1
  obtain ⟨y, rfl⟩ := len1 h2
  obtain ⟨a, rfl, sa⟩ := sndL1 hl
  obtain ⟨g1, g2, g3, g4⟩ := blt_of ox h3
  exact snd_plain (fun i q => by cases q) (pe_imp (pe_callB hc g1 g2 hb (pa_cons sa.P pa_nil (sa.st [])) g4 g3 (sa.st []) rfl) (un_red hv)) (fun _ => rfl) (fun _ _ _ q => by cases q) (fun _ => rfl) (fun _ => rfl) (fun _ _ => rfl)
theorem callT_snd {nm : Str} {id : String} {r : List V → Hp → VK → Prop} (ox : XOk X C sc fc Φ) (hb : bootBuiltins nm = some (.type id)) (hc : CallR X (.type id) r) (hv : Val1c X.K o r) (h : mN 1 (mCall C sc nm x) = some xs) (hl : SndL X Φ as xs) : Snd X Φ (.op o as) x := by
  obtain ⟨h1, h2⟩ := mN_inv h
  obtain ⟨q, p, rfl, h3⟩ := mCall_inv h1
  obtain ⟨y, rfl⟩ := len1 h2
  obtain ⟨a, rfl, sa⟩ := sndL1 hl
  obtain ⟨g1, g2, g3, g4⟩ := blt_of ox h3
  exact snd_plain (fun i q => by cases q) (pe_imp (pe_callTy hc g1 g2 hb (pa_cons sa.P pa_nil (sa.st [])) g4 g3 (sa.st []) rfl) (un_red hv)) (fun _ => rfl) (fun _ _ _ q => by cases q) (fun _ => rfl) (fun _ => rfl) (fun _ _ => rfl)
theorem call2_snd {nm : Str} {id : String} {r : List V → Hp → VK → Prop} (ox : XOk X C sc fc Φ) (hb : bootBuiltins nm = some (.builtin id)) (hc : CallR X (.builtin id) r) (hv : Val2c X.K o r) (h : mN 2 (mCall C sc nm x) = some xs) (hl : SndL X Φ as xs) : Snd X Φ (.op o as) x := by
  obtain ⟨h1, h2⟩ := mN_inv h
  obtain ⟨q, p, rfl, h3⟩ := mCall_inv h1
  obtain ⟨y, z, rfl⟩ := len2 h2
  obtain ⟨a, b, rfl, sa, sb⟩ := sndL2 hl
  obtain ⟨g1, g2, g3, g4⟩ := blt_of ox h3
  exact snd_plain (fun i q => by cases q) (pe_imp (pe_callB hc g1 g2 hb (pa_cons sa.P (pa_cons sb.P pa_nil (sb.st [])) (sa.st [z])) g4 g3 (sa.st [z]) (by rw [sb.st]; rfl)) (bin_red hv)) (fun _ => rfl) (fun _ _ _ q => by cases q) (fun _ => rfl) (fun _ => rfl) (fun _ _ => rfl)
theorem boot_s : bootBuiltins "sorted" = some (.builtin "sorted") := PyProof.Rows.boot_sorted
theorem slc_red0 : ∀ σ H Q, rdE K (ev Φ (.op (.slc false false) (.cons a .nil))) σ H Q → tSl (rSlc K) (rdP K a (ev Φ a)) tNoPart tNoPart σ H Q := fun σ H Q q =>
  un_red (o := .slc false false) (r1 := fun v H Q => rSlc K v none none H Q) (fun L Hb Hs H v d g res Q l sb p hr hQ => by
    obtain ⟨d', t, h1, rfl⟩ := opR1 hr
    exact v_slc l sb p h1 hQ) σ H Q q
theorem slc_redL : ∀ σ H Q, rdE K (ev Φ (.op (.slc true false) (.cons a (.cons b .nil)))) σ H Q → tSl (rSlc K) (rdP K a (ev Φ a)) (tPart (rdP K b (ev Φ b))) tNoPart σ H Q := fun σ H Q q =>
  bin_red (o := .slc true false) (r2 := fun v w H Q => ∃ i, w = .int i ∧ rSlc K v (some i) none H Q) (fun L Hb Hs H v u d e g h res Q l sb p1 p2 hr hQ => by
    obtain ⟨d', t, h1, rfl⟩ := opR2 hr
    cases e with
    | int i => exact ⟨i, p2, v_slc (L := L) (Hb := Hb) (Hs := Hs) (g := g ++ h) l sb (pk_mono (Evl.Ex.refl _) (Evl.Ex.refl _) (vh_left g h) p1) h1 hQ⟩
    | _ => cases h1) σ H Q q
theorem slc_redU : ∀ σ H Q, rdE K (ev Φ (.op (.slc false true) (.cons a (.cons b .nil)))) σ H Q → tSl (rSlc K) (rdP K a (ev Φ a)) tNoPart (tPart (rdP K b (ev Φ b))) σ H Q := fun σ H Q q =>
  bin_red (o := .slc false true) (r2 := fun v w H Q => ∃ i, w = .int i ∧ rSlc K v none (some i) H Q) (fun L Hb Hs H v u d e g h res Q l sb p1 p2 hr hQ => by
    obtain ⟨d', t, h1, rfl⟩ := opR2 hr
    cases e with
    | int i => exact ⟨i, p2, v_slc (L := L) (Hb := Hb) (Hs := Hs) (g := g ++ h) l sb (pk_mono (Evl.Ex.refl _) (Evl.Ex.refl _) (vh_left g h) p1) h1 hQ⟩
    | _ => cases h1) σ H Q q
theorem slc_redB : ∀ σ H Q, rdE K (ev Φ (.op (.slc true true) (.cons a (.cons b (.cons c .nil))))) σ H Q → tSl (rSlc K) (rdP K a (ev Φ a)) (tPart (rdP K b (ev Φ b))) (tPart (rdP K c (ev Φ c))) σ H Q := fun σ H Q q => by
  obtain ⟨B, Hs, L, ρ, res, w, hf, hq⟩ := q
  unfold ev evps evps evps evps at hf
  cases ha : ev Φ a ρ with
  | none => rw [ha] at hf; cases hf
  | some ra =>
    rw [ha] at hf
    cases hb : ev Φ b ρ with
    | none => rw [hb] at hf; cases hf
    | some rb =>
      rw [hb] at hf
      cases hc : ev Φ c ρ with
      | none => rw [hc] at hf; cases hf
      | some rc =>
        rw [hc] at hf
        refine ⟨B, Hs, L, ρ, ra, w, ha, fun v Hs1 H1 t1 p1 => ⟨B, Hs1, L, ρ, rb, w.step t1, hb, fun u Hs2 H2 t2 p2 => ?_⟩⟩
        obtain ⟨d', t, h1, h2⟩ := opR_inv hf
        have h1' : opF (.slc true true) [ra.1, rb.1, rc.1] = some (d', t) := h1
        obtain ⟨db, ob⟩ := rb
        obtain ⟨dc, oc⟩ := rc
        have l1 := w.lok.step t1
        cases db with
        | int i =>
          cases dc with
          | int j =>
            refine ⟨i, p2, B, Hs2, L, ρ, _, (w.step t1).step t2, hc, fun s Hs3 H3 t3 p3 => ⟨j, p3, ?_⟩⟩
            have t23 := t2.trans t3
            exact v_slc (L := L) (Hb := H) (Hs := Hs3) (g := pkT a ρ ra.2.tags ++ (pkT b ρ ob.tags ++ (pkT c ρ oc.tags ++ []))) (l1.step t23) ((t1.h.trans t23.h)) (pk_mono t23.s t23.h (Evl.Ex.trans (vh_step l1 t23) (vh_left _ _)) p1) h1'
              fun w' Hs' H' t4 rel => hq w' Hs' H' ((t1.trans t23).trans t4) (by rw [h2]; exact rel)
          | _ => cases h1'
        | _ => cases h1'
/-- every operation -/
theorem snd_op (ox : XOk X C sc fc Φ) (h : mOp C sc o x = some xs) (hl : SndL X Φ as xs) : Snd X Φ (.op o as) x := by
  have hc := ox.calm
  have hu := ox.un
  cases o with
  | neg =>
    obtain ⟨y, p, rfl, rfl⟩ := mUn_inv (show mUn .USub x = some xs from h)
    obtain ⟨a, rfl, sa⟩ := sndL1 hl
    exact snd_plain (fun i q => by cases q) (pe_imp (pe_un un_neg sa.P) (un_red v_neg)) (fun _ => rfl) (fun _ _ _ q => by cases q) (fun _ => rfl) (fun _ => rfl) (fun _ _ => rfl)
  | not_ =>
    obtain ⟨y, p, rfl, rfl⟩ := mUn_inv (show mUn .Not x = some xs from h)
    obtain ⟨a, rfl, sa⟩ := sndL1 hl
    have hE : PE X (.UnaryOp .Not y p) (rdE X.K (ev Φ (.op .not_ (.cons a .nil)))) := pe_imp (pe_notT sa.P) (un_red v_not)
    refine ⟨hE, toW (fun i q => by cases q) hE, pt_imp (pt_not sa.vT) fun σ H Q q => ?_, fun _ _ _ q => (by cases q), fun _ => rfl, fun _ => rfl, fun _ _ => rfl⟩
    obtain ⟨B, Hs, L, ρ, r, b, w, hf, ht, hq⟩ := q
    unfold ev evps evps at hf
    cases ha : ev Φ a ρ with
    | none => rw [ha] at hf; cases hf
    | some ra =>
      rw [ha] at hf
      obtain ⟨d, t, h1, rfl⟩ := opR1 hf
      have h2 : (truth ra.1).map (fun b => ((PyData.bool (!b)), false)) = some (d, t) := h1
      cases hb : truth ra.1 with
      | none => rw [hb] at h2; cases h2
      | some c =>
        rw [hb] at h2
        cases h2
        have e : (!c) = b := Option.some.inj ht
        subst e
        exact ⟨B, Hs, L, ρ, ra, c, w, ha, hb, fun Hs' H' t1 => hq Hs' H' t1⟩
  | add => exact bin_snd o_add v_add h hl
  | sub => exact bin_snd op_sub v_sub h hl
  | mul => exact bin_snd o_mul v_mul h hl
  | fdiv => exact bin_snd o_div v_div h hl
  | mod => exact bin_snd op_modN v_mod h hl
  | pow => exact bin_snd op_pow v_pow h hl
  | shl => exact bin_snd op_shl v_shl h hl
  | eq => exact cmp_snd rfl hu h hl
  | ne => exact cmp_snd rfl hu h hl
  | lt => exact cmp_snd rfl hu h hl
  | le => exact cmp_snd rfl hu h hl
  | gt => exact cmp_snd rfl hu h hl
  | ge => exact cmp_snd rfl hu h hl
  | in_ => exact cmp_snd rfl hu h hl
  | nin => exact cmp_snd rfl hu h hl
  | is_ => exact cmp_snd rfl hu h hl
  | isnt => exact cmp_snd rfl hu h hl
  | isn =>
    obtain ⟨y, j, q, p, rfl, rfl⟩ := mNone_inv (show mNone .Is x = some xs from h)
    obtain ⟨a, rfl, sa⟩ := sndL1 hl
    exact snd_cmp (fun i q => by cases q) (pe_cmp (pc_isN sa.P)) (pt_cmp (pc_isN sa.P)) (un_red v_isn) (ev1_bool fun d d' t q => by cases q; exact ⟨rfl, _, rfl⟩)
  | isnn =>
    obtain ⟨y, j, q, p, rfl, rfl⟩ := mNone_inv (show mNone .IsNot x = some xs from h)
    obtain ⟨a, rfl, sa⟩ := sndL1 hl
    exact snd_cmp (fun i q => by cases q) (pe_cmp (pc_notN sa.P)) (pt_cmp (pc_notN sa.P)) (un_red v_isnn) (ev1_bool fun d d' t q => by cases q; exact ⟨rfl, _, rfl⟩)
  | len => exact call1_snd ox PySem.boot_len call_len v_len h hl
  | abs => exact call1_snd ox boot_abs call_abs v_abs h hl
  | int => exact callT_snd ox boot_int call_int1 v_int h hl
  | bool => exact callT_snd ox boot_bool call_bool1 v_bool h hl
  | min2 => exact call2_snd ox boot_min (call_min2 hc) v_min2 h hl
  | max2 => exact call2_snd ox boot_max (call_max2 hc) v_max2 h hl
  | min1 => exact call1_snd ox boot_min (cr_min hc) v_min1 h hl
  | max1 => exact call1_snd ox boot_max (cr_max hc) v_max1 h hl
  | sum => exact call1_snd ox boot_sum (cr_sum hc) v_sum h hl
  | sorted => exact call1_snd ox boot_sorted cr_sortedI v_sorted h hl
  | list => exact callT_snd ox boot_list call_list_of v_list h hl
  | tuple => exact callT_snd ox boot_tuple call_tuple_of v_tuple h hl
  | repr => exact call1_snd ox boot_repr (o_repr ox.gu hu) v_repr h hl
  | all => exact call1_snd ox boot_all (cr_all hc) v_all h hl
  | any => exact call1_snd ox boot_any (cr_any hc) v_any h hl
  | gcd =>
    obtain ⟨h1, h2⟩ := mN_inv (show mN 2 (mGcd C sc x) = some xs from h)
    obtain ⟨q, p, rfl, h3, h4⟩ := mGcd_inv h1
    obtain ⟨y, z, rfl⟩ := len2 h2
    obtain ⟨a, b, rfl, sa, sb⟩ := sndL2 hl
    exact snd_plain (fun i q => by cases q) (pe_imp (pe_callBfun cr_gcd (gl_of ox h4) (ox.gc h3) (pa_cons sa.P (pa_cons sb.P pa_nil (sb.st [])) (sa.st [z])) (by decide) (sa.st [z]) (by rw [sb.st]; rfl)) (bin_red v_gcd)) (fun _ => rfl) (fun _ _ _ q => by cases q) (fun _ => rfl) (fun _ => rfl) (fun _ _ => rfl)
  | idx =>
    obtain ⟨y, z, p, rfl, hs, rfl⟩ := mIdx_inv (show mIdx x = some xs from h)
    obtain ⟨a, b, rfl, sa, sb⟩ := sndL2 hl
    have hp : PlainIx z := by
      intro o i
      cases z <;> first | rfl | cases hs
    exact snd_plain (fun i q => by cases q) (pe_imp (pe_ix ix_seq sa.P sb.P hp) (bin_red v_idx)) (fun _ => rfl) (fun _ _ _ q => by cases q) (fun _ => rfl) (fun _ => rfl) (fun _ _ => rfl)
  | rev =>
    obtain ⟨y, k, p1, p2, p3, p, rfl, rfl⟩ := mRev_inv (show mRev x = some xs from h)
    obtain ⟨a, rfl, sa⟩ := sndL1 hl
    exact snd_plain (fun i q => by cases q) (pe_imp (pe_revL sa.P) (un_red v_rev)) (fun _ => rfl) (fun _ _ _ q => by cases q) (fun _ => rfl) (fun _ => rfl) (fun _ _ => rfl)
  | star1 =>
    obtain ⟨y, z, q, p, rfl, rfl⟩ := mStar_inv (show mStar x = some xs from h)
    obtain ⟨a, b, rfl, sa, sb⟩ := sndL2 hl
    exact snd_plain (fun i q => by cases q) (pe_imp (pe_lst (StX.pa_star sa.P (pa_cons sb.P pa_nil (sb.st [])))) star_red) (fun _ => rfl) (fun _ _ _ q => by cases q) (fun _ => rfl) (fun _ => rfl) (fun _ _ => rfl)
  | slc lo hi =>
    obtain ⟨y, p, q, h1⟩ := mSlc_inv (show mSlc lo hi x = some xs from h)
    rcases h1 with ⟨rfl, rfl, rfl, rfl⟩ | ⟨l, rfl, rfl, rfl, rfl⟩ | ⟨u, rfl, rfl, rfl, rfl⟩ | ⟨l, u, rfl, rfl, rfl, rfl⟩
    · obtain ⟨a, rfl, sa⟩ := sndL1 hl
      exact snd_plain (fun i q => by cases q) (pe_imp (pe_slice o_slc sa.P po_none po_none) slc_red0) (fun _ => rfl) (fun _ _ _ q => by cases q) (fun _ => rfl) (fun _ => rfl) (fun _ _ => rfl)
    · obtain ⟨a, b, rfl, sa, sb⟩ := sndL2 hl
      exact snd_plain (fun i q => by cases q) (pe_imp (pe_slice o_slc sa.P (po_some sb.P) po_none) slc_redL) (fun _ => rfl) (fun _ _ _ q => by cases q) (fun _ => rfl) (fun _ => rfl) (fun _ _ => rfl)
    · obtain ⟨a, b, rfl, sa, sb⟩ := sndL2 hl
      exact snd_plain (fun i q => by cases q) (pe_imp (pe_slice o_slc sa.P po_none (po_some sb.P)) slc_redU) (fun _ => rfl) (fun _ _ _ q => by cases q) (fun _ => rfl) (fun _ => rfl) (fun _ _ => rfl)
    · cases as with
      | nil => exact hl.elim
      | cons a r =>
        obtain ⟨sa, hl⟩ := hl
        obtain ⟨b, c, rfl, sb, sc'⟩ := sndL2 hl
        exact snd_plain (fun i q => by cases q) (pe_imp (pe_slice o_slc sa.P (po_some sb.P) (po_some sc'.P)) slc_redB) (fun _ => rfl) (fun _ _ _ q => by cases q) (fun _ => rfl) (fun _ => rfl) (fun _ _ => rfl)
end
end Z
/-! ZN: and, or, if .. else, chains, displays, calls, comprehensions; every expression that the check accepts. -/
namespace Z
open PySem L2 PySem.Spec PyProof.Rows

section
variable {X : Cx} {C : Cn} {sc : Scope} {fc : Str → Bool} {Φ : Fn} {e a b c : E} {as : Es} {x y z w : Expr} {xs : List Expr} {pos p : Pos} {f : Str} {K : PySem.W.Frag} {o : Op} {Hs H Hb : Hp} {L : Lab} {v : V} {d : D} {r : R}
theorem rel_H (s : Sub Hs H) (h : RelR K L Hb Hs H v r) : Rp K H v r.1 := by
  obtain ⟨d, o⟩ := r
  cases o with
  | own =>
    obtain ⟨fp, h1, _, _⟩ := h
    exact ow_rp s (fun _ _ => rfl) h1
  | top g =>
    obtain ⟨l, ws, ds, e1, e2, e3, _, _, e6⟩ := h
    have e1' : d = .list ds := e1
    subst e1'
    subst e2
    exact .lst (.inl e3) (rpa_mono (vh_h s) e6)
  | sh g => exact rp_mono (vh_h s) h
theorem rp_pk (h : Rp K H v d) : Pk K H H H v d := by
  cases d with
  | none => cases h; rfl
  | bool b => cases h; rfl
  | int i => cases h; rfl
  | str y => cases h; rfl
  | list ds => cases h with | lst h1 h2 => exact ⟨_, _, rfl, h1, h2⟩
  | tuple ds => cases h with | tup h1 h2 => exact ⟨_, _, rfl, h1, h2⟩
  | dict _ => cases h
theorem truV_rel (s : Sub Hs H) (h : RelR K L Hb Hs H v r) {t : Bool} (ht : truth r.1 = some t) : TruV K v H t := truV_of (Evl.Ex.refl _) (rp_pk (rel_H s h)) ht
theorem mBool_inv {op : BoolOp} (h : mBool op x = some (y, z)) : ∃ y0 rs p, x = .BoolOp op (y :: y0 :: rs) p ∧ ((rs = [] ∧ z = y0) ∨ (rs ≠ [] ∧ z = .BoolOp op (y0 :: rs) p)) := by
  unfold mBool at h
  split at h
  · rename_i op' x1 y1 rs p
    obtain ⟨e, q⟩ := ite_some h
    subst e
    cases q
    cases rs with
    | nil => exact ⟨_, _, _, rfl, .inl ⟨rfl, rfl⟩⟩
    | cons a b => exact ⟨_, _, _, rfl, .inr ⟨(by simp), rfl⟩⟩
  · cases h
theorem snd_and (h : mBool .And x = some (y, z)) (sa : Snd X Φ a y) (sb : Snd X Φ b z) : Snd X Φ (.and_ a b) x := by
  obtain ⟨y0, rs, p, rfl, hz⟩ := mBool_inv h
  have hb : PE X (.BoolOp .And (y0 :: rs) p) (rdE X.K (ev Φ b)) := by
    rcases hz with ⟨rfl, rfl⟩ | ⟨_, rfl⟩
    · exact pe_one sb.vE
    · exact sb.vE
  have hbT : PW X (.BoolOp .And (y0 :: rs) p) (rdT X.K (ev Φ b)) := by
    rcases hz with ⟨rfl, rfl⟩ | ⟨_, rfl⟩
    · exact pw_and1 sb.vT
    · exact sb.vB _ _ _ rfl
  have hE : PE X (.BoolOp .And (y :: y0 :: rs) p) (rdE X.K (ev Φ (.and_ a b))) := pe_imp (pe_andT sa.vE hb) fun σ H Q q => by
    obtain ⟨B, Hs, L, ρ, r, w, hf, hq⟩ := q
    unfold ev at hf
    cases ha : ev Φ a ρ with
    | none => rw [ha] at hf; cases hf
    | some ra =>
      rw [ha] at hf
      simp only at hf
      cases ht : truth ra.1 with
      | none => rw [ht] at hf; cases hf
      | some t =>
        rw [ht] at hf
        refine ⟨B, Hs, L, ρ, ra, w, ha, fun v Hs1 H1 t1 rel => ⟨t, truV_rel t1.sh rel ht, ?_⟩⟩
        cases t with
        | true =>
          rw [if_pos rfl]
          exact ⟨B, Hs1, L, ρ, r, w.step t1, hf, fun v2 Hs2 H2 t2 rel2 => hq v2 Hs2 H2 (t1.trans t2) (rel2.base t1.h)⟩
        | false =>
          rw [if_neg (by decide)]
          cases hf
          exact hq v Hs1 H1 t1 rel
  have hT : PW X (.BoolOp .And (y :: y0 :: rs) p) (rdT X.K (ev Φ (.and_ a b))) := pw_imp (pw_and sa.vT hbT) fun σ H Q q => by
    obtain ⟨B, Hs, L, ρ, r, k, w, hf, hk, hq⟩ := q
    unfold ev at hf
    cases ha : ev Φ a ρ with
    | none => rw [ha] at hf; cases hf
    | some ra =>
      rw [ha] at hf
      simp only at hf
      cases ht : truth ra.1 with
      | none => rw [ht] at hf; cases hf
      | some t =>
        rw [ht] at hf
        refine ⟨B, Hs, L, ρ, ra, t, w, ha, ht, fun Hs1 H1 t1 => ?_⟩
        cases t with
        | true =>
          rw [if_pos rfl]
          exact ⟨B, Hs1, L, ρ, r, k, w.step t1, hf, hk, fun Hs2 H2 t2 => hq Hs2 H2 (t1.trans t2)⟩
        | false =>
          rw [if_neg (by decide)]
          cases hf
          rw [ht] at hk
          cases hk
          exact hq Hs1 H1 t1
  exact ⟨hE, toW (fun i q => by cases q) hE, hT.pt, fun _ _ _ _ => hT, fun _ => rfl, fun _ => rfl, fun _ _ => rfl⟩
theorem snd_or (h : mBool .Or x = some (y, z)) (sa : Snd X Φ a y) (sb : Snd X Φ b z) : Snd X Φ (.or_ a b) x := by
  obtain ⟨y0, rs, p, rfl, hz⟩ := mBool_inv h
  have hb : PE X (.BoolOp .Or (y0 :: rs) p) (rdE X.K (ev Φ b)) := by
    rcases hz with ⟨rfl, rfl⟩ | ⟨_, rfl⟩
    · exact pe_one sb.vE
    · exact sb.vE
  have hbT : PW X (.BoolOp .Or (y0 :: rs) p) (rdT X.K (ev Φ b)) := by
    rcases hz with ⟨rfl, rfl⟩ | ⟨_, rfl⟩
    · exact pw_or1 sb.vT
    · exact sb.vB _ _ _ rfl
  have hE : PE X (.BoolOp .Or (y :: y0 :: rs) p) (rdE X.K (ev Φ (.or_ a b))) := pe_imp (pe_orT sa.vE hb) fun σ H Q q => by
    obtain ⟨B, Hs, L, ρ, r, w, hf, hq⟩ := q
    unfold ev at hf
    cases ha : ev Φ a ρ with
    | none => rw [ha] at hf; cases hf
    | some ra =>
      rw [ha] at hf
      simp only at hf
      cases ht : truth ra.1 with
      | none => rw [ht] at hf; cases hf
      | some t =>
        rw [ht] at hf
        refine ⟨B, Hs, L, ρ, ra, w, ha, fun v Hs1 H1 t1 rel => ⟨t, truV_rel t1.sh rel ht, ?_⟩⟩
        cases t with
        | false =>
          rw [if_neg (by decide)]
          exact ⟨B, Hs1, L, ρ, r, w.step t1, hf, fun v2 Hs2 H2 t2 rel2 => hq v2 Hs2 H2 (t1.trans t2) (rel2.base t1.h)⟩
        | true =>
          rw [if_pos rfl]
          cases hf
          exact hq v Hs1 H1 t1 rel
  have hT : PW X (.BoolOp .Or (y :: y0 :: rs) p) (rdT X.K (ev Φ (.or_ a b))) := pw_imp (pw_or sa.vT hbT) fun σ H Q q => by
    obtain ⟨B, Hs, L, ρ, r, k, w, hf, hk, hq⟩ := q
    unfold ev at hf
    cases ha : ev Φ a ρ with
    | none => rw [ha] at hf; cases hf
    | some ra =>
      rw [ha] at hf
      simp only at hf
      cases ht : truth ra.1 with
      | none => rw [ht] at hf; cases hf
      | some t =>
        rw [ht] at hf
        refine ⟨B, Hs, L, ρ, ra, t, w, ha, ht, fun Hs1 H1 t1 => ?_⟩
        cases t with
        | false =>
          rw [if_neg (by decide)]
          exact ⟨B, Hs1, L, ρ, r, k, w.step t1, hf, hk, fun Hs2 H2 t2 => hq Hs2 H2 (t1.trans t2)⟩
        | true =>
          rw [if_pos rfl]
          cases hf
          rw [ht] at hk
          cases hk
          exact hq Hs1 H1 t1
  exact ⟨hE, toW (fun i q => by cases q) hE, hT.pt, fun _ _ _ _ => hT, fun _ => rfl, fun _ => rfl, fun _ _ => rfl⟩
theorem pt_if {tc ta tb : TT} (hc : PT X x tc) (ha : PT X y ta) (hb : PT X z tb) : PT X (.IfExp x y z pos) (fun σ H Q => tc σ H fun k H1 => if k = true then ta σ H1 Q else tb σ H1 Q) := by
  refine ⟨fun pins s σ H Q I h => PyProof.Rows.isTrue_IfExp (thn (hc.run pins s σ H _ I h) fun k s1 ⟨H1, I1, q1⟩ => ?_)⟩
  cases k with
  | true => exact ha.run pins s1 σ H1 Q I1 q1
  | false => exact hb.run pins s1 σ H1 Q I1 q1
theorem snd_ife (h : mIf x = some (y, z, w)) (sc' : Snd X Φ c y) (sa : Snd X Φ a z) (sb : Snd X Φ b w) : Snd X Φ (.ife c a b) x := by
  unfold mIf at h
  split at h
  · rename_i t0 b0 o0 p0
    cases h
    have hE : PE X (.IfExp y z w p0) (rdE X.K (ev Φ (.ife c a b))) := pe_imp (pe_ifExp sc'.vT sa.vE sb.vE) fun σ H Q q => by
      obtain ⟨B, Hs, L, ρ, r, w, hf, hq⟩ := q
      unfold ev at hf
      cases ha : ev Φ c ρ with
      | none => rw [ha] at hf; cases hf
      | some ra =>
        rw [ha] at hf
        simp only at hf
        cases ht : truth ra.1 with
        | none => rw [ht] at hf; cases hf
        | some t =>
          rw [ht] at hf
          refine ⟨B, Hs, L, ρ, ra, t, w, ha, ht, fun Hs1 H1 t1 => ?_⟩
          cases t with
          | true =>
            rw [if_pos rfl]
            exact ⟨B, Hs1, L, ρ, r, w.step t1, hf, fun v2 Hs2 H2 t2 rel2 => hq v2 Hs2 H2 (t1.trans t2) (rel2.base t1.h)⟩
          | false =>
            rw [if_neg (by decide)]
            exact ⟨B, Hs1, L, ρ, r, w.step t1, hf, fun v2 Hs2 H2 t2 rel2 => hq v2 Hs2 H2 (t1.trans t2) (rel2.base t1.h)⟩
    refine ⟨hE, toW (fun i q => by cases q) hE, pt_imp (pt_if sc'.vT sa.vT sb.vT) fun σ H Q q => ?_, fun _ _ _ q => (by cases q), fun _ => rfl, fun _ => rfl, fun _ _ => rfl⟩
    obtain ⟨B, Hs, L, ρ, r, k, w, hf, hk, hq⟩ := q
    unfold ev at hf
    cases ha : ev Φ c ρ with
    | none => rw [ha] at hf; cases hf
    | some ra =>
      rw [ha] at hf
      simp only at hf
      cases ht : truth ra.1 with
      | none => rw [ht] at hf; cases hf
      | some t =>
        rw [ht] at hf
        refine ⟨B, Hs, L, ρ, ra, t, w, ha, ht, fun Hs1 H1 t1 => ?_⟩
        cases t with
        | true =>
          rw [if_pos rfl]
          exact ⟨B, Hs1, L, ρ, r, k, w.step t1, hf, hk, fun Hs2 H2 t2 => hq Hs2 H2 (t1.trans t2)⟩
        | false =>
          rw [if_neg (by decide)]
          exact ⟨B, Hs1, L, ρ, r, k, w.step t1, hf, hk, fun Hs2 H2 t2 => hq Hs2 H2 (t1.trans t2)⟩
  · cases h

/-! ### chains -/
structure Chn (X : Cx) (Φ : Fn) (r : Ch) (cs : List CmpOp) (zs : List Expr) : Prop where
  val : ∀ (pos : Pos) (pins : List (Addr × Obj)) (s : Shared) (σ : L2.St) (H : Hp) (B : Bas) (Hs : Hp) (L : Lab) (ρ : Rho) (v : V) (u : Value) (y : D) (gy : List Tag) (res : R) (Q : VK), Inv X pins σ H s → RelV v u → WF X.K B Hs H L σ ρ →
    Pk X.K Hs H (VH L gy Hs H) v y → evch Φ r y ρ = some res → (∀ v' Hs' H', Step Hs H Hs' H' → RelR X.K L H Hs' H' v' res → Q v' H') →
    wpAny (model X.prog X.w) X.A (compareChain pos u cs (evalEach zs X.env)) (EP X pins σ Q) X.xe s
  tst : ∀ (pos : Pos) (pins : List (Addr × Obj)) (s : Shared) (σ : L2.St) (H : Hp) (B : Bas) (Hs : Hp) (L : Lab) (ρ : Rho) (v : V) (u : Value) (y : D) (gy : List Tag) (res : R) (k : Bool) (Q : Bool → Hp → Prop), Inv X pins σ H s → RelV v u → WF X.K B Hs H L σ ρ →
    Pk X.K Hs H (VH L gy Hs H) v y → evch Φ r y ρ = some res → truth res.1 = some k → (∀ Hs' H', Step Hs H Hs' H' → Q k H') →
    wpAny (model X.prog X.w) X.A (testChain pos u cs (evalEach zs X.env)) (TP X pins σ Q) X.xe s
  ne : ∃ c cs' z zs', cs = c :: cs' ∧ zs = z :: zs'
  lm : lastMarks cs zs = false
/-- one link: the left value, the operator, the right expression -/
theorem link {cop : CmpOp} {pins : List (Addr × Obj)} {s : Shared} {σ : L2.St} {B : Bas} {ρ : Rho} {u : Value} {y : D} {gy : List Tag} {rz : R} {d' : D} {t : Bool} {Qf : Value → Value → Shared → Prop} (hc : cmpOf o = some cop) (hu : X.A.units + 66 < cLine) (sz : Snd X Φ c z)
    (I : Inv X pins σ H s) (rv : RelV v u) (wf : WF X.K B Hs H L σ ρ) (p : Pk X.K Hs H (VH L gy Hs H) v y) (he : ev Φ c ρ = some rz) (hf : opF o [y, rz.1] = some (d', t))
    (hQ : ∀ (bb : Bool) (v2 : V) (u2 : Value) (s2 : Shared) (Hs2 H2 : Hp), d' = .bool bb → Step Hs H Hs2 H2 → Inv X pins σ H2 s2 → RelV v2 u2 → Pk X.K Hs2 H2 (VH L (pkT c ρ rz.2.tags) Hs2 H2) v2 rz.1 → Qf u2 (.bool bb) s2) :
    wpAny (model X.prog X.w) X.A (eval z X.env) (fun u2 s1 => wpAny (model X.prog X.w) X.A (compareOp cop u u2) (fun cv s2 => Qf u2 cv s2) X.xe s1) X.xe s := by
  obtain ⟨rfl, bb, rfl⟩ := opF_bool (isCmp_or (cmpOf_is hc)) hf
  refine thn (sz.P.run pins s σ H (fun v2 H2 => ∃ Hs2, Step Hs H Hs2 H2 ∧ Pk X.K Hs2 H2 (VH L (pkT c ρ rz.2.tags) Hs2 H2) v2 rz.1) I ⟨B, Hs, L, ρ, rz, wf, he, fun v2 Hs2 H2 t2 p2 => ⟨Hs2, t2, p2⟩⟩) fun u2 s1 ⟨v2, H2, I2, r2, Hs2, t2, p2⟩ => ?_
  have l2 := wf.lok.step t2
  refine thn (o_cmp (X := X) hc hu pins s1 σ H2 v v2 u u2 (fun w' H3 => w' = .bl bb ∧ H3 = H2) I2 rv r2 ⟨Hs2, _, _, y, rz.1, bb, false, t2.sh, vh_h t2.sh, vh_h t2.sh, pk_mono t2.s t2.h (vh_step wf.lok t2) p, p2, hf, rfl, rfl⟩) fun cv s2 ⟨w', H3, I3, r3, e1, e2⟩ => ?_
  subst e1
  subst e2
  have e3 : cv = .bool bb := r3
  subst e3
  exact hQ bb v2 u2 s2 Hs2 _ rfl t2 I3 r2 p2
theorem ch_one {cop : CmpOp} (hc : cmpOf o = some cop) (hu : X.A.units + 66 < cLine) (sz : Snd X Φ c z) : Chn X Φ (.one o c) [cop] [z] := by
  refine ⟨?_, ?_, ⟨_, _, _, _, rfl, rfl⟩, sz.be cop⟩
  · intro pos pins s σ H B Hs L ρ v u y gy res Q I rv wf p hf hQ
    unfold evch at hf
    cases he : ev Φ c ρ with
    | none => rw [he] at hf; cases hf
    | some rz =>
      rw [he] at hf
      simp only at hf
      cases ho : opF o [y, rz.1] with
      | none => rw [ho] at hf; cases hf
      | some q =>
        obtain ⟨d', t⟩ := q
        rw [ho] at hf
        cases hf
        refine chain_last (link (Qf := fun _ cv s2 => EP X pins σ Q cv s2) hc hu sz I rv wf p he ho fun bb v2 u2 s2 Hs2 H2 e t2 I2 r2 p2 => ?_)
        subst e
        exact ⟨.bl bb, H2, I2, rfl, hQ _ Hs2 H2 t2 (relS (.bl bb) (wf.lok.step t2))⟩
  · intro pos pins s σ H B Hs L ρ v u y gy res k Q I rv wf p hf hk hQ
    unfold evch at hf
    cases he : ev Φ c ρ with
    | none => rw [he] at hf; cases hf
    | some rz =>
      rw [he] at hf
      simp only at hf
      cases ho : opF o [y, rz.1] with
      | none => rw [ho] at hf; cases hf
      | some q =>
        obtain ⟨d', t⟩ := q
        rw [ho] at hf
        cases hf
        refine test_last (link (Qf := fun _ cv s2 => wpAny (model X.prog X.w) X.A (truthy cv) (TP X pins σ Q) X.xe s2) hc hu sz I rv wf p he ho fun bb v2 u2 s2 Hs2 H2 e t2 I2 r2 p2 => ?_)
        subst e
        have e2 : bb = k := Option.some.inj hk
        subst e2
        exact wpAny_truthy_bool ⟨H2, I2, hQ Hs2 H2 t2⟩
theorem ch_more {cop : CmpOp} {r : Ch} {cs : List CmpOp} {zs : List Expr} (hc : cmpOf o = some cop) (hu : X.A.units + 66 < cLine) (sz : Snd X Φ c z) (ih : Chn X Φ r cs zs) : Chn X Φ (.more o c r) (cop :: cs) (z :: zs) := by
  obtain ⟨c1, cs1, z1, zs1, rfl, rfl⟩ := ih.ne
  refine ⟨?_, ?_, ⟨_, _, _, _, rfl, rfl⟩, ih.lm⟩
  · intro pos pins s σ H B Hs L ρ v u y gy res Q I rv wf p hf hQ
    unfold evch at hf
    cases he : ev Φ c ρ with
    | none => rw [he] at hf; cases hf
    | some rz =>
      rw [he] at hf
      simp only at hf
      cases ho : opF o [y, rz.1] with
      | none => rw [ho] at hf; cases hf
      | some q =>
        obtain ⟨d', t⟩ := q
        rw [ho] at hf
        refine chain_link (link (Qf := fun u2 cv s2 => wpAny (model X.prog X.w) X.A (truthy cv) (fun t s₃ => if t = true then wpAny (model X.prog X.w) X.A (compareChain pos u2 (c1 :: cs1) (eval z1 X.env :: evalEach zs1 X.env)) (EP X pins σ Q) X.xe s₃ else EP X pins σ Q cv s₃) X.xe s2) hc hu sz I rv wf p he ho fun bb v2 u2 s2 Hs2 H2 e t2 I2 r2 p2 => ?_)
        subst e
        refine wpAny_truthy_bool ?_
        cases bb with
        | true =>
          rw [if_pos rfl]
          exact ih.val pos pins s2 σ H2 B Hs2 L ρ v2 u2 rz.1 _ res Q I2 r2 (wf.step t2) p2 hf fun v' Hs' H' t3 rel => hQ v' Hs' H' (t2.trans t3) (rel.base t2.h)
        | false =>
          rw [if_neg (by decide)]
          cases hf
          exact ⟨.bl false, H2, I2, rfl, hQ _ Hs2 H2 t2 (Rp.bl false)⟩
  · intro pos pins s σ H B Hs L ρ v u y gy res k Q I rv wf p hf hk hQ
    unfold evch at hf
    cases he : ev Φ c ρ with
    | none => rw [he] at hf; cases hf
    | some rz =>
      rw [he] at hf
      simp only at hf
      cases ho : opF o [y, rz.1] with
      | none => rw [ho] at hf; cases hf
      | some q =>
        obtain ⟨d', t⟩ := q
        rw [ho] at hf
        refine test_link (link (Qf := fun u2 cv s2 => wpAny (model X.prog X.w) X.A (truthy cv) (fun t s₃ => if t = true then wpAny (model X.prog X.w) X.A (testChain pos u2 (c1 :: cs1) (eval z1 X.env :: evalEach zs1 X.env)) (TP X pins σ Q) X.xe s₃ else TP X pins σ Q false s₃) X.xe s2) hc hu sz I rv wf p he ho fun bb v2 u2 s2 Hs2 H2 e t2 I2 r2 p2 => ?_)
        subst e
        refine wpAny_truthy_bool ?_
        cases bb with
        | true =>
          rw [if_pos rfl]
          exact ih.tst pos pins s2 σ H2 B Hs2 L ρ v2 u2 rz.1 _ res k Q I2 r2 (wf.step t2) p2 hf hk fun Hs' H' t3 => hQ Hs' H' (t2.trans t3)
        | false =>
          rw [if_neg (by decide)]
          cases hf
          cases hk
          exact ⟨H2, I2, hQ Hs2 H2 t2⟩
theorem snd_chain {r : Ch} {cs : List CmpOp} {zs : List Expr} (hu : X.A.units + 66 < cLine) (h : mChain o x = some (y, z, cs, zs)) (sa : Snd X Φ a y) (sb : Snd X Φ b z) (hr : Chn X Φ r cs zs) : Snd X Φ (.chain a o b r) x := by
  unfold mChain at h
  split at h
  · rename_i x0 c0 c2 cs0 y0 y2 ys0 p0
    obtain ⟨hc, q⟩ := ite_some h
    cases q
    have hE : PE X (.Compare y (c0 :: c2 :: cs0) (z :: y2 :: ys0) p0) (rdE X.K (ev Φ (.chain a o b r))) := by
      refine ⟨fun pins s σ H Q I q => ?_⟩
      obtain ⟨B, Hs, L, ρ, res, wf, hf, hq⟩ := q
      unfold ev at hf
      cases ha : ev Φ a ρ with
      | none => rw [ha] at hf; cases hf
      | some ra =>
        rw [ha] at hf
        simp only at hf
        cases hb : ev Φ b ρ with
        | none => rw [hb] at hf; cases hf
        | some rb =>
          rw [hb] at hf
          simp only at hf
          cases ho : opF o [ra.1, rb.1] with
          | none => rw [ho] at hf; cases hf
          | some q =>
            obtain ⟨d', t⟩ := q
            rw [ho] at hf
            refine Compare_chain (thn (sa.P.run pins s σ H (fun v1 H1 => ∃ Hs1, Step Hs H Hs1 H1 ∧ Pk X.K Hs1 H1 (VH L (pkT a ρ ra.2.tags) Hs1 H1) v1 ra.1) I ⟨B, Hs, L, ρ, ra, wf, ha, fun v1 Hs1 H1 t1 p1 => ⟨Hs1, t1, p1⟩⟩) fun u1 s1 ⟨v1, H1, I1, r1, Hs1, t1, p1⟩ => ?_) hr.lm
            refine chain_link (link (Qf := fun u2 cv s2 => wpAny (model X.prog X.w) X.A (truthy cv) (fun t s₃ => if t = true then wpAny (model X.prog X.w) X.A (compareChain p0 u2 (c2 :: cs0) (eval y2 X.env :: evalEach ys0 X.env)) (EP X pins σ Q) X.xe s₃ else EP X pins σ Q cv s₃) X.xe s2) hc hu sb I1 r1 (wf.step t1) p1 hb ho fun bb v2 u2 s2 Hs2 H2 e t2 I2 r2 p2 => ?_)
            subst e
            refine wpAny_truthy_bool ?_
            cases bb with
            | true =>
              rw [if_pos rfl]
              exact hr.val p0 pins s2 σ H2 B Hs2 L ρ v2 u2 rb.1 _ res Q I2 r2 ((wf.step t1).step t2) p2 hf fun v' Hs' H' t3 rel => hq v' Hs' H' ((t1.trans t2).trans t3) (rel.base (t1.trans t2).h)
            | false =>
              rw [if_neg (by decide)]
              cases hf
              exact ⟨.bl false, H2, I2, rfl, hq _ Hs2 H2 (t1.trans t2) (Rp.bl false)⟩
    refine ⟨hE, toW (fun i q => by cases q) hE, ?_, fun _ _ _ q => (by cases q), fun _ => rfl, fun _ => rfl, fun _ _ => rfl⟩
    refine ⟨fun pins s σ H Q I q => ?_⟩
    obtain ⟨B, Hs, L, ρ, res, k, wf, hf, hk, hq⟩ := q
    unfold ev at hf
    cases ha : ev Φ a ρ with
    | none => rw [ha] at hf; cases hf
    | some ra =>
      rw [ha] at hf
      simp only at hf
      cases hb : ev Φ b ρ with
      | none => rw [hb] at hf; cases hf
      | some rb =>
        rw [hb] at hf
        simp only at hf
        cases ho : opF o [ra.1, rb.1] with
        | none => rw [ho] at hf; cases hf
        | some q =>
          obtain ⟨d', t⟩ := q
          rw [ho] at hf
          refine isTrue_chain (thn (sa.P.run pins s σ H (fun v1 H1 => ∃ Hs1, Step Hs H Hs1 H1 ∧ Pk X.K Hs1 H1 (VH L (pkT a ρ ra.2.tags) Hs1 H1) v1 ra.1) I ⟨B, Hs, L, ρ, ra, wf, ha, fun v1 Hs1 H1 t1 p1 => ⟨Hs1, t1, p1⟩⟩) fun u1 s1 ⟨v1, H1, I1, r1, Hs1, t1, p1⟩ => ?_) hr.lm
          refine test_link (link (Qf := fun u2 cv s2 => wpAny (model X.prog X.w) X.A (truthy cv) (fun t s₃ => if t = true then wpAny (model X.prog X.w) X.A (testChain p0 u2 (c2 :: cs0) (eval y2 X.env :: evalEach ys0 X.env)) (TP X pins σ Q) X.xe s₃ else TP X pins σ Q false s₃) X.xe s2) hc hu sb I1 r1 (wf.step t1) p1 hb ho fun bb v2 u2 s2 Hs2 H2 e t2 I2 r2 p2 => ?_)
          subst e
          refine wpAny_truthy_bool ?_
          cases bb with
          | true =>
            rw [if_pos rfl]
            exact hr.tst p0 pins s2 σ H2 B Hs2 L ρ v2 u2 rb.1 _ res k Q I2 r2 ((wf.step t1).step t2) p2 hf hk fun Hs' H' t3 => hq Hs' H' ((t1.trans t2).trans t3)
          | false =>
            rw [if_neg (by decide)]
            cases hf
            cases hk
            exact ⟨H2, I2, hq Hs2 H2 (t1.trans t2)⟩
  · cases h
end
end Z
/-! ZP: displays, calls, targets, what is walked, comprehensions; every expression that the check accepts. -/
namespace Z
open PySem L2 PySem.Spec PyProof.Rows

section
variable {X : Cx} {C : Cn} {sc : Scope} {fc : Str → Bool} {Φ : Fn} {e a b c : E} {as : Es} {x y z w tg : Expr} {xs : List Expr} {pos p : Pos} {f : Str} {K : PySem.W.Frag}
theorem snd_args : ∀ (as : Es) (xs : List Expr), SndL X Φ as xs → PA X xs (rdA X.K (evs Φ as))
  | .nil, [], _ => args_nil
  | .nil, _ :: _, h => h.elim
  | .cons _ _, [], h => h.elim
  | .cons e r, x :: xs, h => args_cons h.1.vE (snd_args r xs h.2) (h.1.st xs)
theorem snd_noStar : ∀ (as : Es) (xs : List Expr), SndL X Φ as xs → (starEach xs X.env).any (·.1) = false
  | .nil, [], _ => rfl
  | .nil, _ :: _, h => h.elim
  | .cons _ _, [], h => h.elim
  | .cons e r, x :: xs, h => by
    rw [h.1.st xs, List.any_cons, snd_noStar r xs h.2]
    rfl
theorem backTo_any (pos : Pos) : ∀ (xs : List (Bool × Sem Value)), xs.any (·.1) = false → (backTo pos xs).any (·.1) = false := by
  intro xs h
  unfold backTo
  rw [List.any_map]
  exact h
theorem snd_lst (h : mList x = some xs) (hl : SndL X Φ as xs) : Snd X Φ (.lst as) x := by
  unfold mList at h
  split at h
  · cases h
    exact snd_plain (fun i q => by cases q) (list_disp (snd_args _ _ hl)) (fun _ => rfl) (fun _ _ _ q => by cases q) (fun _ => rfl) (fun _ => rfl) (fun _ _ => rfl)
  · cases h
theorem snd_tup (h : mTup x = some xs) (hl : SndL X Φ as xs) : Snd X Φ (.tup as) x := by
  unfold mTup at h
  split at h
  · cases h
    exact snd_plain (fun i q => by cases q) (tup_disp (snd_args _ _ hl)) (fun _ => rfl) (fun _ _ _ q => by cases q) (fun _ => rfl) (fun _ => rfl) (fun _ _ => rfl)
  · cases h
theorem snd_call {j : Nat} (o : XOk X C sc fc Φ) (h : mFn C sc j x = some xs) (hl : SndL X Φ as xs) : Snd X Φ (.call j as) x := by
  unfold mFn at h
  split at h
  · rename_i f0 q0 xs0 kw0 p0
    split at h
    · rename_i y n e
      obtain ⟨⟨e1, e2, e3, e4⟩, q⟩ := ite_some h
      subst e1 q
      rw [noKw_inv e2]
      obtain ⟨n1, n2, n3⟩ := okN_of e4
      obtain ⟨f, fd, ps, k, m1, m2, m3, m4, m5, m6⟩ := o.calls j _ _ e
      refine snd_plain (fun i q => by cases q) ?_ (fun _ => rfl) (fun _ _ _ q => by cases q) (fun _ => rfl) (fun _ => rfl) (fun _ _ => rfl)
      cases xs0 with
      | nil =>
        cases as with
        | cons _ _ => exact hl.elim
        | nil =>
          refine pe_imp (pe_callG0 m5 o.gu m4 (gl_of o e3) m1 m2 m3 n1) fun σ H Q q => ?_
          obtain ⟨B, Hs, L, ρ, rs, w, hf, hq⟩ := call_red (n := n) m6 q
          unfold evs at hf
          cases hf
          exact hq [] Hs H (Step.refl w.lok.sh) .nil
      | cons y ys =>
        cases as with
        | nil => exact hl.elim
        | cons a r =>
          exact pe_imp (pe_callG m5 o.gu m4 (gl_of o e3) m1 m2 m3 (args_sh (snd_args _ _ hl)) n1 (hl.1.st ys) (backTo_any _ _ (snd_noStar r ys hl.2))) fun σ H Q q => call_red m6 q
    · cases h
  · cases h

/-! ### targets -/
theorem loc_of {fc : Str → Bool} (hs : X.env.scope = sc) (hf : X.fn = fc) (h : (match sc.names.lookup f with | some .local => true | some .cell => fc f | _ => false) = true) : Loc X.env.scope f ∧ (X.fn f = true ∨ X.env.scope.names.lookup f = some .local) := by
  rw [hs, hf]
  split at h
  · rename_i e
    exact ⟨.inl e, .inr e⟩
  · rename_i e
    exact ⟨.inr e, .inl h⟩
  · cases h
mutual
theorem chkP_ok (hc : X.calm = true) (hN : X.N.Nodup) (hs : X.env.scope = sc) (hf : X.fn = fc) : ∀ (p : Pat) (x : Expr), chkP X.N sc fc p x = true → PG X x (rdG X.K p) ∧ ∀ es, assignEach (x :: es) X.env = (false, assign x X.env) :: assignEach es X.env
  | .nm i, x, h => by
    unfold chkP at h
    split at h
    · rename_i i0 y pos e0
      cases e0
      rw [Bool.and_eq_true, decide_eq_true_eq] at h
      obtain ⟨l1, l2⟩ := loc_of hs hf h.2
      exact ⟨tg_nm (pg_name hN h.1 l1 l2), fun _ => rfl⟩
    · rename_i e0
      cases e0
    · cases h
  | .tp ps, x, h => by
    unfold chkP at h
    split at h
    · rename_i e0
      cases e0
    · rename_i ps0 es k pos e0
      cases e0
      obtain ⟨q1, q2, q3⟩ := chkPs_ok hc hN hs hf ps es h
      exact ⟨tg_tp rfl hc q1 q2 q3, fun _ => rfl⟩
    · cases h
theorem chkPs_ok (hc : X.calm = true) (hN : X.N.Nodup) (hs : X.env.scope = sc) (hf : X.fn = fc) : ∀ (ps : Pats) (xs : List Expr), chkPs X.N sc fc ps xs = true → PGs X xs (rdGs X.K ps) ∧ (assignEach xs X.env).length = psLen ps ∧ (assignEach xs X.env).findIdx? (·.1) = none
  | .nil, [], _ => ⟨tgs_nil, rfl, rfl⟩
  | .nil, _ :: _, h => by unfold chkPs at h; cases h
  | .cons _ _, [], h => by unfold chkPs at h; cases h
  | .cons p r, x :: xs, h => by
    unfold chkPs at h
    rw [Bool.and_eq_true] at h
    obtain ⟨p1, p2⟩ := chkP_ok hc hN hs hf p x h.1
    obtain ⟨q1, q2, q3⟩ := chkPs_ok hc hN hs hf r xs h.2
    refine ⟨tgs_cons p1 q1 (by rw [p2 xs]; rfl), ?_, ?_⟩
    · rw [p2 xs, List.length_cons, q2]; rfl
    · rw [p2 xs, List.findIdx?_cons, q3]; rfl
end

/-! ### every expression that the check accepts -/
theorem isTup_inv (h : isTup x = true) : ∃ es k q, x = .Tuple es k q := by
  unfold isTup at h
  split at h
  · exact ⟨_, _, _, rfl⟩
  · cases h
theorem XOk.blk (o : XOk X C sc fc Φ) (s : Shared) (H : Hp) (scope : Scope) (D : Addr) (cl : List (Str × Addr)) (fp : List Addr) :
    XOk (X.blk s H scope (compEnvC scope cl D X.env) fp) C (L2.relS scope sc) (fun n => scope.names.lookup n == some .cell) Φ :=
  ⟨o.calm, o.N, o.nd, by show L2.relS scope X.env.scope = _; rw [o.sc], rfl, o.bl, o.gc, o.cs, o.gu, o.un, o.calls⟩
theorem snd_lc {vs : List Nat} {elt : E} {p : Pat} {it : It} {ifs : Es} {ie : Expr} {fs : List Expr} {scope : Scope} (o : XOk X C sc fc Φ) (h : mLc x = some (y, tg, ie, fs, scope)) (hb : blkC C.N sc scope (ownOf C.N vs) = true) (hp : pIn vs p = true)
    (hg : chkP C.N (L2.relS scope sc) (fun n => scope.names.lookup n == some .cell) p tg = true) (hi : PI X tg ie (rdI X.K (evi Φ it))) (hf : ∀ x, foldedSetIterable ie X.env x = pure x)
    (ht : ∀ (X' : Cx), X'.K = X.K → XOk X' C (L2.relS scope sc) (fun n => scope.names.lookup n == some .cell) Φ → PTs X' fs (rdTs X'.K (evts Φ ifs)))
    (he : ∀ (X' : Cx), X'.K = X.K → XOk X' C (L2.relS scope sc) (fun n => scope.names.lookup n == some .cell) Φ → Snd X' Φ elt y) : Snd X Φ (.lc vs elt p it ifs) x := by
  unfold mLc at h
  split at h
  · rename_i x0 tg0 ie0 fs0 as0 scope0 pos0
    obtain ⟨z, q⟩ := ite_some h
    cases q
    subst z
    have hv : (ownOf C.N vs).map (·.2) = vs := by unfold ownOf; rw [List.map_map]; exact List.map_id vs
    have key := pe_lc (pos := pos0) (g := rdG X.K p) (tt := rdTs X.K (evts Φ ifs)) (te := rdE X.K (ev Φ elt)) o.calm (by rw [o.N]; exact o.nd) hi (by rw [o.N, o.sc]; exact blkOk_by hb)
      (fun s H D cl fp => (chkP_ok (X := X.blk s H scope (compEnvC scope cl D X.env) fp) o.calm (by show X.N.Nodup; rw [o.N]; exact o.nd) (o.blk s H scope D cl fp).sc rfl p tg (by show chkP X.N _ _ _ _ = true; rw [o.N]; exact hg)).1)
      (fun s H D cl fp => ht (X.blk s H scope (compEnvC scope cl D X.env) fp) rfl (o.blk s H scope D cl fp)) (fun s H D cl fp => (he (X.blk s H scope (compEnvC scope cl D X.env) fp) rfl (o.blk s H scope D cl fp)).vE) hf
    rw [hv] at key
    exact snd_plain (fun i q => by cases q) (pe_imp key fun σ H Q q => lc_red hp q) (fun _ => rfl) (fun _ _ _ q => by cases q) (fun _ => rfl) (fun _ => rfl) (fun _ _ => rfl)
  · cases h
theorem mRng (o : XOk X C sc fc Φ) (h : blt C sc f = true) : Gl X f ∧ X.mg f = none := let ⟨h1, h2, _, _⟩ := blt_of o h; ⟨h1, h2⟩
end
section
variable {C : Cn} {Φ : Fn}
mutual
theorem chkE_ok : ∀ (e : E) (X : Cx) (sc : Scope) (fc : Str → Bool) (x : Expr), XOk X C sc fc Φ → chkE C sc e x = true → Snd X Φ e x
  | .var i, X, sc, fc, x, o, h => by unfold chkE at h; exact snd_var o h
  | .lit d, X, sc, fc, x, o, h => by unfold chkE at h; exact snd_lit h
  | .con n d, X, sc, fc, x, o, h => by unfold chkE at h; exact snd_con o h
  | .op p as, X, sc, fc, x, o, h => by
    unfold chkE at h
    split at h
    · rename_i xs e
      exact snd_op o e (chkEs_ok as X sc fc xs o h)
    · cases h
  | .call j as, X, sc, fc, x, o, h => by
    unfold chkE at h
    split at h
    · rename_i xs e
      exact snd_call o e (chkEs_ok as X sc fc xs o h)
    · cases h
  | .and_ a b, X, sc, fc, x, o, h => by
    unfold chkE at h
    split at h
    · rename_i y z e
      rw [Bool.and_eq_true] at h
      exact snd_and e (chkE_ok a X sc fc y o h.1) (chkE_ok b X sc fc z o h.2)
    · cases h
  | .or_ a b, X, sc, fc, x, o, h => by
    unfold chkE at h
    split at h
    · rename_i y z e
      rw [Bool.and_eq_true] at h
      exact snd_or e (chkE_ok a X sc fc y o h.1) (chkE_ok b X sc fc z o h.2)
    · cases h
  | .ife c a b, X, sc, fc, x, o, h => by
    unfold chkE at h
    split at h
    · rename_i y z w e
      simp only [Bool.and_eq_true] at h
      exact snd_ife e (chkE_ok c X sc fc y o h.1.1) (chkE_ok a X sc fc z o h.1.2) (chkE_ok b X sc fc w o h.2)
    · cases h
  | .chain a p b r, X, sc, fc, x, o, h => by
    unfold chkE at h
    split at h
    · rename_i y z cs zs e
      simp only [Bool.and_eq_true] at h
      exact snd_chain o.un e (chkE_ok a X sc fc y o h.1.1) (chkE_ok b X sc fc z o h.1.2) (chkCh_ok r X sc fc cs zs o h.2)
    · cases h
  | .lst as, X, sc, fc, x, o, h => by
    unfold chkE at h
    split at h
    · rename_i xs e
      exact snd_lst e (chkEs_ok as X sc fc xs o h)
    · cases h
  | .tup as, X, sc, fc, x, o, h => by
    unfold chkE at h
    split at h
    · rename_i xs e
      exact snd_tup e (chkEs_ok as X sc fc xs o h)
    · cases h
  | .lc vs elt p it ifs, X, sc, fc, x, o, h => by
    unfold chkE at h
    split at h
    · rename_i y tg ie fs scope e
      simp only [Bool.and_eq_true] at h
      obtain ⟨⟨⟨⟨⟨h1, h2⟩, h3⟩, h4⟩, h5⟩, h6⟩ := h
      obtain ⟨i1, i2⟩ := chkI_ok it X sc fc ie tg o h4
      exact snd_lc o e h1 h2 h3 i1 (i2 X.env) (fun X' _ o' => chkT_ok ifs X' _ _ fs o' h5) (fun X' _ o' => chkE_ok elt X' _ _ y o' h6)
    · cases h
  | .lc2 _ _ _ _ _ _ _ _ _, X, sc, fc, x, o, h => by unfold chkE at h; cases h
theorem chkEs_ok : ∀ (as : Es) (X : Cx) (sc : Scope) (fc : Str → Bool) (xs : List Expr), XOk X C sc fc Φ → chkEs C sc as xs = true → SndL X Φ as xs
  | .nil, X, sc, fc, [], o, h => trivial
  | .nil, X, sc, fc, _ :: _, o, h => by unfold chkEs at h; cases h
  | .cons _ _, X, sc, fc, [], o, h => by unfold chkEs at h; cases h
  | .cons e r, X, sc, fc, x :: xs, o, h => by
    unfold chkEs at h
    rw [Bool.and_eq_true] at h
    exact ⟨chkE_ok e X sc fc x o h.1, chkEs_ok r X sc fc xs o h.2⟩
theorem chkCh_ok : ∀ (r : Ch) (X : Cx) (sc : Scope) (fc : Str → Bool) (cs : List CmpOp) (xs : List Expr), XOk X C sc fc Φ → chkCh C sc r cs xs = true → Chn X Φ r cs xs
  | .one p e, X, sc, fc, cs, xs, o, h => by
    unfold chkCh at h
    split at h
    · rename_i p0 e0 c x q
      cases q
      rw [Bool.and_eq_true, decide_eq_true_eq] at h
      exact ch_one h.1 o.un (chkE_ok e X sc fc x o h.2)
    · rename_i q
      cases q
    · cases h
  | .more p e r, X, sc, fc, cs, xs, o, h => by
    unfold chkCh at h
    split at h
    · rename_i q
      cases q
    · rename_i p0 e0 r0 c c2 cs x x2 xs q
      cases q
      simp only [Bool.and_eq_true, decide_eq_true_eq] at h
      exact ch_more h.1.1 o.un (chkE_ok e X sc fc x o h.1.2) (chkCh_ok r X sc fc _ _ o h.2)
    · cases h
theorem chkT_ok : ∀ (ts : Es) (X : Cx) (sc : Scope) (fc : Str → Bool) (fs : List Expr), XOk X C sc fc Φ → chkT C sc ts fs = true → PTs X fs (rdTs X.K (evts Φ ts))
  | .nil, X, sc, fc, [], o, h => tests_nil
  | .nil, X, sc, fc, _ :: _, o, h => by unfold chkT at h; cases h
  | .cons e .nil, X, sc, fc, [x], o, h => by
    unfold chkT at h
    rw [Bool.and_eq_true] at h
    exact tests_one (chkE_ok e X sc fc x o h.1).vT
  | .cons e (.cons _ _), X, sc, fc, [x], o, h => by
    unfold chkT at h
    rw [Bool.and_eq_true] at h
    cases h.2
  | .cons _ _, X, sc, fc, [], o, h => by unfold chkT at h; cases h
  | .cons _ _, X, sc, fc, _ :: _ :: _, o, h => by unfold chkT at h; cases h
theorem chkI_ok : ∀ (it : It) (X : Cx) (sc : Scope) (fc : Str → Bool) (x t : Expr), XOk X C sc fc Φ → chkI C sc it x t = true → PI X t x (rdI X.K (evi Φ it)) ∧ ∀ (env : Env) y, foldedSetIterable x env y = pure y
  | .ex e, X, sc, fc, x, t, o, h => by
    unfold chkI at h
    have s := chkE_ok e X sc fc x o h
    exact ⟨it_ex rfl s.vW, s.fo⟩
  | .rng1 a, X, sc, fc, x, t, o, h => by
    unfold chkI at h
    split at h
    · rename_i y e
      obtain ⟨q, p, rfl, h3⟩ := mCall_inv e
      obtain ⟨g1, g2⟩ := mRng o h3
      have s := chkE_ok a X sc fc y o h
      exact ⟨it_rng1 g1 g2 s.st s.P, fun _ _ => rfl⟩
    · cases h
  | .rng2 a b, X, sc, fc, x, t, o, h => by
    unfold chkI at h
    split at h
    · rename_i y z e
      obtain ⟨q, p, rfl, h3⟩ := mCall_inv e
      obtain ⟨g1, g2⟩ := mRng o h3
      rw [Bool.and_eq_true] at h
      have s := chkE_ok a X sc fc y o h.1
      have s2 := chkE_ok b X sc fc z o h.2
      exact ⟨it_rng2 g1 g2 s.st s2.st s.P s2.P, fun _ _ => rfl⟩
    · cases h
  | .rng3 a b c, X, sc, fc, x, t, o, h => by
    unfold chkI at h
    split at h
    · rename_i y z w e
      obtain ⟨q, p, rfl, h3⟩ := mCall_inv e
      obtain ⟨g1, g2⟩ := mRng o h3
      simp only [Bool.and_eq_true] at h
      have s := chkE_ok a X sc fc y o h.1.1
      have s2 := chkE_ok b X sc fc z o h.1.2
      have s3 := chkE_ok c X sc fc w o h.2
      exact ⟨it_rng3 g1 g2 s.st s2.st s3.st s.P s2.P s3.P, fun _ _ => rfl⟩
    · cases h
  | .enum a, X, sc, fc, x, t, o, h => by
    unfold chkI at h
    split at h
    · rename_i y e
      obtain ⟨q, p, rfl, h3⟩ := mCall_inv e
      obtain ⟨g1, g2⟩ := mRng o h3
      rw [Bool.and_eq_true] at h
      have s := chkE_ok a X sc fc y o h.2
      obtain ⟨es, k, tp, rfl⟩ := isTup_inv h.1
      exact ⟨it_enum rfl g1 g2 s.st s.vW, fun _ _ => rfl⟩
    · cases h
  | .zip a b, X, sc, fc, x, t, o, h => by
    unfold chkI at h
    split at h
    · rename_i y z e
      obtain ⟨q, p, rfl, h3⟩ := mCall_inv e
      obtain ⟨g1, g2⟩ := mRng o h3
      simp only [Bool.and_eq_true] at h
      have s := chkE_ok a X sc fc y o h.1.2
      have s2 := chkE_ok b X sc fc z o h.2
      obtain ⟨es, k, tp, rfl⟩ := isTup_inv h.1.1
      exact ⟨it_zip rfl g1 g2 s.st s2.st s.vW s2.vW, fun _ _ => rfl⟩
    · cases h
  | .revd a, X, sc, fc, x, t, o, h => by
    unfold chkI at h
    split at h
    · rename_i y e
      obtain ⟨q, p, rfl, h3⟩ := mCall_inv e
      obtain ⟨g1, g2⟩ := mRng o h3
      have s := chkE_ok a X sc fc y o h
      exact ⟨it_revd rfl g1 g2 s.st s.vW, fun _ _ => rfl⟩
    · cases h
end
end
end Z
/-! ZR: statements: what is stored, targets. -/
namespace Z
open PySem L2 PySem.Spec PyProof.Rows

theorem vh_nil {L : Lab} {Hs H : Hp} : VH L [] Hs H = Hs := funext fun a => by
  unfold VH
  split
  · rename_i e; exact e.symm
  · rename_i e
    rw [e]
    split
    · rename_i t _
      rw [if_neg (by cases t; simp [cov, hasT])]
    · rfl
/-- a value as it is stored: its lists fp are nobody's -/
def HoldF (K : PySem.W.Frag) (B : Bas) (Hs H : Hp) (L : Lab) (fp : List Addr) (v : V) (d : D) : Ow → Prop
  | .own => Ow1 K Hs H fp v d ∧ fp.Nodup ∧ ∀ a ∈ fp, B.H0 a = none ∧ Hs a = none ∧ L a = none
  | .top _ => ∃ a xs ds, fp = [a] ∧ d = .list ds ∧ v = .ref a ∧ H a = some (.lst xs) ∧ (B.H0 a = none ∧ Hs a = none ∧ L a = none) ∧ RpA K Hs xs ds
  | .sh _ => fp = [] ∧ Rp K Hs v d
def HoldFs (K : PySem.W.Frag) (B : Bas) (Hs H : Hp) (L : Lab) (fp : List Addr) (vs : List V) (ds : List D) : Ow → Prop
  | .own => OwA K Hs H fp vs ds ∧ fp.Nodup ∧ ∀ a ∈ fp, B.H0 a = none ∧ Hs a = none ∧ L a = none
  | _ => fp = [] ∧ RpA K Hs vs ds
def topB (d : D) (v : V) (b : Addr) : Bool := match d, v with
  | .list _, .ref a => decide (a = b)
  | _, _ => false
def setL (L : Lab) (i : Nat) (fp : List Addr) (d : D) (v : V) : Lab := fun b => if b ∈ fp then some (i, topB d v b) else L b
section
variable {K : PySem.W.Frag} {B : Bas} {Hs H Hs' H' Hb : Hp} {L L' : Lab} {σ σ' : L2.St} {ρ ρ' : Rho} {v : V} {vs : List V} {d : D} {ds : List D} {g : List Tag} {i : Nat} {o : Ow} {r : R} {fp : List Addr} {vh : List Tag → Hp}
theorem slot_lab (h : SlotR K Hs H L vh i v r) (e : ∀ b t, L b = some t → L' b = some t) : SlotR K Hs H L' vh i v r := by
  obtain ⟨d, o⟩ := r
  cases o with
  | own =>
    rcases h with ⟨a, xs, ds, fp, e1, e2, e3, e4, e5, e6, e7⟩ | ⟨e0, fp, e5, e6, e7⟩
    · exact .inl ⟨a, xs, ds, fp, e1, e2, e3, e _ _ e4, e5, e6, fun b hb => e _ _ (e7 b hb)⟩
    · exact .inr ⟨e0, fp, e5, e6, fun b hb => e _ _ (e7 b hb)⟩
  | top g =>
    obtain ⟨a, xs, ds, e1, e2, e3, e4, e5⟩ := h
    exact ⟨a, xs, ds, e1, e2, e3, e _ _ e4, e5⟩
  | sh g => exact h
theorem setL_out {b : Addr} (h : b ∉ fp) : setL L i fp d v b = L b := by unfold setL; rw [if_neg h]
theorem setL_in {b : Addr} (h : b ∈ fp) : setL L i fp d v b = some (i, topB d v b) := by unfold setL; rw [if_pos h]
theorem HoldF.cells (h : HoldF K B Hs H L fp v d o) : ∀ a ∈ fp, B.H0 a = none ∧ Hs a = none ∧ L a = none ∧ ∃ xs, H a = some (.lst xs) := by
  cases o with
  | own =>
    obtain ⟨h1, h2, h3⟩ := h
    exact fun a ha => ⟨(h3 a ha).1, (h3 a ha).2.1, (h3 a ha).2.2, Ow1.lists _ _ _ h1 a ha⟩
  | top g =>
    obtain ⟨a, xs, ds, e1, e2, e3, e4, e5, e6⟩ := h
    subst e1
    intro b hb
    have e : b = a := by simpa using hb
    subst e
    exact ⟨e5.1, e5.2.1, e5.2.2, xs, e4⟩
  | sh g =>
    obtain ⟨e, _⟩ := h
    subst e
    intro a ha
    cases ha
/-- a value into a slot -/
theorem WFv.putS (w : WFS K B Hs H L σ ρ) (h : HoldF K B Hs H L fp v d o) (i : Nat) : WFS K B Hs H (setL L i fp d v) (σ.set i (some v)) (ρ.set i (some (d, o))) := by
  have hc := h.cells
  have keep : ∀ b t, L b = some t → setL L i fp d v b = some t := fun b t e => by
    rw [setL_out fun z => by rw [(hc b z).2.2.1] at e; cases e]
    exact e
  refine ⟨w.ex0, w.ag0, w.exs0, w.sub0, ⟨w.lok.sh, fun a t e => ?_⟩, fun a t e => ?_, by rw [List.length_set, List.length_set]; exact w.len, fun j r hj => ?_⟩
  · by_cases z : a ∈ fp
    · exact ⟨(hc a z).2.1, (hc a z).2.2.2⟩
    · rw [setL_out z] at e
      exact w.lok.lab a t e
  · by_cases z : a ∈ fp
    · exact (hc a z).1
    · rw [setL_out z] at e
      exact w.lab0 a t e
  · rw [List.getElem?_set] at hj ⊢
    by_cases e : i = j
    · subst e
      rw [if_pos rfl] at hj ⊢
      by_cases hl : i < ρ.length
      · rw [if_pos hl] at hj
        rw [if_pos (by rw [w.len]; exact hl)]
        cases hj
        refine ⟨v, rfl, ?_⟩
        cases o with
        | own =>
          obtain ⟨h1, h2, h3⟩ := h
          by_cases hd : ∃ ds, d = .list ds
          · obtain ⟨ds, rfl⟩ := hd
            cases h1 with
            | lst q1 q2 =>
              rename_i a xs fp'
              have nd := List.nodup_cons.mp h2
              refine .inl ⟨a, xs, ds, fp', rfl, rfl, q1, ?_, q2, nd.2, fun b hb => ?_⟩
              · rw [setL_in List.mem_cons_self]
                show some (i, decide (a = a)) = _
                rw [decide_eq_true rfl]
              · rw [setL_in (List.mem_cons_of_mem _ hb)]
                show some (i, decide (a = b)) = _
                rw [decide_eq_false (fun z : a = b => nd.1 (by rw [z]; exact hb))]
          · refine .inr ⟨fun ds z => hd ⟨ds, z⟩, fp, h1, h2, fun b hb => ?_⟩
            rw [setL_in hb]
            have e : topB d v b = false := by
              unfold topB
              split
              · exact absurd ⟨_, rfl⟩ hd
              · rfl
            rw [e]
        | top g =>
          obtain ⟨a, xs, ds, e1, e2, e3, e4, e5, e6⟩ := h
          subst e1
          refine ⟨a, xs, ds, e2, e3, e4, ?_, e6⟩
          rw [setL_in (by simp), e2, e3]
          show some (i, decide (a = a)) = _
          rw [decide_eq_true rfl]
        | sh g => exact h.2
      · rw [if_neg hl] at hj
        cases hj
    · rw [if_neg e] at hj ⊢
      obtain ⟨v', q1, q2⟩ := w.slot j r hj
      exact ⟨v', q1, slot_lab q2 keep⟩

/-! ### targets at a statement -/
def rdGS (K : PySem.W.Frag) (p : Pat) : TG := fun v σ H Q => ∃ (B : Bas) (Hs : Hp) (L : Lab) (ρ ρ' : Rho) (d : D) (o : Ow) (fp : List Addr), WFS K B Hs H L σ ρ ∧ HoldF K B Hs H L fp v d o ∧ setP p d o ρ = some ρ' ∧
  ∀ L' σ', WFS K B Hs H L' σ' ρ' → (∀ b, b ∉ fp → L' b = L b) → (∀ j, j ∉ tgP p → σ'[j]? = σ[j]?) → Q σ' H
def cmpO : Ow → Ow
  | .own => .own
  | _ => .sh []
def rdGSs (K : PySem.W.Frag) (ps : Pats) : TGs := fun vs σ H Q => ∃ (B : Bas) (Hs : Hp) (L : Lab) (ρ ρ' : Rho) (ds : List D) (o : Ow) (fp : List Addr), WFS K B Hs H L σ ρ ∧ HoldFs K B Hs H L fp vs ds o ∧ setPs ps ds o ρ = some ρ' ∧
  ∀ L' σ', WFS K B Hs H L' σ' ρ' → (∀ b, b ∉ fp → L' b = L b) → (∀ j, j ∉ tgPs ps → σ'[j]? = σ[j]?) → Q σ' H
theorem HoldFs.length (h : HoldFs K B Hs H L fp vs ds o) : vs.length = ds.length := by
  cases o with
  | own => exact h.1.length
  | top g => exact h.2.length
  | sh g => exact h.2.length
theorem HoldFs.cons_inv {ds0 : List D} {d0 : D} (h : HoldFs K B Hs H L fp vs (d0 :: ds0) o) : ∃ v0 vs0 f1 f2, vs = v0 :: vs0 ∧ fp = f1 ++ f2 ∧ (∀ a ∈ f2, a ∉ f1) ∧ HoldF K B Hs H L f1 v0 d0 (cmpO o) ∧ HoldFs K B Hs H L f2 vs0 ds0 o := by
  have sh : fp = [] ∧ RpA K Hs vs (d0 :: ds0) → ∃ v0 vs0, vs = v0 :: vs0 ∧ fp = [] ∧ Rp K Hs v0 d0 ∧ RpA K Hs vs0 ds0 := by
    rintro ⟨e, q⟩
    cases q with
    | cons q1 q2 => exact ⟨_, _, rfl, e, q1, q2⟩
  cases o with
  | own =>
    obtain ⟨h1, h2, h3⟩ := h
    cases h1 with
    | cons q1 q2 =>
      rename_i f1 f2
      obtain ⟨n1, n2, n3⟩ := List.nodup_append.mp h2
      exact ⟨_, _, f1, f2, rfl, rfl, fun a ha z => n3 a z a ha rfl, ⟨q1, n1, fun a ha => h3 a (List.mem_append_left _ ha)⟩, ⟨q2, n2, fun a ha => h3 a (List.mem_append_right _ ha)⟩⟩
  | top g =>
    obtain ⟨v0, vs0, e1, e2, q1, q2⟩ := sh h
    exact ⟨v0, vs0, [], [], e1, e2, (fun a ha => by cases ha), ⟨rfl, q1⟩, ⟨rfl, q2⟩⟩
  | sh g =>
    obtain ⟨v0, vs0, e1, e2, q1, q2⟩ := sh h
    exact ⟨v0, vs0, [], [], e1, e2, (fun a ha => by cases ha), ⟨rfl, q1⟩, ⟨rfl, q2⟩⟩
theorem HoldFs.relab (h : HoldFs K B Hs H L fp vs ds o) (e : ∀ b ∈ fp, L' b = L b) : HoldFs K B Hs H L' fp vs ds o := by
  cases o with
  | own => exact ⟨h.1, h.2.1, fun a ha => ⟨(h.2.2 a ha).1, (h.2.2 a ha).2.1, (e a ha).trans (h.2.2 a ha).2.2⟩⟩
  | top g => exact h
  | sh g => exact h
variable {X : Cx} {t : Expr} {ts : List Expr} {p : Pat} {ps : Pats}
theorem tgS_nm (h : PG X t (gName i)) : PG X t (rdGS K (.nm i)) := pg_imp h fun v σ H Q q => by
  obtain ⟨B, Hs, L, ρ, ρ', d, o, fp, w, hd, hs, hq⟩ := q
  unfold setP at hs
  obtain ⟨_, e⟩ := ite_some hs
  subst e
  exact hq _ _ (w.putS hd i) (fun b hb => setL_out hb) fun j hj => List.getElem?_set_ne fun z => hj (by unfold tgP; rw [z]; exact List.mem_singleton.mpr rfl)
theorem tgsS_nil : PGs X [] (rdGSs K .nil) := pgs_imp pgs_nil fun us σ H Q q => by
  obtain ⟨B, Hs, L, ρ, ρ', ds, o, fp, w, hd, hs, hq⟩ := q
  cases ds with
  | nil =>
    unfold setPs at hs
    cases hs
    refine ⟨?_, hq L σ w (fun _ _ => rfl) fun _ _ => rfl⟩
    have e := hd.length
    cases us with
    | nil => rfl
    | cons _ _ => cases e
  | cons _ _ => unfold setPs at hs; cases hs
theorem tgsS_cons (h1 : PG X t (rdGS K p)) (h2 : PGs X ts (rdGSs K ps)) (hs : (assignEach (t :: ts) X.env).map (·.2) = assign t X.env :: (assignEach ts X.env).map (·.2)) : PGs X (t :: ts) (rdGSs K (.cons p ps)) :=
  pgs_imp (pgs_cons h1 h2 hs) fun us σ H Q q => by
    obtain ⟨B, Hs, L, ρ, ρ', ds, o, fp, w, hd, hs, hq⟩ := q
    cases ds with
    | nil => unfold setPs at hs; cases hs
    | cons d0 ds0 =>
      obtain ⟨v0, vs0, f1, f2, rfl, rfl, dis, q1, q2⟩ := hd.cons_inv
      unfold setPs at hs
      have hs' : (match setP p d0 (cmpO o) ρ with
        | some ρ' => setPs ps ds0 o ρ'
        | none => none) = some ρ' := by
        cases o <;> exact hs
      split at hs'
      · rename_i ρ1 e1
        refine ⟨_, _, rfl, B, Hs, L, ρ, ρ1, d0, cmpO o, f1, w, q1, e1, fun L1 σ1 w1 k1 r1 => ⟨B, Hs, L1, ρ1, ρ', ds0, o, f2, w1, (q2.relab fun b hb => k1 b (dis b hb)), hs', fun L2 σ2 w2 k2 r2 => hq L2 σ2 w2 (fun b hb => ?_) fun j hj => ?_⟩⟩
        · rw [List.mem_append, not_or] at hb
          exact (k2 b hb.2).trans (k1 b hb.1)
        · unfold tgPs at hj
          rw [List.mem_append, not_or] at hj
          exact (r2 j hj.2).trans (r1 j hj.1)
      · cases hs'
theorem setPs_len : ∀ {ps : Pats} {ds : List D} {o : Ow} {ρ ρ' : Rho}, setPs ps ds o ρ = some ρ' → ds.length = psLen ps
  | .nil, [], _, _, _, _ => rfl
  | .nil, _ :: _, _, _, _, h => by unfold setPs at h; cases h
  | .cons p r, [], _, _, _, h => by unfold setPs at h; cases h
  | .cons p r, d :: ds, o, ρ, ρ', h => by
    unfold setPs at h
    split at h
    · rename_i ρ1 e1
      show ds.length + 1 = psLen r + 1
      rw [setPs_len h]
    · cases h
theorem tgS_tp {k : Nat} {pos : Pos} (hK : X.K = K) (hc : X.calm = true) (h : PGs X ts (rdGSs K ps)) (hn : (assignEach ts X.env).length = psLen ps) (hst : (assignEach ts X.env).findIdx? (·.1) = none) : PG X (.Tuple ts k pos) (rdGS K (.tp ps)) :=
  pg_imp (pg_or (pg_tup hc h hn hst) (pg_unl hc h hn hst)) fun v σ H Q q => by
    rw [hK]
    obtain ⟨B, Hs, L, ρ, ρ', d, o, fp, w, hd, hs, hq⟩ := q
    cases d with
    | tuple ds =>
      unfold setP at hs
      have key : ∃ a xs, v = .ref a ∧ SqT K H a xs ∧ HoldFs K B Hs H L fp xs ds o := by
        cases o with
        | own =>
          obtain ⟨h1, h2, h3⟩ := hd
          cases h1 with
          | tup q1 q2 => exact ⟨_, _, rfl, Evl.ex_t w.lok.sh q1, q2, h2, h3⟩
        | top g =>
          obtain ⟨_, _, _, _, e, _⟩ := hd
          cases e
        | sh g =>
          obtain ⟨e, q⟩ := hd
          cases q with
          | tup q1 q2 => exact ⟨_, _, rfl, Evl.ex_t w.lok.sh q1, e, q2⟩
      obtain ⟨a, xs, rfl, q1, q2⟩ := key
      exact .inl ⟨a, xs, rfl, q1, q2.length.trans (setPs_len hs), B, Hs, L, ρ, ρ', ds, o, fp, w, q2, hs, fun L' σ' w' k' r' => hq L' σ' w' k' fun j hj => r' j (by unfold tgP at hj; exact hj)⟩
    | list ds =>
      unfold setP at hs
      have key : ∃ a xs fp', v = .ref a ∧ SqL K H a xs ∧ HoldFs K B Hs H L fp' xs ds o ∧ ∀ b ∈ fp', b ∈ fp := by
        cases o with
        | own =>
          obtain ⟨h1, h2, h3⟩ := hd
          cases h1 with
          | lst q1 q2 => exact ⟨_, _, _, rfl, .inl (.inl q1), ⟨q2, (List.nodup_cons.mp h2).2, fun a ha => h3 a (List.mem_cons_of_mem _ ha)⟩, fun b hb => List.mem_cons_of_mem _ hb⟩
        | top g =>
          obtain ⟨a, xs, ds', e1, e2, e3, e4, e5, e6⟩ := hd
          cases e2
          exact ⟨a, xs, [], e3, .inl (.inl e4), ⟨rfl, e6⟩, fun b hb => by cases hb⟩
        | sh g =>
          obtain ⟨e, q⟩ := hd
          cases q with
          | lst q1 q2 => exact ⟨_, _, [], rfl, .inl (Evl.ex_rd w.lok.sh q1), ⟨rfl, q2⟩, fun b hb => by cases hb⟩
      obtain ⟨a, xs, fp', rfl, q1, q2, q3⟩ := key
      exact .inr ⟨a, xs, rfl, q1, q2.length.trans (setPs_len hs), B, Hs, L, ρ, ρ', ds, o, fp', w, q2, hs, fun L' σ' w' k' r' => hq L' σ' w' (fun b hb => k' b fun z => hb (q3 b z)) fun j hj => r' j (by unfold tgP at hj; exact hj)⟩
    | _ => unfold setP at hs; cases hs
section
variable {sc : Scope} {fc : Str → Bool}
mutual
theorem chkPS_ok (hc : X.calm = true) (hN : X.N.Nodup) (hs : X.env.scope = sc) (hf : X.fn = fc) : ∀ (p : Pat) (x : Expr), chkP X.N sc fc p x = true → PG X x (rdGS X.K p) ∧ ∀ es, assignEach (x :: es) X.env = (false, assign x X.env) :: assignEach es X.env
  | .nm i, x, h => by
    unfold chkP at h
    split at h
    · rename_i i0 y pos e0
      cases e0
      rw [Bool.and_eq_true, decide_eq_true_eq] at h
      obtain ⟨l1, l2⟩ := loc_of hs hf h.2
      exact ⟨tgS_nm (pg_name hN h.1 l1 l2), fun _ => rfl⟩
    · rename_i e0
      cases e0
    · cases h
  | .tp ps, x, h => by
    unfold chkP at h
    split at h
    · rename_i e0
      cases e0
    · rename_i ps0 es k pos e0
      cases e0
      obtain ⟨q1, q2, q3⟩ := chkPsS_ok hc hN hs hf ps es h
      exact ⟨tgS_tp rfl hc q1 q2 q3, fun _ => rfl⟩
    · cases h
theorem chkPsS_ok (hc : X.calm = true) (hN : X.N.Nodup) (hs : X.env.scope = sc) (hf : X.fn = fc) : ∀ (ps : Pats) (xs : List Expr), chkPs X.N sc fc ps xs = true → PGs X xs (rdGSs X.K ps) ∧ (assignEach xs X.env).length = psLen ps ∧ (assignEach xs X.env).findIdx? (·.1) = none
  | .nil, [], _ => ⟨tgsS_nil, rfl, rfl⟩
  | .nil, _ :: _, h => by unfold chkPs at h; cases h
  | .cons _ _, [], h => by unfold chkPs at h; cases h
  | .cons p r, x :: xs, h => by
    unfold chkPs at h
    rw [Bool.and_eq_true] at h
    obtain ⟨p1, p2⟩ := chkPS_ok hc hN hs hf p x h.1
    obtain ⟨q1, q2, q3⟩ := chkPsS_ok hc hN hs hf r xs h.2
    refine ⟨tgsS_cons p1 q1 (by rw [p2 xs]; rfl), ?_, ?_⟩
    · rw [p2 xs, List.length_cons, q2]; rfl
    · rw [p2 xs, List.findIdx?_cons, q3]; rfl
end
end
/-- what has come, as it is stored: what its tags name is shared from now on -/
theorem store_rel (w : WFS K B Hs H L σ ρ) (t : Step Hs H Hs' H') (rel : RelR K L H Hs' H' v (d, o)) (g : List Tag) (hg : ∀ t, cov o.tags t = true → cov g t = true) :
    WFS K B (VH L g Hs' H') H' (unL L g) σ (frz g ρ) ∧ Sub Hs (VH L g Hs' H') ∧ ∃ fp, HoldF K B (VH L g Hs' H') H' (unL L g) fp v d (stO o) ∧ (∀ a ∈ fp, H a = none) := by
  have w1 := w.stepS t
  have nol : ∀ a, H a = none → L a = none := fun a ha => by
    cases e : L a with
    | none => rfl
    | some x => exact absurd ha (w.labH a x e)
  have cell : ∀ a, H a = none → Hs' a = none → B.H0 a = none ∧ VH L g Hs' H' a = none ∧ unL L g a = none := fun a h1 h2 => by
    refine ⟨w.ex0.back h1, ?_, ?_⟩
    · unfold VH; rw [h2, nol a h1]
    · unfold unL; rw [nol a h1]
  refine ⟨w1.freeze g, t.s.trans vh_s, ?_⟩
  cases o with
  | own =>
    obtain ⟨fp, h1, h2, h3⟩ := rel
    exact ⟨fp, ⟨ow_mono vh_s (fun _ _ => rfl) h1, h2, fun a ha => cell a (h3 a ha).1 (h3 a ha).2⟩, fun a ha => (h3 a ha).1⟩
  | top q =>
    obtain ⟨a, xs, ds, e1, e2, e3, e4, e5, e6⟩ := rel
    refine ⟨[a], ⟨a, xs, ds, rfl, e1, e2, e3, cell a e4 e5, rpa_mono (vh_tags hg) e6⟩, fun b hb => ?_⟩
    have e : b = a := by simpa using hb
    rw [e]; exact e4
  | sh q => exact ⟨[], ⟨rfl, rp_mono (vh_tags hg) rel⟩, fun a ha => by cases ha⟩
end
end Z
/-! ZS: statements: readings. -/
namespace Z
open PySem L2 PySem.Spec PyProof.Rows

/-- what is not among the slots T stays -/
def Fr (T : Nat → Bool) (σ σ' : L2.St) : Prop := ∀ j, T j = false → σ'[j]? = σ[j]?
theorem Fr.refl {T : Nat → Bool} {σ : L2.St} : Fr T σ σ := fun _ _ => rfl
theorem Fr.trans {T : Nat → Bool} {σ σ1 σ2 : L2.St} (h : Fr T σ σ1) (k : Fr T σ1 σ2) : Fr T σ σ2 := fun j hj => (k j hj).trans (h j hj)
theorem Fr.set {T : Nat → Bool} {σ : L2.St} {i : Nat} {v : Option V} (h : T i = true) : Fr T σ (σ.set i v) := fun j hj => List.getElem?_set_ne fun z => by rw [z, hj] at h; cases h
def FlQ (K : PySem.W.Frag) (B : Bas) (Hs : Hp) (T : Nat → Bool) (σ : L2.St) (D : Ends) : Fl → Prop
  | .nx ρ' => ∀ Hs' H' L' σ', Sub Hs Hs' → Fr T σ σ' → WFS K B Hs' H' L' σ' ρ' → D.nx σ' H'
  | .bk ρ' => ∀ Hs' H' L' σ', Sub Hs Hs' → Fr T σ σ' → WFS K B Hs' H' L' σ' ρ' → D.bk σ' H'
  | .ct ρ' => ∀ Hs' H' L' σ', Sub Hs Hs' → Fr T σ σ' → WFS K B Hs' H' L' σ' ρ' → D.ct σ' H'
  | .rt d l => ∀ v Hs' H', Step B.Hs0 B.H0 Hs' H' → RetR K B.H0 Hs' H' v d l → D.rt v H'
def rdS (K : PySem.W.Frag) (T : Nat → Bool) (f : Rho → Option Fl) : TS := fun D σ H => ∃ (B : Bas) (Hs : Hp) (L : Lab) (ρ : Rho) (fl : Fl), WFS K B Hs H L σ ρ ∧ f ρ = some fl ∧ FlQ K B Hs T σ D fl
section
variable {K : PySem.W.Frag} {B : Bas} {Hs H Hs' H' Hb : Hp} {L L' : Lab} {σ σ' : L2.St} {ρ ρ' : Rho} {v : V} {xs ys : List V} {d : D} {ds es : List D} {g : List Tag} {i : Nat} {o : Ow} {r : R} {fp : List Addr} {De : Ends} {fl : Fl} {a : Addr}
theorem FlQ.mono {T : Nat → Bool} (h : FlQ K B Hs T σ De fl) (e : Sub Hs Hs') (r : Fr T σ σ') : FlQ K B Hs' T σ' De fl := by
  cases fl with
  | nx ρ => exact fun Hs2 H2 L2 σ2 s r2 w => h Hs2 H2 L2 σ2 (e.trans s) (r.trans r2) w
  | bk ρ => exact fun Hs2 H2 L2 σ2 s r2 w => h Hs2 H2 L2 σ2 (e.trans s) (r.trans r2) w
  | ct ρ => exact fun Hs2 H2 L2 σ2 s r2 w => h Hs2 H2 L2 σ2 (e.trans s) (r.trans r2) w
  | rt d l => exact h
theorem WFv.base (w : WFS K B Hs H L σ ρ) : Step B.Hs0 B.H0 Hs H := ⟨w.exs0, w.ex0, w.lok.sh, w.ag0⟩
theorem ret_hold (h : HoldF K B Hs H L fp v d o) : RetR K B.H0 Hs H v d (lvl o) := by
  cases o with
  | own => exact ⟨fp, h.1, h.2.1, fun a ha => ⟨(h.2.2 a ha).1, (h.2.2 a ha).2.1⟩⟩
  | top g =>
    obtain ⟨a, xs, ds, e1, e2, e3, e4, e5, e6⟩ := h
    exact ⟨a, xs, ds, e2, e3, e4, e5.1, e5.2.1, e6⟩
  | sh g => exact h.2
theorem lvl_st (o : Ow) : lvl (stO o) = lvl o := by cases o <;> rfl
theorem ret_slot (w : WFS K B Hs H L σ ρ) (h : SlotR K Hs H L (fun _ => Hs) i v (d, o)) : RetR K B.H0 Hs H v d (lvl o) := by
  have c : ∀ b t, L b = some t → B.H0 b = none ∧ Hs b = none := fun b t e => ⟨w.lab0 b t e, (w.lok.lab b t e).1⟩
  cases o with
  | own =>
    rcases h with ⟨a, xs, ds, fp, e1, e2, e3, e4, e5, e6, e7⟩ | ⟨e0, fp, e5, e6, e7⟩
    · have e1' : d = .list ds := e1
      subst e1'
      subst e2
      refine ⟨a :: fp, .lst e3 e5, List.nodup_cons.mpr ⟨fun z => ?_, e6⟩, fun b hb => ?_⟩
      · have q := e7 a z
        rw [e4] at q
        cases q
      · rcases List.mem_cons.mp hb with z | z
        · rw [z]; exact c a _ e4
        · exact c b _ (e7 b z)
    · exact ⟨fp, e5, e6, fun b hb => c b _ (e7 b hb)⟩
  | top g =>
    obtain ⟨a, xs, ds, e1, e2, e3, e4, e5⟩ := h
    exact ⟨a, xs, ds, e1, e2, e3, (c a _ e4).1, (c a _ e4).2, e5⟩
  | sh g => exact h
theorem wipeR_wf (w : WFS K B Hs H L σ ρ) (k : List Nat) : WFS K B Hs H L σ (wipeR k ρ) := by
  refine ⟨w.ex0, w.ag0, w.exs0, w.sub0, w.lok, w.lab0, by rw [wipeR_len]; exact w.len, fun j r hj => w.slot j r (wipeR_get k ρ j r hj).1⟩

/-! ### the shared part grows -/
theorem slot_hs (h : SlotR K Hs H L (fun _ => Hs) i v r) (e : Sub Hs Hs') : SlotR K Hs' H L (fun _ => Hs') i v r := by
  obtain ⟨d, o⟩ := r
  cases o with
  | own =>
    rcases h with ⟨a, xs, ds, fp, e1, e2, e3, e4, e5, e6, e7⟩ | ⟨e0, fp, e5, e6, e7⟩
    · exact .inl ⟨a, xs, ds, fp, e1, e2, e3, e4, owa_mono e (fun _ _ => rfl) e5, e6, e7⟩
    · exact .inr ⟨e0, fp, ow_mono e (fun _ _ => rfl) e5, e6, e7⟩
  | top g =>
    obtain ⟨a, xs, ds, e1, e2, e3, e4, e5⟩ := h
    exact ⟨a, xs, ds, e1, e2, e3, e4, rpa_mono e e5⟩
  | sh g => exact rp_mono e h
theorem hold_share (w : WFS K B Hs H L σ ρ) (h : HoldF K B Hs H L fp v d o) : ∃ Hs', Sub Hs Hs' ∧ WFS K B Hs' H L σ ρ ∧ Rp K Hs' v d := by
  have hc := h.cells
  have s1 : Sub Hs (addH fp Hs H) := addH_sub fun a ha => (hc a ha).2.1
  refine ⟨addH fp Hs H, s1, ⟨w.ex0, fun a ha => ?_, w.exs0.trans s1, w.sub0, ⟨addH_h w.lok.sh, fun a t e => ?_⟩, w.lab0, w.len, fun j r hj => ?_⟩, ?_⟩
  · rw [addH_out fun z => ha (hc a z).1]
    exact w.ag0 a ha
  · rw [addH_out fun z => by rw [(hc a z).2.2.1] at e; cases e]
    exact w.lok.lab a t e
  · obtain ⟨v', q1, q2⟩ := w.slot j r hj
    exact ⟨v', q1, slot_hs q2 s1⟩
  · cases o with
    | own => exact ow_rp s1 (fun a ha => addH_in ha) h.1
    | top g =>
      obtain ⟨a, xs, ds, e1, e2, e3, e4, e5, e6⟩ := h
      subst e1 e2 e3
      exact .lst (.inl ((addH_in (by simp)).trans e4)) (rpa_mono s1 e6)
    | sh g => exact rp_mono s1 h.2

/-! ### a slot's list is written -/
theorem up_ne {b : Addr} {t t' : Tag} (ha : L a = some t) (hb : L b = some t') (h : t ≠ t') : b ≠ a := fun z => by
  subst z
  rw [ha] at hb
  exact h (Option.some.inj hb)
theorem slot_up {j : Nat} {o' : HO} (hji : j ≠ i) (ha : L a = some (i, true)) (h : SlotR K Hs H L (fun _ => Hs) j v r) : SlotR K Hs (upd H a o') L (fun _ => Hs) j v r := by
  have ne : ∀ b x, L b = some (j, x) → (upd H a o') b = H b := fun b x hb => upd_ne (up_ne ha hb fun z => hji (by cases z; rfl))
  obtain ⟨d, o⟩ := r
  cases o with
  | own =>
    rcases h with ⟨a, xs, ds, fp, e1, e2, e3, e4, e5, e6, e7⟩ | ⟨e0, fp, e5, e6, e7⟩
    · exact .inl ⟨a, xs, ds, fp, e1, e2, (ne _ _ e4).trans e3, e4, owa_mono (Evl.Ex.refl _) (fun b hb => ne _ _ (e7 b hb)) e5, e6, e7⟩
    · exact .inr ⟨e0, fp, ow_mono (Evl.Ex.refl _) (fun b hb => ne _ _ (e7 b hb)) e5, e6, e7⟩
  | top g =>
    obtain ⟨a, xs, ds, e1, e2, e3, e4, e5⟩ := h
    exact ⟨a, xs, ds, e1, e2, (ne _ _ e4).trans e3, e4, e5⟩
  | sh g => exact h
theorem up_base (w : WFS K B Hs H L σ ρ) {x : Tag} (ha : L a = some x) (o' : HO) : Sub B.H0 (upd H a o') ∧ Sub Hs (upd H a o') := by
  have h0 := w.lab0 a _ ha
  have h1 := (w.lok.lab a _ ha).1
  refine ⟨fun b q e => ?_, fun b q e => ?_⟩
  · rw [upd_ne fun z => by rw [z, h0] at e; cases e]
    exact w.ex0 b q e
  · rw [upd_ne fun z => by rw [z, h1] at e; cases e]
    exact w.lok.sh b q e
theorem WFv.upT (w : WFS K B Hs H L σ ρ) (hv : σ[i]? = some (some (.ref a))) (ha : L a = some (i, true)) (hr : RpA K Hs ys es) : WFS K B Hs (upd H a (.lst ys)) L σ (ρ.set i (some (.list es, .top []))) := by
  obtain ⟨b1, b2⟩ := up_base w ha (.lst ys)
  refine ⟨b1, w.ag0, w.exs0, w.sub0, ⟨b2, fun b t e => ⟨(w.lok.lab b t e).1, ?_⟩⟩, w.lab0, by rw [List.length_set]; exact w.len, fun j r hj => ?_⟩
  · by_cases z : b = a
    · subst z; exact ⟨ys, upd_same⟩
    · rw [upd_ne z]; exact (w.lok.lab b t e).2
  · rw [List.getElem?_set] at hj
    by_cases e : i = j
    · subst e
      rw [if_pos rfl] at hj
      split at hj
      · cases hj
        exact ⟨.ref a, hv, a, ys, es, rfl, rfl, upd_same, ha, hr⟩
      · cases hj
    · rw [if_neg e] at hj
      obtain ⟨v', q1, q2⟩ := w.slot j r hj
      exact ⟨v', q1, slot_up (fun z => e z.symm) ha q2⟩
def labF (L : Lab) (i : Nat) (fp : List Addr) : Lab := fun b => if b ∈ fp then some (i, false) else L b
theorem WFv.upO (w : WFS K B Hs H L σ ρ) (hv : σ[i]? = some (some (.ref a))) (ha : L a = some (i, true)) (hr : OwA K Hs H fp ys es) (hn : fp.Nodup) (hf : ∀ b ∈ fp, L b = some (i, false) ∨ (B.H0 b = none ∧ Hs b = none ∧ L b = none)) :
    WFS K B Hs (upd H a (.lst ys)) (labF L i fp) σ (ρ.set i (some (.list es, .own))) := by
  obtain ⟨b1, b2⟩ := up_base w ha (.lst ys)
  have an : a ∉ fp := fun z => by
    rcases hf a z with q | q
    · rw [ha] at q; cases q
    · rw [ha] at q; cases q.2.2
  have keep : ∀ b t, L b = some t → labF L i fp b = some t := fun b t e => by
    unfold labF
    split
    · rename_i z
      rcases hf b z with q | q
      · rw [q] at e; exact e
      · rw [q.2.2] at e; cases e
    · exact e
  have lf : ∀ b t, labF L i fp b = some t → L b = some t ∨ (B.H0 b = none ∧ Hs b = none ∧ b ∈ fp) := fun b t e => by
    unfold labF at e
    split at e
    · rename_i z
      rcases hf b z with q | q
      · rw [q]; exact .inl e
      · exact .inr ⟨q.1, q.2.1, z⟩
    · exact .inl e
  refine ⟨b1, w.ag0, w.exs0, w.sub0, ⟨b2, fun b t e => ?_⟩, fun b t e => ?_, by rw [List.length_set]; exact w.len, fun j r hj => ?_⟩
  · by_cases z : b = a
    · subst z; exact ⟨(w.lok.lab _ _ ha).1, ys, upd_same⟩
    · rw [upd_ne z]
      rcases lf b t e with q | q
      · exact w.lok.lab b t q
      · exact ⟨q.2.1, OwA.lists _ _ _ hr b q.2.2⟩
  · rcases lf b t e with q | q
    · exact w.lab0 b t q
    · exact q.1
  · rw [List.getElem?_set] at hj
    by_cases e : i = j
    · subst e
      rw [if_pos rfl] at hj
      split at hj
      · cases hj
        refine ⟨.ref a, hv, .inl ⟨a, ys, es, fp, rfl, rfl, upd_same, keep _ _ ha, owa_mono (Evl.Ex.refl _) (fun b hb => upd_ne fun z => an (z ▸ hb)) hr, hn, fun b hb => ?_⟩⟩
        unfold labF
        rw [if_pos hb]
      · cases hj
    · rw [if_neg e] at hj
      obtain ⟨v', q1, q2⟩ := w.slot j r hj
      exact ⟨v', q1, slot_lab (slot_up (fun z => e z.symm) ha q2) keep⟩
theorem OwA.set {Hx : Hp} : ∀ {fp fq : List Addr} {vs : List V} {ds : List D} (n : Nat) {v : V} {d : D}, OwA K Hs Hx fp vs ds → Ow1 K Hs Hx fq v d → fp.Nodup → fq.Nodup → (∀ a ∈ fp, a ∉ fq) →
    ∃ fr, OwA K Hs Hx fr (vs.set n v) (ds.set n d) ∧ fr.Nodup ∧ ∀ a ∈ fr, a ∈ fp ∨ a ∈ fq
  | _, _, _, _, n, _, _, .nil, _, _, _, _ => ⟨[], .nil, List.nodup_nil, fun a ha => by cases ha⟩
  | _, fq, _, _, 0, _, _, .cons (fp := f1) (fq := f2) q t, h, np, nq, hd => by
    obtain ⟨n1, n2, n3⟩ := List.nodup_append.mp np
    refine ⟨fq ++ f2, .cons h t, List.nodup_append.mpr ⟨nq, n2, fun a ha b hb z => ?_⟩, fun a ha => ?_⟩
    · subst z
      exact hd a (List.mem_append_right _ hb) ha
    · rcases List.mem_append.mp ha with z | z
      · exact .inr z
      · exact .inl (List.mem_append_right _ z)
  | _, fq, _, _, n + 1, _, _, .cons (fp := f1) (fq := f2) q t, h, np, nq, hd => by
    obtain ⟨n1, n2, n3⟩ := List.nodup_append.mp np
    obtain ⟨fr, r1, r2, r3⟩ := OwA.set n t h n2 nq fun a ha => hd a (List.mem_append_right _ ha)
    refine ⟨f1 ++ fr, .cons q r1, List.nodup_append.mpr ⟨n1, r2, fun a ha b hb z => ?_⟩, fun a ha => ?_⟩
    · subst z
      rcases r3 a hb with z | z
      · exact n3 a ha a z rfl
      · exact hd a (List.mem_append_left _ ha) z
    · rcases List.mem_append.mp ha with z | z
      · exact .inl (List.mem_append_left _ z)
      · rcases r3 a z with z | z
        · exact .inl (List.mem_append_right _ z)
        · exact .inr z
theorem frz_own (h : ownL (frz g ρ) i = some (ds, b)) : ∃ q, (frz ((i, false) :: g) ρ)[i]? = some (some (.list ds, .top q)) := by
  unfold ownL at h
  have f1 : ∀ x, hasT i x ((i, false) :: g) = (!x || hasT i x g) := fun x => by
    show ((i == i && false == x) || hasT i x g) = _
    rw [beq_self_eq_true, Bool.true_and]
    cases x <;> rfl
  rw [frz_get] at h ⊢
  cases hx : ρ[i]? with
  | none => rw [hx] at h; cases h
  | some x =>
    rw [hx] at h
    cases x with
    | none => cases h
    | some r =>
      obtain ⟨d, o⟩ := r
      have h' : (match (some (frz1 g i (some (d, o))) : Option (Option R)) with
        | some (some (.list ds, .own)) => some (ds, true)
        | some (some (.list ds, .top _)) => some (ds, false)
        | _ => none) = some (ds, b) := h
      show ∃ q, some (frz1 ((i, false) :: g) i (some (d, o))) = some (some (.list ds, .top q))
      cases o with
      | own =>
        unfold frz1 at h' ⊢
        simp only at h' ⊢
        have t0 := f1 true
        have t1 := f1 false
        simp only [Bool.not_true, Bool.false_or, Bool.not_false, Bool.true_or] at t0 t1
        rw [t0, t1]
        by_cases e : hasT i true g = true
        · simp only [e, if_true] at h'
          cases h'
        · simp only [e, if_false, Bool.false_eq_true] at h' ⊢
          by_cases e2 : hasT i false g = true
          · simp only [e2, if_true] at h' ⊢
            cases d with
            | list es => cases h'; exact ⟨_, rfl⟩
            | _ => cases h'
          · simp only [e2, if_false, Bool.false_eq_true] at h' ⊢
            cases d with
            | list es => cases h'; exact ⟨_, rfl⟩
            | _ => cases h'
      | top q =>
        unfold frz1 at h' ⊢
        simp only at h' ⊢
        have t0 := f1 true
        simp only [Bool.not_true, Bool.false_or] at t0
        rw [t0]
        by_cases e : hasT i true g = true
        · simp only [e, if_true] at h'
          cases h'
        · simp only [e, if_false, Bool.false_eq_true] at h' ⊢
          cases d with
          | list es => cases h'; exact ⟨_, rfl⟩
          | _ => cases h'
      | sh q =>
        unfold frz1 at h'
        cases d <;> cases h'
/-- a value goes into slot i's list: the list as it stands then -/
theorem put_rel {deep : Bool} (w : WFS K B Hs H L σ ρ) (t : Step Hs H Hs' H') (rel : RelR K L H Hs' H' v (d, o)) (ho : ownL (frz o.tags ρ) i = some (ds, deep)) :
    ∃ a xs, σ[i]? = some (some (.ref a)) ∧ H a = some (.lst xs) ∧ H' a = some (.lst xs) ∧ xs.length = ds.length ∧
      ∀ (ys : List V) (es : List D), ((∀ Hx, RpA K Hx xs ds → Rp K Hx v d → RpA K Hx ys es)) →
        ((∀ (Hx Hy : Hp) (f1 f2 : List Addr), OwA K Hx Hy f1 xs ds → Ow1 K Hx Hy f2 v d → f1.Nodup → f2.Nodup → (∀ a ∈ f1, a ∉ f2) → ∃ fr, OwA K Hx Hy fr ys es ∧ fr.Nodup ∧ ∀ a ∈ fr, a ∈ f1 ∨ a ∈ f2)) →
        ∃ Hs2 L2, Sub Hs Hs2 ∧ WFS K B Hs2 (upd H' a (.lst ys)) L2 σ (putL (frz ((if isOwn (d, o) then [] else [(i, false)]) ++ o.tags) ρ) i es (deep && isOwn (d, o))) := by
  -- the slot now
  obtain ⟨q0, hq0, hlst⟩ : ∃ r, (frz o.tags ρ)[i]? = some (some r) ∧ r.1 = .list ds ∧ (deep = true → r.2 = .own) ∧ (deep = false → ∃ h, r.2 = .top h) := by
    unfold ownL at ho
    split at ho
    · rename_i e
      cases ho
      exact ⟨_, e, rfl, (fun _ => rfl), (fun z => by cases z)⟩
    · rename_i e
      cases ho
      exact ⟨_, e, rfl, (fun z => by cases z), fun _ => ⟨_, rfl⟩⟩
    · cases ho
  obtain ⟨w1, s1, f1, hold1, fresh1⟩ := store_rel w t rel o.tags (fun _ z => z)
  -- its list
  obtain ⟨v0, hv0, sl0⟩ := w1.slot i q0 hq0
  obtain ⟨dq, oq⟩ := q0
  obtain ⟨e1, e2, e3⟩ := hlst
  have e1' : dq = .list ds := e1
  subst e1'
  obtain ⟨a, xs, hav, hH', hLa, hxs⟩ : ∃ a xs, v0 = .ref a ∧ H' a = some (.lst xs) ∧ unL L o.tags a = some (i, true) ∧ xs.length = ds.length := by
    cases deep with
    | true =>
      have eo : oq = .own := e2 rfl
      subst eo
      rcases sl0 with ⟨a, xs, ds', fp, z1, z2, z3, z4, z5, z6, z7⟩ | ⟨z0, _⟩
      · cases z1
        exact ⟨a, xs, z2, z3, z4, z5.length⟩
      · exact absurd rfl (z0 ds)
    | false =>
      obtain ⟨h, eo⟩ := e3 rfl
      have eo' : oq = .top h := eo
      subst eo'
      obtain ⟨a, xs, ds', z1, z2, z3, z4, z5⟩ := sl0
      cases z1
      exact ⟨a, xs, z2, z3, z4, z5.length⟩
  subst hav
  have hLa0 : L a = some (i, true) := (unL_some hLa).1
  obtain ⟨xs0, hHa⟩ := (w.lok.lab a _ hLa0).2
  have exs : xs0 = xs := by
    have q := t.h a _ hHa
    rw [hH'] at q
    cases q
    rfl
  subst exs
  refine ⟨a, xs0, hv0, hHa, hH', hxs, fun ys es hR hO => ?_⟩
  by_cases own : isOwn (d, o) = true
  · rw [own]
    simp only [if_true, List.nil_append, Bool.and_true]
    -- the value: nobody's
    obtain ⟨f2, v1, v2, v3⟩ : ∃ f2, Ow1 K (VH L o.tags Hs' H') H' f2 v d ∧ f2.Nodup ∧ ∀ a ∈ f2, B.H0 a = none ∧ VH L o.tags Hs' H' a = none ∧ unL L o.tags a = none := by
      cases o with
      | own => exact ⟨f1, hold1.1, hold1.2.1, hold1.2.2⟩
      | top g => cases own
      | sh g => exact ⟨[], flat_ow (fun a xs z => z) d v own hold1.2, List.nodup_nil, fun a ha => by cases ha⟩
    cases deep with
    | true =>
      have eo : oq = .own := e2 rfl
      subst eo
      rcases sl0 with ⟨a', xs', ds', fp, z1, z2, z3, z4, z5, z6, z7⟩ | ⟨z0, _⟩
      · cases z1
        cases z2
        rw [hH'] at z3
        cases z3
        obtain ⟨fr, r1, r2, r3⟩ := hO _ _ fp f2 z5 v1 z6 v2 fun b hb z => by
          have q := z7 b hb
          rw [(v3 b z).2.2] at q
          cases q
        refine ⟨_, _, s1, w1.upO hv0 hLa r1 r2 fun b hb => ?_⟩
        rcases r3 b hb with z | z
        · exact .inl (z7 b z)
        · exact .inr (v3 b z)
      · exact absurd rfl (z0 ds)
    | false =>
      obtain ⟨h, eo⟩ := e3 rfl
      have eo' : oq = .top h := eo
      subst eo'
      obtain ⟨a', xs', ds', z1, z2, z3, z4, z5⟩ := sl0
      cases z1
      cases z2
      rw [hH'] at z3
      cases z3
      obtain ⟨Hs2, s2, w2, rp⟩ := hold_share w1 hold1
      exact ⟨Hs2, _, s1.trans s2, w2.upT hv0 hLa (hR _ (rpa_mono s2 z5) rp)⟩
  · have own' : isOwn (d, o) = false := by simpa using own
    rw [own']
    simp only [if_false, Bool.false_eq_true, Bool.and_false]
    obtain ⟨q, hq⟩ := frz_own ho
    obtain ⟨w3, s3, f3, hold3, _⟩ := store_rel w t rel ((i, false) :: o.tags) (fun x z => cov_right [(i, false)] z)
    obtain ⟨Hs2, s2, w2, rp⟩ := hold_share w3 hold3
    obtain ⟨v', hv', sl⟩ := w2.slot i _ hq
    obtain ⟨a', xs', ds', z1, z2, z3, z4, z5⟩ := sl
    cases z1
    rw [hv0] at hv'
    cases hv'
    cases z2
    rw [hH'] at z3
    cases z3
    exact ⟨Hs2, _, s3.trans s2, w2.upT hv0 z4 (hR _ z5 rp)⟩
end
end Z
/-! ZT: each statement's reading. -/
namespace Z
open PySem L2 PySem.Spec PyProof.Rows

section
variable {K : PySem.W.Frag} {B : Bas} {Hs H Hs' H' Hb : Hp} {L L' : Lab} {σ σ' : L2.St} {ρ ρ' : Rho} {v : V} {xs ys : List V} {d : D} {ds es : List D} {g : List Tag} {i j : Nat} {o : Ow} {r : R} {fp : List Addr} {De : Ends} {fl : Fl} {a : Addr}
  {Φ : Fn} {W : Nat} {p : Pat} {e e1 e2 : E} {it : It} {body s1 s2 : Ss} {s : S} {k : List Nat} {T : Nat → Bool}
theorem asg_red (hT : ∀ j ∈ tgP p, T j = true) (q : rdS K T (ex Φ W (.asg p e)) De σ H) : tAsg (rdE K (ev Φ e)) (rdGS K p) De σ H := by
  obtain ⟨B, Hs, L, ρ, fl, w, hf, hq⟩ := q
  unfold ex at hf
  cases he : ev Φ e ρ with
  | none => rw [he] at hf; cases hf
  | some r =>
    obtain ⟨d, o⟩ := r
    rw [he] at hf
    simp only at hf
    cases hs : setP p d (stO o) (frz o.tags ρ) with
    | none => rw [hs] at hf; cases hf
    | some ρ' =>
      rw [hs] at hf
      cases hf
      refine ⟨B, Hs, L, ρ, (d, o), w.wf, he, fun v Hs1 H1 t rel => ?_⟩
      obtain ⟨w1, s1, fp, hold, _⟩ := store_rel w t rel o.tags (fun _ z => z)
      exact ⟨B, _, _, _, ρ', d, stO o, fp, w1, hold, hs, fun L' σ' w' _ r' => hq _ _ L' σ' s1 (fun j hj => r' j fun z => by rw [hT j z] at hj; cases hj) w'⟩
theorem HoldF.relab (h : HoldF K B Hs H L fp v d o) (e : ∀ b ∈ fp, L' b = L b) : HoldF K B Hs H L' fp v d o := by
  cases o with
  | own => exact ⟨h.1, h.2.1, fun a ha => ⟨(h.2.2 a ha).1, (h.2.2 a ha).2.1, (e a ha).trans (h.2.2 a ha).2.2⟩⟩
  | top g =>
    obtain ⟨a, xs, ds, e1, e2, e3, e4, e5, e6⟩ := h
    exact ⟨a, xs, ds, e1, e2, e3, e4, ⟨e5.1, e5.2.1, (e a (by rw [e1]; simp)).trans e5.2.2⟩, e6⟩
  | sh g => exact h
theorem HoldF.step (h : HoldF K B Hs H L fp v d o) (t : Step Hs H Hs' H') : HoldF K B Hs' H' L fp v d o := by
  have hc := h.cells
  have ag : ∀ a ∈ fp, Hs' a = none ∧ H' a = H a := fun a ha => by
    obtain ⟨c1, c2, c3, xs, c4⟩ := hc a ha
    exact ⟨(t.ag a (by rw [c4]; intro z; cases z)).trans c2, by rw [c4, t.h a _ c4]⟩
  cases o with
  | own => exact ⟨ow_mono t.s (fun a ha => (ag a ha).2) h.1, h.2.1, fun a ha => ⟨(hc a ha).1, (ag a ha).1, (hc a ha).2.2.1⟩⟩
  | top g =>
    obtain ⟨a, xs, ds, e1, e2, e3, e4, e5, e6⟩ := h
    exact ⟨a, xs, ds, e1, e2, e3, t.h a _ e4, ⟨e5.1, (ag a (by rw [e1]; simp)).1, e5.2.2⟩, rpa_mono t.s e6⟩
  | sh g => exact ⟨h.1, rp_mono t.s h.2⟩
theorem vh_Step (l : LabOk L Hs H) (t : Step Hs H Hs' H') : Step (VH L g Hs H) H (VH L g Hs' H') H' := by
  refine ⟨vh_step l t, t.h, vh_h t.sh, fun a ha => ?_⟩
  obtain ⟨x, hx⟩ := some_of ha
  unfold VH
  rw [t.ag a ha, hx, t.h a _ hx]
theorem par_red (hij : i ≠ j) (hT : T i = true ∧ T j = true) (q : rdS K T (ex Φ W (.par i j e1 e2)) De σ H) : rdE K (ev Φ e1) σ H fun v H1 => rdE K (ev Φ e2) σ H1 fun u H2 => De.nx ((σ.set i (some v)).set j (some u)) H2 := by
  obtain ⟨B, Hs, L, ρ, fl, w, hf, hq⟩ := q
  unfold ex at hf
  cases he : ev Φ e1 ρ with
  | none => rw [he] at hf; cases hf
  | some r =>
    obtain ⟨d, o⟩ := r
    rw [he] at hf
    simp only at hf
    cases he2 : ev Φ e2 ρ with
    | none => rw [he2] at hf; cases hf
    | some r2 =>
      obtain ⟨d2, o2⟩ := r2
      rw [he2] at hf
      simp only at hf
      obtain ⟨hl, ef⟩ := ite_some hf
      subst ef
      refine ⟨B, Hs, L, ρ, (d, o), w.wf, he, fun v Hs1 H1 t1 rel1 => ⟨B, Hs1, L, ρ, (d2, o2), (w.stepS t1).wf, he2, fun u Hs2 H2 t2 rel2 => ?_⟩⟩
      have w1 := w.stepS t1
      obtain ⟨wa, sa, f1, h1, _⟩ := store_rel w t1 rel1 (o.tags ++ o2.tags) (fun _ z => cov_left _ z)
      obtain ⟨wb, sb, f2, h2, n2⟩ := store_rel w1 t2 rel2 (o.tags ++ o2.tags) (fun _ z => cov_right _ z)
      have h1' := h1.step (vh_Step w1.lok t2)
      have c1 := h1.cells
      have wc := wb.putS h1' i
      have h2' : HoldF K B _ H2 (setL (unL L (o.tags ++ o2.tags)) i f1 d v) f2 u d2 (stO o2) := h2.relab fun b hb => setL_out fun z => by
        obtain ⟨_, _, _, xs, e⟩ := c1 b z
        rw [n2 b hb] at e
        cases e
      exact hq _ _ _ _ (t1.s.trans sb) ((Fr.set hT.1).trans (Fr.set hT.2)) (wc.putS h2' j)
theorem par3_red {l : Nat} {e3 : E} (hij : i ≠ j ∧ i ≠ l ∧ j ≠ l) (hT : T i = true ∧ T j = true ∧ T l = true) (q : rdS K T (ex Φ W (.par3 i j l e1 e2 e3)) De σ H) : rdE K (ev Φ e1) σ H fun v H1 => rdE K (ev Φ e2) σ H1 fun u H2 => rdE K (ev Φ e3) σ H2 fun z H3 => De.nx (((σ.set i (some v)).set j (some u)).set l (some z)) H3 := by
  obtain ⟨B, Hs, L, ρ, fl, w, hf, hq⟩ := q
  unfold ex at hf
  cases he : ev Φ e1 ρ with
  | none => rw [he] at hf; cases hf
  | some r =>
    obtain ⟨d, o⟩ := r
    rw [he] at hf
    simp only at hf
    cases he2 : ev Φ e2 ρ with
    | none => rw [he2] at hf; cases hf
    | some r2 =>
      obtain ⟨d2, o2⟩ := r2
      rw [he2] at hf
      simp only at hf
      cases he3 : ev Φ e3 ρ with
      | none => rw [he3] at hf; cases hf
      | some r3 =>
        obtain ⟨d3, o3⟩ := r3
        rw [he3] at hf
        simp only at hf
        obtain ⟨hl, ef⟩ := ite_some hf
        subst ef
        refine ⟨B, Hs, L, ρ, (d, o), w.wf, he, fun v Hs1 H1 t1 rel => ⟨B, Hs1, L, ρ, (d2, o2), (w.stepS t1).wf, he2, fun u Hs2 H2 t2 rel2 => ⟨B, Hs2, L, ρ, (d3, o3), ((w.stepS t1).stepS t2).wf, he3, fun z Hs3 H3 t3 rel3 => ?_⟩⟩⟩
        have w1 := w.stepS t1
        have w2 := w1.stepS t2
        obtain ⟨wa, sa, f1, h1, _⟩ := store_rel w t1 rel (o.tags ++ (o2.tags ++ o3.tags)) (fun _ z => cov_left _ z)
        obtain ⟨wb, sb, f2, h2, n2⟩ := store_rel w1 t2 rel2 (o.tags ++ (o2.tags ++ o3.tags)) (fun _ z => cov_right _ (cov_left _ z))
        obtain ⟨wc, sc, f3, h3, n3⟩ := store_rel w2 t3 rel3 (o.tags ++ (o2.tags ++ o3.tags)) (fun _ z => cov_right _ (cov_right _ z))
        have h1' := (h1.step (vh_Step w1.lok t2)).step (vh_Step w2.lok t3)
        have h2' := h2.step (vh_Step w2.lok t3)
        have c1 := h1.cells
        have c2 := h2.cells
        have k1 := wc.putS h1' i
        have d12 : ∀ b ∈ f2, b ∉ f1 := fun b hb z => by
          obtain ⟨_, _, _, xs, e⟩ := c1 b z
          rw [n2 b hb] at e
          cases e
        have d13 : ∀ b ∈ f3, b ∉ f1 := fun b hb z => by
          obtain ⟨_, _, _, xs, e⟩ := c1 b z
          have e' := t2.h b _ e
          rw [n3 b hb] at e'
          cases e'
        have d23 : ∀ b ∈ f3, b ∉ f2 := fun b hb z => by
          obtain ⟨_, _, _, xs, e⟩ := c2 b z
          rw [n3 b hb] at e
          cases e
        have h2'' := h2'.relab (L' := setL (unL L (o.tags ++ (o2.tags ++ o3.tags))) i f1 d v) fun b hb => setL_out (d12 b hb)
        have k2 := k1.putS h2'' j
        have h3'' := h3.relab (L' := setL (setL (unL L (o.tags ++ (o2.tags ++ o3.tags))) i f1 d v) j f2 d2 u) fun b hb => (setL_out (d23 b hb)).trans (setL_out (d13 b hb))
        exact hq _ _ _ _ ((t1.s.trans t2.s).trans sc) (((Fr.set hT.1).trans (Fr.set hT.2.1)).trans (Fr.set hT.2.2)) (k2.putS h3'' l)
theorem own_slot {b : Bool} (w : WFS K B Hs H L σ ρ) (ho : ownL (frz g ρ) i = some (ds, b)) : ∃ a xs, σ[i]? = some (some (.ref a)) ∧ H a = some (.lst xs) := by
  have w1 := w.freeze g
  unfold ownL at ho
  split at ho
  · rename_i e
    obtain ⟨v, h1, h2⟩ := w1.slot i _ e
    rcases h2 with ⟨a, xs, ds', fp, z1, z2, z3, z4, z5, z6, z7⟩ | ⟨z0, _⟩
    · exact ⟨a, xs, by rw [h1, z2], z3⟩
    · exact absurd rfl (z0 _)
  · rename_i e
    obtain ⟨v, h1, h2⟩ := w1.slot i _ e
    obtain ⟨a, xs, ds', z1, z2, z3, z4, z5⟩ := h2
    exact ⟨a, xs, by rw [h1, z2], z3⟩
  · cases ho
theorem app_red (q : rdS K T (ex Φ W (.app i e)) De σ H) : tDrop (tBM K "list" rAppend (tVar i) (fun σ H Q => rdE K (ev Φ e) σ H fun v H1 => Q [v] H1)) De σ H := by
  obtain ⟨B, Hs, L, ρ, fl, w, hf, hq⟩ := q
  unfold ex at hf
  cases he : ev Φ e ρ with
  | none => rw [he] at hf; cases hf
  | some r =>
    obtain ⟨d, o⟩ := r
    rw [he] at hf
    simp only at hf
    cases ho : ownL (frz o.tags ρ) i with
    | none => rw [ho] at hf; cases hf
    | some q =>
      obtain ⟨ds, deep⟩ := q
      rw [ho] at hf
      simp only at hf
      obtain ⟨hl, ef⟩ := ite_some hf
      subst ef
      obtain ⟨a, xs, hv, hH⟩ := own_slot w ho
      refine ⟨.ref a, hv, .inl ⟨rfl, xs, .inl (.inl hH)⟩, B, Hs, L, ρ, (d, o), w.wf, he, fun v Hs1 H1 t rel => ?_⟩
      obtain ⟨a', xs', hv', hH0, hH1, hlen, fin⟩ := put_rel w t rel ho
      rw [hv] at hv'
      cases hv'
      rw [hH] at hH0
      cases hH0
      obtain ⟨Hs2, L2, s2, w2⟩ := fin (xs ++ [v]) (ds ++ [d]) (fun Hx h1 h2 => h1.append (.cons h2 .nil)) (fun Hx Hy f1 f2 h1 h2 n1 n2 dis => ⟨f1 ++ (f2 ++ []), h1.append (.cons h2 .nil), by
        rw [List.append_nil]
        exact List.nodup_append.mpr ⟨n1, n2, fun a ha b hb z => dis a ha (z ▸ hb)⟩, fun b hb => by
        rw [List.append_nil] at hb
        exact List.mem_append.mp hb⟩)
      exact ⟨a, xs, v, rfl, rfl, hH1, Nat.lt_of_lt_of_le (by rw [hlen]; exact hl) (by decide), hq _ _ _ _ s2 Fr.refl w2⟩
/-- an object within a slot's -/
def objR (K : PySem.W.Frag) (i : Nat) : List Nat → TE
  | [] => tVar i
  | k :: r => tOp (rIx K) (objR K i r) (tC (.int (k : Int)))
theorem OwA.get' : ∀ {fp : List Addr} {vs : List V} {ds : List D} {k : Nat} {d : D}, OwA K Hs H fp vs ds → ds[k]? = some d → ∃ v f, vs[k]? = some v ∧ Ow1 K Hs H f v d ∧ ∀ x ∈ f, x ∈ fp
  | _, _, _, k, d, .nil, h => by cases k <;> cases h
  | _, _, _, 0, d, .cons h t, e => by
    cases e
    exact ⟨_, _, rfl, h, fun x hx => List.mem_append_left _ hx⟩
  | _, _, _, k + 1, d, .cons h t, e => by
    obtain ⟨v, f, h1, h2, h3⟩ := OwA.get' t (show _ from e)
    exact ⟨v, f, h1, h2, fun x hx => List.mem_append_right _ (h3 x hx)⟩
theorem path_at (sh : Sub Hs H) {fp : List Addr} {v : V} {d : D} (hv : σ[i]? = some (some v)) (ow : Ow1 K Hs H fp v d) : ∀ (rs : List Nat) (d' : D), pathR d rs = some d' → ∃ v' f, Ow1 K Hs H f v' d' ∧ (∀ x ∈ f, x ∈ fp) ∧ ∀ Q : VK, Q v' H → objR K i rs σ H Q
  | [], d', h => by
    cases h
    exact ⟨v, fp, ow, fun x hx => hx, fun Q q => ⟨v, hv, q⟩⟩
  | k :: r, d', h => by
    unfold pathR at h
    cases e : pathR d r with
    | none => rw [e] at h; cases h
    | some d1 =>
      rw [e] at h
      obtain ⟨v1, f1, o1, s1, g1⟩ := path_at sh hv ow r d1 e
      have h' : elemD d1 k = some d' := h
      cases d1 with
      | list ds =>
        cases o1 with
        | lst a1 a2 =>
          obtain ⟨v2, f2, b1, b2, b3⟩ := OwA.get' a2 (show ds[k]? = some d' from h')
          exact ⟨v2, f2, b2, fun x hx => s1 x (List.mem_cons_of_mem _ (b3 x hx)), fun Q q => g1 _ (.inl ⟨_, _, _, _, rfl, rfl, .inl (.inl a1), atI_nat b1, q⟩)⟩
      | tuple ds =>
        cases o1 with
        | tup a1 a2 =>
          obtain ⟨v2, f2, b1, b2, b3⟩ := OwA.get' a2 (show ds[k]? = some d' from h')
          exact ⟨v2, f2, b2, fun x hx => s1 x (b3 x hx), fun Q q => g1 _ (.inr (.inl ⟨_, _, _, _, rfl, rfl, Evl.ex_t sh a1, atI_nat b1, q⟩))⟩
      | _ => cases h'
/-- a list of a slot's own is written; the slot is given up -/
theorem WFv.killW (w : WFS K B Hs H L σ ρ) {b : Addr} {x : Bool} {ys zs : List V} (hb : L b = some (i, x)) (hz : H b = some (.lst zs)) : WFS K B Hs (upd H b (.lst ys)) L σ (ρ.set i none) := by
  have ne : ∀ a, a ≠ b → upd H b (.lst ys) a = H a := fun a ha => upd_ne ha
  have l0 := w.lok.lab b _ hb
  refine ⟨fun a o h => ?_, w.ag0, w.exs0, w.sub0, ⟨fun a o h => ?_, fun a t h => ?_⟩, w.lab0, by rw [List.length_set]; exact w.len, fun j r h => ?_⟩
  · have : a ≠ b := fun z => by
      rw [z, w.lab0 b _ hb] at h
      cases h
    rw [ne a this]
    exact w.ex0 a o h
  · have : a ≠ b := fun z => by
      rw [z, l0.1] at h
      cases h
    rw [ne a this]
    exact w.lok.sh a o h
  · obtain ⟨h1, xs, h2⟩ := w.lok.lab a t h
    by_cases z : a = b
    · rw [z] at h1 ⊢
      exact ⟨h1, ys, upd_same⟩
    · exact ⟨h1, xs, by rw [ne a z]; exact h2⟩
  · by_cases q : j = i
    · subst q
      rw [List.getElem?_set] at h
      split at h
      · split at h
        · cases h
        · cases h
      · rename_i z
        exact absurd rfl z
    · rw [List.getElem?_set_ne (fun z => q z.symm)] at h
      obtain ⟨v, h1, h2⟩ := w.slot j r h
      refine ⟨v, h1, ?_⟩
      have hk : ∀ c y, L c = some (j, y) → upd H b (.lst ys) c = H c := fun c y hc => ne c fun z => by
        rw [z, hb] at hc
        cases hc
        exact q rfl
      obtain ⟨d, o⟩ := r
      cases o with
      | own =>
        rcases h2 with ⟨a, xs, ds, fp, e1, e2, e3, e4, e5, e6, e7⟩ | ⟨e0, fp, e5, e6, e7⟩
        · exact .inl ⟨a, xs, ds, fp, e1, e2, by rw [hk a _ e4]; exact e3, e4, OwA.mono (Evl.Ex.refl _) _ _ _ (fun c hc => hk c _ (e7 c hc)) e5, e6, e7⟩
        · exact .inr ⟨e0, fp, Ow1.mono (Evl.Ex.refl _) _ _ _ (fun c hc => hk c _ (e7 c hc)) e5, e6, e7⟩
      | top g =>
        obtain ⟨a, xs, ds, e1, e2, e3, e4, e5⟩ := h2
        exact ⟨a, xs, ds, e1, e2, by rw [hk a _ e4]; exact e3, e4, e5⟩
      | sh g => exact h2
theorem appK_red {rs : List Nat} (q : rdS K T (ex Φ W (.appK i rs e)) De σ H) : tDrop (tBM K "list" rAppend (objR K i rs) (fun σ H Q => rdE K (ev Φ e) σ H fun v H1 => Q [v] H1)) De σ H := by
  obtain ⟨B, Hs, L, ρ, fl, w, hf, hq⟩ := q
  unfold ex at hf
  split at hf
  · rename_i d hs
    cases hp : pathR d rs with
    | none => rw [hp] at hf; cases hf
    | some d' =>
      rw [hp] at hf
      cases d' with
      | list es =>
        have hf : (if es.length < 1000000 then (match ev Φ e ρ with
          | some _ => some (Fl.nx (ρ.set i none))
          | none => none) else none) = some fl := hf
        by_cases hl : es.length < 1000000
        case neg => rw [if_neg hl] at hf; cases hf
        rw [if_pos hl] at hf
        cases he : ev Φ e ρ with
        | none => rw [he] at hf; cases hf
        | some r =>
          rw [he] at hf
          cases hf
          obtain ⟨v, hv, sl⟩ := w.slot i _ hs
          have own : ∃ fp, Ow1 K Hs H fp v d ∧ ∀ b ∈ fp, ∃ x, L b = some (i, x) := by
            rcases sl with ⟨a, xs, ds, fp, e1, e2, e3, e4, e5, e6, e7⟩ | ⟨e0, fp, e5, e6, e7⟩
            · have e1' : d = .list ds := e1
              rw [e1', e2]
              refine ⟨a :: fp, .lst e3 e5, fun b hb => ?_⟩
              rcases List.mem_cons.mp hb with z | z
              · rw [z]; exact ⟨true, e4⟩
              · exact ⟨false, e7 b z⟩
            · exact ⟨fp, e5, fun b hb => ⟨false, e7 b hb⟩⟩
          obtain ⟨fp, ow, lab⟩ := own
          obtain ⟨v', f, o', s', g'⟩ := path_at w.lok.sh hv ow rs _ hp
          cases o' with
          | lst a1 a2 =>
            rename_i b xs f2
            obtain ⟨x, hx⟩ := lab b (s' b (List.mem_cons_self ..))
            refine g' _ ⟨.inl ⟨rfl, xs, .inl (.inl a1)⟩, B, Hs, L, ρ, r, w.wf, he, fun u Hs1 H1 t rel => ?_⟩
            have h1 := t.h b _ a1
            exact ⟨b, xs, u, rfl, rfl, h1, Nat.lt_of_lt_of_le (by rw [a2.length]; exact hl) (by decide), hq _ _ _ _ t.s Fr.refl ((w.stepS t).killW hx h1)⟩
      | _ => cases hf
  · cases hf
theorem setI_red {c : E} (q : rdS K T (ex Φ W (.setI i c e)) De σ H) : tAsg (rdE K (ev Φ e)) (gSub (tVar i) (rdP K c (ev Φ c)) rSetL) De σ H := by
  obtain ⟨B, Hs, L, ρ, fl, w, hf, hq⟩ := q
  unfold ex at hf
  cases he : ev Φ e ρ with
  | none => rw [he] at hf; cases hf
  | some r =>
    obtain ⟨d, o⟩ := r
    rw [he] at hf
    simp only at hf
    split at hf
    · rename_i n ok hk
      cases ho : ownL (frz o.tags ρ) i with
      | none => rw [ho] at hf; cases hf
      | some q =>
        obtain ⟨ds, deep⟩ := q
        rw [ho] at hf
        simp only at hf
        cases hm : ixN ds.length n with
        | none => rw [hm] at hf; cases hf
        | some m =>
          rw [hm] at hf
          cases hf
          obtain ⟨a, xs, hv, hH⟩ := own_slot w ho
          refine ⟨B, Hs, L, ρ, (d, o), w.wf, he, fun v Hs1 H1 t1 rel1 => ⟨.ref a, hv, B, Hs1, L, ρ, _, (w.stepS t1).wf, hk, fun u Hs2 H2 t2 pk => ?_⟩⟩
          have e := pk_int pk
          subst e
          obtain ⟨a', xs', hv', hH0, hH2, hlen, fin⟩ := put_rel w (t1.trans t2) (rel1.step (w.lok.step t1) t2) ho
          rw [hv] at hv'
          cases hv'
          rw [hH] at hH0
          cases hH0
          obtain ⟨Hs3, L3, s3, w3⟩ := fin (xs.set m v) (ds.set m d) (fun Hx h1 h2 => h1.set m h2) (fun Hx Hy f1 f2 h1 h2 n1 n2 dis => OwA.set m h1 h2 n1 n2 dis)
          exact ⟨a, xs, n, m, rfl, rfl, hH2, by rw [hlen]; exact hm, hq _ _ _ _ s3 Fr.refl w3⟩
    · cases hf
theorem drop_red (q : rdS K T (ex Φ W (.drop e)) De σ H) : tDrop (rdE K (ev Φ e)) De σ H := by
  obtain ⟨B, Hs, L, ρ, fl, w, hf, hq⟩ := q
  unfold ex at hf
  cases he : ev Φ e ρ with
  | none => rw [he] at hf; cases hf
  | some r =>
    rw [he] at hf
    cases hf
    exact ⟨B, Hs, L, ρ, r, w.wf, he, fun v Hs1 H1 t rel => hq _ _ _ _ t.s Fr.refl (w.stepS t)⟩
theorem retV_red (q : rdS K T (ex Φ W (.ret (.var i))) De σ H) : tRet (tVar i) De σ H := by
  obtain ⟨B, Hs, L, ρ, fl, w, hf, hq⟩ := q
  unfold ex at hf
  split at hf
  · rename_i d o e
    cases hf
    obtain ⟨v, hv, sl⟩ := w.slot i _ e
    exact ⟨v, hv, hq v Hs H w.base (ret_slot w sl)⟩
  · cases hf
theorem ret_red (hn : ∀ i, e ≠ .var i) (q : rdS K T (ex Φ W (.ret e)) De σ H) : tRet (rdE K (ev Φ e)) De σ H := by
  obtain ⟨B, Hs, L, ρ, fl, w, hf, hq⟩ := q
  have hf' : (match ev Φ e ρ with
    | some (d, o) => some (Fl.rt d (lvl o))
    | none => none) = some fl := by
    rw [← hf]
    cases e with
    | var i => exact absurd rfl (hn i)
    | _ => (conv => rhs; unfold ex) <;> rfl
  cases he : ev Φ e ρ with
  | none => rw [he] at hf'; cases hf'
  | some r =>
    obtain ⟨d, o⟩ := r
    rw [he] at hf'
    cases hf'
    refine ⟨B, Hs, L, ρ, (d, o), w.wf, he, fun v Hs1 H1 t rel => ?_⟩
    obtain ⟨w1, s1, fp, hold, _⟩ := store_rel w t rel o.tags (fun _ z => z)
    have h := ret_hold hold
    rw [lvl_st] at h
    exact hq v _ H1 w1.base h
/-- Hs' has what Hs has but for lists -/
def NL (Hs Hs' : Hp) : Prop := ∀ c o, Hs c = some o → (∀ ys, o ≠ HO.lst ys) → Hs' c = some o
theorem sqt_nl (h : NL Hs Hs') {a : Addr} {xs : List V} (q : SqT K Hs a xs) : SqT K Hs' a xs := by
  rcases q with (q | ⟨o, q⟩) | q
  · exact .inl (.inl (h _ _ q fun ys z => by cases z))
  · exact .inl (.inr ⟨o, h _ _ q fun ys z => by cases z⟩)
  · exact .inr q
mutual
theorem Rp.nl (h : NL Hs Hs') : ∀ (d : D) (v : V), flat d = true → Rp K Hs v d → Rp K Hs' v d
  | .none, _, _, q => by cases q; exact .non
  | .bool b, _, _, q => by cases q; exact .bl b
  | .int i, _, _, q => by cases q; exact .int i
  | .str x, _, _, q => by cases q; exact .str x
  | .list ds, _, f, _ => by unfold flat at f; cases f
  | .tuple ds, _, f, q => by
    unfold flat at f
    cases q with
    | tup q1 q2 => exact .tup (sqt_nl h q1) (RpA.nl h ds _ f q2)
  | .dict _, _, f, _ => by unfold flat at f; cases f
theorem RpA.nl (h : NL Hs Hs') : ∀ (ds : List D) (vs : List V), flats ds = true → RpA K Hs vs ds → RpA K Hs' vs ds
  | [], _, _, q => by cases q; exact .nil
  | d :: ds, _, f, q => by
    unfold flats at f
    rw [Bool.and_eq_true] at f
    cases q with
    | cons q1 q2 => exact .cons (Rp.nl h d _ f.1 q1) (RpA.nl h ds _ f.2 q2)
end
mutual
theorem Ow1.nl (h : NL Hs Hs') : ∀ (d : D) (v : V) (fp : List Addr), Ow1 K Hs H fp v d → Ow1 K Hs' H fp v d
  | .none, _, _, q => by cases q; exact .non
  | .bool b, _, _, q => by cases q; exact .bl b
  | .int i, _, _, q => by cases q; exact .int i
  | .str x, _, _, q => by cases q; exact .str x
  | .list ds, _, _, q => by
    cases q with
    | lst q1 q2 => exact .lst q1 (OwA.nl h ds _ _ q2)
  | .tuple ds, _, _, q => by
    cases q with
    | tup q1 q2 => exact .tup (sqt_nl h q1) (OwA.nl h ds _ _ q2)
  | .dict _, _, _, q => nomatch q
theorem OwA.nl (h : NL Hs Hs') : ∀ (ds : List D) (vs : List V) (fp : List Addr), OwA K Hs H fp vs ds → OwA K Hs' H fp vs ds
  | [], _, _, q => by cases q; exact .nil
  | d :: ds, _, _, q => by
    cases q with
    | cons q1 q2 => exact .cons (Ow1.nl h d _ _ q1) (OwA.nl h ds _ _ q2)
end
theorem thaw_at : ∀ {ρ : Rho} {m j : Nat} {r : R}, thawFrom i m ρ = true → ρ[j]? = some (some r) → m + j ≠ i → r.2 = .own ∨ flat r.1 = true
  | [], m, j, r, h, e, n => by cases e
  | x :: ρ, m, 0, r, h, e, n => by
    unfold thawFrom at h
    rw [Bool.and_eq_true, Bool.or_eq_true] at h
    have ex : x = some r := by simpa using e
    subst ex
    rcases h.1 with z | z
    · exact absurd (by simpa using z) n
    · obtain ⟨d, o⟩ := r
      cases o with
      | own => exact .inl rfl
      | top g => exact .inr z
      | sh g => exact .inr z
  | x :: ρ, m, j + 1, r, h, e, n => by
    unfold thawFrom at h
    rw [Bool.and_eq_true] at h
    exact thaw_at h.2 (show ρ[j]? = some (some r) from e) (by omega)
/-- a slot's list that was shared for a while is its own again -/
theorem WFv.thaw {a : Addr} {B : Bas} {Hs H Hs2 H2 : Hp} {Lq : Lab} {σ2 : L2.St} {ρ2 : Rho} {xs : List V} {ds : List D} {fp : List Addr} (w : WFS K B Hs2 H2 Lq σ2 ρ2) (hv : σ2[i]? = some (some (.ref a))) (ha : H a = some (.lst xs)) (ow : OwA K Hs H fp xs ds) (nd : (a :: fp).Nodup)
    (hR : ∀ c ∈ a :: fp, Hs c = none ∧ B.H0 c = none ∧ (∃ ys, H c = some (.lst ys)) ∧ Hs2 c = H c) (sub : Sub Hs Hs2) (th : thawFrom i 0 ρ2 = true) :
    ∃ Hs3 L3, Sub Hs Hs3 ∧ WFS K B Hs3 H2 L3 σ2 (ρ2.set i (some (.list ds, .own))) := by
  obtain ⟨Hs3, e3⟩ : ∃ Hs3 : Hp, Hs3 = fun c => if c ∈ a :: fp then none else Hs2 c := ⟨_, rfl⟩
  have out : ∀ c, c ∉ a :: fp → Hs3 c = Hs2 c := fun c h => by rw [e3]; exact if_neg h
  have inn : ∀ c, c ∈ a :: fp → Hs3 c = none := fun c h => by rw [e3]; exact if_pos h
  have nl : NL Hs2 Hs3 := fun c o e n => by
    have : c ∉ a :: fp := fun z => by
      obtain ⟨_, _, ⟨ys, q⟩, q2⟩ := hR c z
      rw [q2, q] at e
      cases e
      exact n ys rfl
    rw [out c this]
    exact e
  have h2 : ∀ c ∈ a :: fp, H2 c = H c := fun c h => by
    obtain ⟨_, _, ⟨ys, q⟩, q2⟩ := hR c h
    rw [q]
    exact w.lok.sh c _ (by rw [q2, q])
  have s3 : Sub Hs Hs3 := fun c o e => by
    have : c ∉ a :: fp := fun z => by rw [(hR c z).1] at e; cases e
    rw [out c this]
    exact sub c o e
  have anf : a ∉ fp := (List.nodup_cons.mp nd).1
  refine ⟨Hs3, fun c => if c = a then some (i, true) else if c ∈ fp then some (i, false) else Lq c, s3, w.ex0, fun c e => ?_, fun c o e => ?_, w.sub0, ⟨fun c o e => ?_, fun c t e => ?_⟩, fun c t e => ?_, by rw [List.length_set]; exact w.len, fun j r e => ?_⟩
  · have : c ∉ a :: fp := fun z => e (hR c z).2.1
    rw [out c this]
    exact w.ag0 c e
  · have : c ∉ a :: fp := fun z => by
      have := w.sub0 c o e
      rw [(hR c z).2.1] at this
      cases this
    rw [out c this]
    exact w.exs0 c o e
  · by_cases z : c ∈ a :: fp
    · rw [inn c z] at e; cases e
    · rw [out c z] at e
      exact w.lok.sh c o e
  · by_cases z : c ∈ a :: fp
    · rw [inn c z, h2 c z]
      exact ⟨rfl, (hR c z).2.2.1⟩
    · have n1 : c ≠ a := fun q => z (by rw [q]; exact List.mem_cons_self ..)
      have n2 : c ∉ fp := fun q => z (List.mem_cons_of_mem _ q)
      rw [if_neg n1, if_neg n2] at e
      rw [out c z]
      exact w.lok.lab c t e
  · by_cases z : c ∈ a :: fp
    · exact (hR c z).2.1
    · have n1 : c ≠ a := fun q => z (by rw [q]; exact List.mem_cons_self ..)
      have n2 : c ∉ fp := fun q => z (List.mem_cons_of_mem _ q)
      rw [if_neg n1, if_neg n2] at e
      exact w.lab0 c t e
  · by_cases q : j = i
    · subst q
      have er : r = (.list ds, .own) := by
        rw [List.getElem?_set] at e
        split at e
        · split at e
          · cases e; rfl
          · cases e
        · rename_i z
          exact absurd rfl z
      subst er
      refine ⟨_, hv, .inl ⟨a, xs, ds, fp, rfl, rfl, by rw [h2 a (List.mem_cons_self ..)]; exact ha, if_pos rfl, owa_mono s3 (fun c hc => h2 c (List.mem_cons_of_mem _ hc)) ow, (List.nodup_cons.mp nd).2, fun b hb => ?_⟩⟩
      have nb : b ≠ a := fun z => anf (by rw [← z]; exact hb)
      exact (if_neg nb).trans (if_pos hb)
    · rw [List.getElem?_set_ne (fun z => q z.symm)] at e
      obtain ⟨v, e1, e2⟩ := w.slot j r e
      refine ⟨v, e1, ?_⟩
      have keep : ∀ c y, Lq c = some (j, y) → (if c = a then some (i, true) else if c ∈ fp then some (i, false) else Lq c) = some (j, y) := fun c y hc => by
        have z : c ∉ a :: fp := fun z => by
          have := (w.lok.lab c _ hc).1
          obtain ⟨_, _, ⟨ys, q⟩, q2⟩ := hR c z
          rw [q2, q] at this
          cases this
        rw [if_neg fun q => z (by rw [q]; exact List.mem_cons_self ..), if_neg fun q => z (List.mem_cons_of_mem _ q)]
        exact hc
      obtain ⟨d, o⟩ := r
      rcases thaw_at th e (by omega) with z | z
      · have z' : o = .own := z
        subst z'
        rcases e2 with ⟨a', xs', ds', fp', k1, k2, k3, k4, k5, k6, k7⟩ | ⟨k0, fp', k5, k6, k7⟩
        · exact .inl ⟨a', xs', ds', fp', k1, k2, k3, keep a' _ k4, OwA.nl nl _ _ _ k5, k6, fun b hb => keep b _ (k7 b hb)⟩
        · exact .inr ⟨k0, fp', Ow1.nl nl _ _ _ k5, k6, fun b hb => keep b _ (k7 b hb)⟩
      · have z' : flat d = true := z
        cases o with
        | own =>
          rcases e2 with ⟨a', xs', ds', fp', k1, k2, k3, k4, k5, k6, k7⟩ | ⟨k0, fp', k5, k6, k7⟩
          · exact .inl ⟨a', xs', ds', fp', k1, k2, k3, keep a' _ k4, OwA.nl nl _ _ _ k5, k6, fun b hb => keep b _ (k7 b hb)⟩
          · exact .inr ⟨k0, fp', Ow1.nl nl _ _ _ k5, k6, fun b hb => keep b _ (k7 b hb)⟩
        | top g =>
          obtain ⟨_, _, ds', k1, _⟩ := e2
          have k1' : d = .list ds' := k1
          rw [k1'] at z'
          unfold flat at z'
          cases z'
        | sh g => exact Rp.nl nl _ _ z' e2
theorem own_of (w : WFS K B Hs H L σ ρ) {d : D} {v : V} (sl : SlotR K Hs H L (fun _ => Hs) i v (d, .own)) : ∃ fp, Ow1 K Hs H fp v d ∧ fp.Nodup ∧ ∀ b ∈ fp, ∃ x, L b = some (i, x) := by
  rcases sl with ⟨a, xs, ds, fp, e1, e2, e3, e4, e5, e6, e7⟩ | ⟨e0, fp, e5, e6, e7⟩
  · have e1' : d = .list ds := e1
    rw [e1', e2]
    refine ⟨a :: fp, .lst e3 e5, List.nodup_cons.mpr ⟨fun z => ?_, e6⟩, fun b hb => ?_⟩
    · have := e7 a z
      rw [e4] at this
      cases this
    · rcases List.mem_cons.mp hb with z | z
      · rw [z]; exact ⟨true, e4⟩
      · exact ⟨false, e7 b z⟩
  · exact ⟨fp, e5, e6, fun b hb => ⟨false, e7 b hb⟩⟩
theorem appM_red (q : rdS K T (ex Φ W (.appM i j)) De σ H) : tDrop (tBM K "list" rAppend (tVar i) (tCons (tVar j) tNil)) De σ H := by
  obtain ⟨B, Hs, L, ρ, fl, w, hf, hq⟩ := q
  unfold ex at hf
  split at hf
  · rename_i ds hsi
    split at hf
    · rename_i d hsj
      obtain ⟨⟨hij, hl⟩, hf⟩ := ite_some hf
      subst hf
      obtain ⟨vi, hvi, sli⟩ := w.slot i _ hsi
      obtain ⟨u, hvj, slj⟩ := w.slot j _ hsj
      obtain ⟨fj, oj, ndj, labj⟩ := own_of w slj
      rcases sli with ⟨a, xs, ds', fp, e1, e2, e3, e4, e5, e6, e7⟩ | ⟨z0, _⟩
      case inr => exact absurd rfl (z0 ds)
      cases e1
      subst e2
      have ne : ∀ c, c ≠ a → upd H a (.lst (xs ++ [u])) c = H c := fun c hc => upd_ne hc
      have fja : ∀ c ∈ fj, c ≠ a := fun c hc z => by
        obtain ⟨x, hx⟩ := labj c hc
        rw [z, e4] at hx
        cases hx
        exact hij rfl
      have fpa : ∀ c ∈ fp, c ≠ a := fun c hc z => by
        have := e7 c hc
        rw [z, e4] at this
        cases this
      have dis : ∀ c ∈ fp, c ∉ fj := fun c hc z => by
        obtain ⟨x, hx⟩ := labj c z
        rw [e7 c hc] at hx
        cases hx
        exact hij rfl
      refine ⟨.ref a, hvi, .inl ⟨rfl, xs, .inl (.inl e3)⟩, u, hvj, a, xs, u, rfl, rfl, e3, Nat.lt_of_lt_of_le (by rw [e5.length]; exact hl) (by decide), hq Hs _ (fun c => if c ∈ fj then some (i, false) else L c) _ (Evl.Ex.refl _) Fr.refl ?_⟩
      have l0 := w.lok.lab a _ e4
      refine ⟨fun c o h => ?_, w.ag0, w.exs0, w.sub0, ⟨fun c o h => ?_, fun c t h => ?_⟩, fun c t h => ?_, by rw [List.length_set, List.length_set]; exact w.len, fun m r h => ?_⟩
      · have : c ≠ a := fun z => by
          rw [z, w.lab0 a _ e4] at h
          cases h
        rw [ne c this]
        exact w.ex0 c o h
      · have : c ≠ a := fun z => by
          rw [z, l0.1] at h
          cases h
        rw [ne c this]
        exact w.lok.sh c o h
      · by_cases z : c ∈ fj
        · obtain ⟨x, hx⟩ := labj c z
          rw [ne c (fja c z)]
          exact w.lok.lab c _ hx
        · rw [if_neg z] at h
          obtain ⟨h1, ys, h2⟩ := w.lok.lab c t h
          by_cases q : c = a
          · rw [q] at h1 ⊢
            exact ⟨h1, _, upd_same⟩
          · exact ⟨h1, ys, by rw [ne c q]; exact h2⟩
      · by_cases z : c ∈ fj
        · obtain ⟨x, hx⟩ := labj c z
          exact w.lab0 c _ hx
        · rw [if_neg z] at h
          exact w.lab0 c t h
      · by_cases q : m = i
        · subst q
          have er : r = (.list (ds ++ [d]), .own) := by
            rw [List.getElem?_set] at h
            split at h
            · split at h
              · cases h; rfl
              · cases h
            · rename_i z
              exact absurd rfl z
          subst er
          have o1 := owa_mono (Evl.Ex.refl Hs) (fun c hc => ne c (fpa c hc)) e5
          have o2 := ow_mono (Evl.Ex.refl Hs) (fun c hc => ne c (fja c hc)) oj
          refine ⟨_, hvi, .inl ⟨a, xs ++ [u], ds ++ [d], fp ++ (fj ++ []), rfl, rfl, upd_same, ?_, o1.append (.cons o2 .nil), ?_, fun b hb => ?_⟩⟩
          · exact (if_neg fun z => fja a z rfl).trans e4
          · rw [List.append_nil]
            exact List.nodup_append.mpr ⟨e6, ndj, fun x hx y hy z => dis x hx (by rw [z]; exact hy)⟩
          · rw [List.append_nil] at hb
            rcases List.mem_append.mp hb with z | z
            · exact (if_neg (dis b z)).trans (e7 b z)
            · exact if_pos z
        · rw [List.getElem?_set_ne (fun z => q z.symm)] at h
          by_cases q2 : m = j
          · subst q2
            rw [List.getElem?_set] at h
            split at h
            · split at h
              · cases h
              · cases h
            · rename_i z
              exact absurd rfl z
          · rw [List.getElem?_set_ne (fun z => q2 z.symm)] at h
            obtain ⟨v, h1, h2⟩ := w.slot m r h
            refine ⟨v, h1, ?_⟩
            have hk : ∀ c y, L c = some (m, y) → upd H a (.lst (xs ++ [u])) c = H c := fun c y hc => ne c fun z => by
              rw [z, e4] at hc
              cases hc
              exact q rfl
            have kl : ∀ c y, L c = some (m, y) → (if c ∈ fj then some (i, false) else L c) = some (m, y) := fun c y hc => by
              have : c ∉ fj := fun z => by
                obtain ⟨x, hx⟩ := labj c z
                rw [hc] at hx
                cases hx
                exact q2 rfl
              rw [if_neg this]
              exact hc
            obtain ⟨d', o⟩ := r
            cases o with
            | own =>
              rcases h2 with ⟨a', xs', ds', fp', k1, k2, k3, k4, k5, k6, k7⟩ | ⟨k0, fp', k5, k6, k7⟩
              · exact .inl ⟨a', xs', ds', fp', k1, k2, by rw [hk a' _ k4]; exact k3, kl a' _ k4, owa_mono (Evl.Ex.refl _) (fun c hc => hk c _ (k7 c hc)) k5, k6, fun b hb => kl b _ (k7 b hb)⟩
              · exact .inr ⟨k0, fp', ow_mono (Evl.Ex.refl _) (fun c hc => hk c _ (k7 c hc)) k5, k6, fun b hb => kl b _ (k7 b hb)⟩
            | top g =>
              obtain ⟨a', xs', ds', k1, k2, k3, k4, k5⟩ := h2
              exact ⟨a', xs', ds', k1, k2, by rw [hk a' _ k4]; exact k3, kl a' _ k4, k5⟩
            | sh g => exact h2
    · cases hf
  · cases hf
theorem ret2_red (q : rdS K T (ex Φ W (.ret2 i e)) De σ H) : tRet (tTup (tCons (tVar i) (tCons (rdE K (ev Φ e)) tNil))) De σ H := by
  obtain ⟨B, Hs, L, ρ, fl, w, hf, hq⟩ := q
  unfold ex at hf
  split at hf
  · rename_i d hs
    split at hf
    · rename_i d2 he
      cases hf
      obtain ⟨v, hv, sl⟩ := w.slot i _ hs
      obtain ⟨fp, ow, nd, lab⟩ := own_of w sl
      refine ⟨v, hv, B, Hs, L, ρ, (d2, .own), w.wf, he, fun u Hs1 H1 t rel => ⟨by show 2 ≤ _; exact Nat.le_trans (by decide) (line_of (show 2 ≤ 1000000 by decide)), fun p hp => ?_⟩⟩
      obtain ⟨fp2, ow2, nd2, fr2⟩ := rel
      have st : Step Hs1 H1 (upd Hs1 p (.tup [v, u])) (upd H1 p (.tup [v, u])) := step_tup t.sh hp
      have w2 := (w.stepS t).stepS st
      have l1 : ∀ a ∈ fp, Hs a = none ∧ (∃ xs, H a = some (.lst xs)) ∧ B.H0 a = none := fun a ha => by
        obtain ⟨x, hx⟩ := lab a ha
        exact ⟨(w.lok.lab a _ hx).1, (w.lok.lab a _ hx).2, w.lab0 a _ hx⟩
      have k1 : ∀ a ∈ fp, a ≠ p ∧ upd H1 p (.tup [v, u]) a = H a ∧ upd Hs1 p (.tup [v, u]) a = none := fun a ha => by
        obtain ⟨z1, ⟨xs, z2⟩, _⟩ := l1 a ha
        have h1 := t.h a _ z2
        have ne : a ≠ p := fun z => by rw [z, hp] at h1; cases h1
        refine ⟨ne, by rw [upd_ne ne, h1, z2], ?_⟩
        rw [upd_ne ne, t.ag a (by rw [z2]; intro z; cases z), z1]
      have k2 : ∀ a ∈ fp2, a ≠ p ∧ upd H1 p (.tup [v, u]) a = H1 a ∧ upd Hs1 p (.tup [v, u]) a = none ∧ B.H0 a = none := fun a ha => by
        obtain ⟨xs, z2⟩ := Ow1.lists _ _ _ ow2 a ha
        have ne : a ≠ p := fun z => by rw [z, hp] at z2; cases z2
        exact ⟨ne, upd_ne ne, by rw [upd_ne ne]; exact (fr2 a ha).2, w.ex0.back (fr2 a ha).1⟩
      have o1 := Ow1.mono (t.s.trans st.s) _ _ _ (fun a ha => (k1 a ha).2.1) ow
      have o2 := Ow1.mono st.s _ _ _ (fun a ha => (k2 a ha).2.1) ow2
      refine hq (.ref p) _ _ w2.base ⟨fp ++ (fp2 ++ []), .tup (.inl (.inl upd_same)) (.cons o1 (.cons o2 .nil)), ?_, fun a ha => ?_⟩
      · rw [List.append_nil]
        refine List.nodup_append.mpr ⟨nd, nd2, fun a ha b hb z => ?_⟩
        obtain ⟨_, ⟨xs, z2⟩, _⟩ := l1 a ha
        have := (fr2 b hb).1
        rw [← z, z2] at this
        cases this
      · rw [List.append_nil] at ha
        rcases List.mem_append.mp ha with z | z
        · exact ⟨(l1 a z).2.2, (k1 a z).2.2⟩
        · exact ⟨(k2 a z).2.2.2, (k2 a z).2.2.1⟩
    · cases hf
  · cases hf
theorem retN_red (q : rdS K T (ex Φ W .retN) De σ H) : tRetN De σ H := by
  obtain ⟨B, Hs, L, ρ, fl, w, hf, hq⟩ := q
  unfold ex at hf
  cases hf
  exact hq .non Hs H w.base ⟨[], .non, List.nodup_nil, fun a ha => by cases ha⟩
theorem iff_red {c : E} (q : rdS K T (ex Φ W (.iff c s1 s2)) De σ H) : tIfS (rdT K (ev Φ c)) (rdS K T (exs Φ W s1)) (rdS K T (exs Φ W s2)) De σ H := by
  obtain ⟨B, Hs, L, ρ, fl, w, hf, hq⟩ := q
  unfold ex at hf
  cases he : ev Φ c ρ with
  | none => rw [he] at hf; cases hf
  | some r =>
    rw [he] at hf
    simp only at hf
    cases ht : truth r.1 with
    | none => rw [ht] at hf; cases hf
    | some b =>
      rw [ht] at hf
      refine ⟨B, Hs, L, ρ, r, b, w.wf, he, ht, fun Hs1 H1 t => ?_⟩
      cases b with
      | true => rw [if_pos rfl]; exact ⟨B, Hs1, L, ρ, fl, w.stepS t, hf, hq.mono t.s Fr.refl⟩
      | false => rw [if_neg (by decide)]; exact ⟨B, Hs1, L, ρ, fl, w.stepS t, hf, hq.mono t.s Fr.refl⟩
theorem nil_red (q : rdS K T (exs Φ W .nil) De σ H) : tNext De σ H := by
  obtain ⟨B, Hs, L, ρ, fl, w, hf, hq⟩ := q
  unfold exs at hf
  cases hf
  exact hq Hs H L σ (Evl.Ex.refl _) Fr.refl w
theorem seq_red (q : rdS K T (exs Φ W (.cons s s1)) De σ H) : tSeq (rdS K T (ex Φ W s)) (rdS K T (exs Φ W s1)) De σ H := by
  obtain ⟨B, Hs, L, ρ, fl, w, hf, hq⟩ := q
  unfold exs at hf
  cases hx : ex Φ W s ρ with
  | none => rw [hx] at hf; cases hf
  | some f1 =>
    rw [hx] at hf
    refine ⟨B, Hs, L, ρ, f1, w, hx, ?_⟩
    cases f1 with
    | nx ρ' => exact fun Hs' H' L' σ' s r' w' => ⟨B, Hs', L', ρ', fl, w', hf, hq.mono s r'⟩
    | rt d l => cases hf; exact hq
    | bk ρ' => cases hf; exact hq
    | ct ρ' => cases hf; exact hq
theorem kill_red (q : rdS K T (exs Φ W (.cons (.kill k) s1)) De σ H) : rdS K T (exs Φ W s1) De σ H := by
  obtain ⟨B, Hs, L, ρ, fl, w, hf, hq⟩ := q
  unfold exs ex at hf
  exact ⟨B, Hs, L, wipeR k ρ, fl, wipeR_wf w k, hf, hq⟩
theorem brk_red (q : rdS K T (ex Φ W .brk) De σ H) : tBreak De σ H := by
  obtain ⟨B, Hs, L, ρ, fl, w, hf, hq⟩ := q
  unfold ex at hf
  cases hf
  exact hq Hs H L σ (Evl.Ex.refl _) Fr.refl w
theorem cnt_red (q : rdS K T (ex Φ W .cnt) De σ H) : tCont De σ H := by
  obtain ⟨B, Hs, L, ρ, fl, w, hf, hq⟩ := q
  unfold ex at hf
  cases hf
  exact hq Hs H L σ (Evl.Ex.refl _) Fr.refl w
theorem pass_red (q : rdS K T (ex Φ W .pass) De σ H) : tNext De σ H := by
  obtain ⟨B, Hs, L, ρ, fl, w, hf, hq⟩ := q
  unfold ex at hf
  cases hf
  exact hq Hs H L σ (Evl.Ex.refl _) Fr.refl w
theorem nev_red (q : rdS K T (ex Φ W .nev) De σ H) : tNever De σ H := by
  obtain ⟨B, Hs, L, ρ, fl, w, hf, hq⟩ := q
  unfold ex at hf
  cases hf
theorem whl_red {c : E} (q : rdS K T (ex Φ W (.whl c body k)) De σ H) : tWhile (rdT K (ev Φ c)) (rdS K T (exs Φ W body)) De σ H := by
  obtain ⟨B, Hs, L, ρ, fl, w, hf, hq⟩ := q
  unfold ex at hf
  generalize hc : (fun ρ' => match ev Φ c ρ' with
      | some r => truth r.1
      | none => none : Rho → Option Bool) = cf at hf
  refine ⟨fun m σ' H' => ∃ Hs2 L2 ρ2, Sub Hs Hs2 ∧ Fr T σ σ' ∧ WFS K B Hs2 H' L2 σ' ρ2 ∧ whlRun cf (fun ρ' => exs Φ W body ρ') k m ρ2 = some fl, ⟨W, Hs, L, ρ, Evl.Ex.refl _, Fr.refl, w, hf⟩, ?_⟩
  rintro m σ2 H2 ⟨Hs2, L2, ρ2, s2, r2, w2, hr⟩
  cases m with
  | zero => unfold whlRun at hr; cases hr
  | succ m =>
    unfold whlRun at hr
    cases hb : cf ρ2 with
    | none => rw [hb] at hr; cases hr
    | some b =>
      rw [hb] at hr
      rw [← hc] at hb
      simp only at hb
      cases he : ev Φ c ρ2 with
      | none => rw [he] at hb; cases hb
      | some r =>
        rw [he] at hb
        refine ⟨B, Hs2, L2, ρ2, r, b, w2.wf, he, hb, fun Hs3 H3 t => ?_⟩
        have w3 := w2.stepS t
        cases b with
        | false =>
          cases hr
          dsimp only
          rw [if_neg (by decide)]
          exact hq Hs3 H3 L2 σ2 (s2.trans t.s) r2 (wipeR_wf w3 k)
        | true =>
          dsimp only
          rw [if_pos rfl]
          simp only at hr
          refine ⟨fun σ' H' => ∃ Hs2 L2 ρ2, Sub Hs Hs2 ∧ Fr T σ σ' ∧ WFS K B Hs2 H' L2 σ' ρ2 ∧ whlRun cf (fun ρ' => exs Φ W body ρ') k m ρ2 = some fl, fun σ' H' h => ⟨m, Nat.lt_succ_self m, h⟩, ?_⟩
          cases hx : exs Φ W body ρ2 with
          | none => rw [hx] at hr; cases hr
          | some fb =>
            rw [hx] at hr
            refine ⟨B, Hs3, L2, ρ2, fb, w3, hx, ?_⟩
            cases fb with
            | nx ρ' => exact fun Hs' H' L' σ' s r' w' => ⟨Hs', L', _, (s2.trans t.s).trans s, r2.trans r', wipeR_wf w' k, hr⟩
            | ct ρ' => exact fun Hs' H' L' σ' s r' w' => ⟨Hs', L', _, (s2.trans t.s).trans s, r2.trans r', wipeR_wf w' k, hr⟩
            | bk ρ' =>
              cases hr
              exact fun Hs' H' L' σ' s r' w' => hq Hs' H' L' σ' ((s2.trans t.s).trans s) (r2.trans r') (wipeR_wf w' k)
            | rt d l =>
              cases hr
              exact hq
theorem for_red (hT : ∀ j ∈ tgP p, T j = true) (q : rdS K T (ex Φ W (.for_ p it body k)) De σ H) : tFor (rdI K (evi Φ it)) (rdGS K p) (rdS K T (exs Φ W body)) De σ H := by
  obtain ⟨B, Hs, L, ρ, fl, w, hf, hq⟩ := q
  unfold ex at hf
  cases hi : evi Φ it ρ with
  | none => rw [hi] at hf; cases hf
  | some q =>
    obtain ⟨xs, g1, g⟩ := q
    rw [hi] at hf
    simp only at hf
    generalize hF : (fun x ρ' => match setP p x (.sh []) ρ' with
        | some ρ'' => exs Φ W body ρ''
        | none => none : D → Rho → Option Fl) = F at hf
    refine ⟨B, Hs, L, ρ, xs, g1, g, w.wf, hi, fun J Hs1 H1 t1 hcov walk => ?_⟩
    have w1 := (w.stepS t1).freeze g
    have s1 : Sub Hs (VH L g Hs1 H1) := t1.s.trans vh_s
    refine ⟨fun i m σ' H' => m = xs.length - i ∧ i ≤ xs.length ∧ ∃ Hs2 L2 ρ2, Sub (VH L g Hs1 H1) Hs2 ∧ Fr T σ σ' ∧ WFS K B Hs2 H' L2 σ' ρ2 ∧ forRun F k (xs.drop i) ρ2 = some fl,
      ⟨xs.length, rfl, Nat.zero_le _, _, _, _, Evl.Ex.refl _, Fr.refl, w1, hf⟩, ?_⟩
    rintro i m σ2 H2 ⟨rfl, hi1, Hs2, L2, ρ2, s2, r2, w2, hr⟩
    obtain ⟨wstop, wgo⟩ := walk H2 (s2.trans w2.lok.sh)
    by_cases hlt : i < xs.length
    · refine .inr ?_
      obtain ⟨go, yld⟩ := wgo i xs[i] (List.getElem?_eq_getElem hlt)
      rw [List.drop_eq_getElem_cons hlt] at hr
      unfold forRun at hr
      refine ⟨go, fun σ' H' => ∃ Hs2 L2 ρ2, Sub (VH L g Hs1 H1) Hs2 ∧ Fr T σ σ' ∧ WFS K B Hs2 H' L2 σ' ρ2 ∧ forRun F k (xs.drop (i + 1)) ρ2 = some fl, fun σ' H' h => ⟨xs.length - (i + 1), by omega, rfl, hlt, h⟩, fun x H3 y => ?_⟩
      have sv : Sub (VH L g1 Hs1 H1) (VH L2 [] Hs2 H2) := by
        rw [vh_nil]
        exact (vh_tags hcov).trans s2
      obtain ⟨Hs3, t3, rx⟩ := item_step (g := []) w2.lok.sh sv w2.lok (yld x H3 y)
      rw [vh_nil] at rx
      have w3 := w2.stepS t3
      have hFi : F xs[i] ρ2 = (match setP p xs[i] (.sh []) ρ2 with
        | some ρ'' => exs Φ W body ρ''
        | none => none) := by rw [← hF]
      cases hset : setP p xs[i] (.sh []) ρ2 with
      | none => rw [hset] at hFi; rw [hFi] at hr; cases hr
      | some ρ'' =>
        rw [hset] at hFi
        simp only at hFi
        rw [hFi] at hr
        refine ⟨B, Hs3, L2, ρ2, ρ'', xs[i], .sh [], [], w3, ⟨rfl, rx⟩, hset, fun L4 σ4 w4 _ r4 => ?_⟩
        have r5 : Fr T σ σ4 := r2.trans fun j hj => r4 j fun z => by rw [hT j z] at hj; cases hj
        cases hx : exs Φ W body ρ'' with
        | none => rw [hx] at hr; cases hr
        | some fb =>
          rw [hx] at hr
          refine ⟨B, Hs3, L4, ρ'', fb, w4, hx, ?_⟩
          cases fb with
          | nx ρ' => exact fun Hs' H' L' σ' s r' w' => ⟨Hs', L', _, (s2.trans t3.s).trans s, r5.trans r', wipeR_wf w' k, hr⟩
          | ct ρ' => exact fun Hs' H' L' σ' s r' w' => ⟨Hs', L', _, (s2.trans t3.s).trans s, r5.trans r', wipeR_wf w' k, hr⟩
          | bk ρ' =>
            cases hr
            exact fun Hs' H' L' σ' s r' w' => hq Hs' H' L' σ' (((s1.trans s2).trans t3.s).trans s) (r5.trans r') (wipeR_wf w' k)
          | rt d l =>
            cases hr
            exact hq
    · have e : i = xs.length := by omega
      subst e
      refine .inl ⟨wstop, ?_⟩
      rw [List.drop_length] at hr
      unfold forRun at hr
      cases hr
      exact hq Hs2 H2 L2 σ2 (s1.trans s2) r2 (wipeR_wf w2 k)
theorem forT_red (hT : ∀ m ∈ tgP p, (T m && !(m == i)) = true) (q : rdS K T (ex Φ W (.forT i p body k)) De σ H) : tFor (rdI K (evi Φ (.ex (.var i)))) (rdGS K p) (rdS K (fun m => T m && !(m == i)) (exs Φ W body)) De σ H := by
  obtain ⟨B, Hs, L, ρ, fl, w, hf, hq⟩ := q
  unfold ex at hf
  split at hf
  case h_2 => cases hf
  rename_i xs hs
  generalize hF : (fun x ρ' => match setP p x (.sh []) ρ' with
      | some ρ'' => exs Φ W body ρ''
      | none => none : D → Rho → Option Fl) = F at hf
  have hi : evi Φ (.ex (.var i)) ρ = some (xs, [(i, false)], [(i, true)]) := by
    have e : flat (.list xs) = false := by unfold flat; rfl
    have he : ev Φ (.var i) ρ = some (.list xs, .sh [(i, true)]) := by
      unfold ev
      rw [hs]
      simp only [e]
      rfl
    have hp : pkT (.var i) ρ [(i, true)] = [(i, false)] := by
      unfold pkT
      simp only [hs, e]
      rfl
    unfold evi
    rw [he]
    show some (xs, pkT (.var i) ρ [(i, true)], [(i, true)]) = _
    rw [hp]
  obtain ⟨vi, hvi, sli⟩ := w.slot i _ hs
  rcases sli with ⟨a, ys, ds', fp, e1, e2, e3, e4, e5, e6, e7⟩ | ⟨z0, _⟩
  case inr => exact absurd rfl (z0 xs)
  cases e1
  subst e2
  obtain ⟨g1, hg1⟩ : ∃ g1 : List Tag, g1 = [(i, false)] := ⟨_, rfl⟩
  obtain ⟨g, hg⟩ : ∃ g : List Tag, g = [(i, true)] := ⟨_, rfl⟩
  rw [← hg] at hf hi
  rw [← hg1] at hi
  have Tsub : ∀ m, T m = false → (T m && !(m == i)) = false := fun m hm => by rw [hm]; rfl
  cases h0 : forRun F k xs (frz g ρ) with
  | none => rw [h0] at hf; cases hf
  | some f0 =>
    rw [h0] at hf
    refine ⟨B, Hs, L, ρ, xs, g1, g, w.wf, hi, fun J Hs1 H1 t1 hcov walk => ?_⟩
    have w1 := (w.stepS t1).freeze g
    have s1 : Sub Hs (VH L g Hs1 H1) := t1.s.trans vh_s
    have nd : (a :: fp).Nodup := List.nodup_cons.mpr ⟨fun z => (by
      have := e7 a z
      rw [e4] at this
      cases this), e6⟩
    have reg : ∀ c ∈ a :: fp, ∃ x, L c = some (i, x) := fun c hc => by
      rcases List.mem_cons.mp hc with z | z
      · rw [z]; exact ⟨true, e4⟩
      · exact ⟨false, e7 c z⟩
    have vhR : ∀ c ∈ a :: fp, VH L g Hs1 H1 c = H c := fun c hc => by
      obtain ⟨x, hx⟩ := reg c hc
      obtain ⟨n1, zs, n2⟩ := w.lok.lab c _ hx
      have n3 : Hs1 c = none := by rw [t1.ag c (by rw [n2]; intro z; cases z)]; exact n1
      rw [vh_lab n3 hx (by rw [hg]; unfold cov hasT; simp), n2]
      exact t1.h c _ n2
    have fin : ∀ Hs2 H2 Lq σ2 ρ2, Sub (VH L g Hs1 H1) Hs2 → Fr (fun m => T m && !(m == i)) σ σ2 → WFS K B Hs2 H2 Lq σ2 ρ2 → f0 = .nx ρ2 → De.nx σ2 H2 := fun Hs2 H2 Lq σ2 ρ2 s2 r2 w2 e0 => by
      subst e0
      have hf' : (if thawFrom i 0 ρ2 then some (Fl.nx (ρ2.set i (some (.list xs, .own)))) else none) = some fl := hf
      obtain ⟨th, ef⟩ := ite_some hf'
      subst ef
      have hv2 : σ2[i]? = some (some (.ref a)) := by rw [r2 i (by simp)]; exact hvi
      obtain ⟨Hs3, L3, s3, w3⟩ := w2.thaw hv2 e3 e5 nd (fun c hc => by
        obtain ⟨x, hx⟩ := reg c hc
        obtain ⟨n1, zs, n2⟩ := w.lok.lab c _ hx
        refine ⟨n1, w.lab0 c _ hx, ⟨zs, n2⟩, ?_⟩
        have := vhR c hc
        rw [n2] at this ⊢
        exact s2 c _ this) (s1.trans s2) th
      exact hq Hs3 H2 L3 σ2 s3 (fun m hm => r2 m (Tsub m hm)) w3
    refine ⟨fun i' m σ' H' => m = xs.length - i' ∧ i' ≤ xs.length ∧ ∃ Hs2 Lq ρ2, Sub (VH L g Hs1 H1) Hs2 ∧ Fr (fun m => T m && !(m == i)) σ σ' ∧ WFS K B Hs2 H' Lq σ' ρ2 ∧ forRun F k (xs.drop i') ρ2 = some f0,
      ⟨xs.length, rfl, Nat.zero_le _, _, _, _, Evl.Ex.refl _, Fr.refl, w1, h0⟩, ?_⟩
    rintro i' m σ2 H2 ⟨rfl, hi1, Hs2, Lq, ρ2, s2, r2, w2, hr⟩
    obtain ⟨wstop, wgo⟩ := walk H2 (s2.trans w2.lok.sh)
    by_cases hlt : i' < xs.length
    · refine .inr ?_
      obtain ⟨go, yld⟩ := wgo i' xs[i'] (List.getElem?_eq_getElem hlt)
      rw [List.drop_eq_getElem_cons hlt] at hr
      unfold forRun at hr
      refine ⟨go, fun σ' H' => ∃ Hs2 Lq ρ2, Sub (VH L g Hs1 H1) Hs2 ∧ Fr (fun m => T m && !(m == i)) σ σ' ∧ WFS K B Hs2 H' Lq σ' ρ2 ∧ forRun F k (xs.drop (i' + 1)) ρ2 = some f0, fun σ' H' h => ⟨xs.length - (i' + 1), by omega, rfl, hlt, h⟩, fun x H3 y => ?_⟩
      have sv : Sub (VH L g1 Hs1 H1) (VH Lq [] Hs2 H2) := by
        rw [vh_nil]
        exact (vh_tags hcov).trans s2
      obtain ⟨Hs3, t3, rx⟩ := item_step (g := []) w2.lok.sh sv w2.lok (yld x H3 y)
      rw [vh_nil] at rx
      have w3 := w2.stepS t3
      have hFi : F xs[i'] ρ2 = (match setP p xs[i'] (.sh []) ρ2 with
        | some ρ'' => exs Φ W body ρ''
        | none => none) := by rw [← hF]
      cases hset : setP p xs[i'] (.sh []) ρ2 with
      | none => rw [hset] at hFi; rw [hFi] at hr; cases hr
      | some ρ'' =>
        rw [hset] at hFi
        simp only at hFi
        rw [hFi] at hr
        refine ⟨B, Hs3, Lq, ρ2, ρ'', xs[i'], .sh [], [], w3, ⟨rfl, rx⟩, hset, fun L4 σ4 w4 _ r4 => ?_⟩
        have r5 : Fr (fun m => T m && !(m == i)) σ σ4 := r2.trans fun j hj => r4 j fun z => by
          have hj' : (T j && !(j == i)) = false := hj
          rw [hT j z] at hj'
          cases hj'
        cases hx : exs Φ W body ρ'' with
        | none => rw [hx] at hr; cases hr
        | some fb =>
          rw [hx] at hr
          refine ⟨B, Hs3, L4, ρ'', fb, w4, hx, ?_⟩
          cases fb with
          | nx ρ' => exact fun Hs' H' L' σ' s r' w' => ⟨Hs', L', _, (s2.trans t3.s).trans s, r5.trans r', wipeR_wf w' k, hr⟩
          | ct ρ' => exact fun Hs' H' L' σ' s r' w' => ⟨Hs', L', _, (s2.trans t3.s).trans s, r5.trans r', wipeR_wf w' k, hr⟩
          | bk ρ' =>
            cases hr
            exact fun Hs' H' L' σ' s r' w' => fin Hs' H' L' σ' _ ((s2.trans t3.s).trans s) (r5.trans r') (wipeR_wf w' k) rfl
          | rt d l =>
            cases hr
            cases hf
            exact hq
    · have e : i' = xs.length := by omega
      subst e
      refine .inl ⟨wstop, ?_⟩
      rw [List.drop_length] at hr
      unfold forRun at hr
      cases hr
      exact fin Hs2 H2 Lq σ2 _ s2 r2 (wipeR_wf w2 k) rfl
end
end Z
/-! ZU: the check of statements, and what it promises. -/
namespace Z
open PySem L2 PySem.Spec PyProof.Rows

def noComp : Expr → Bool
  | .ListComp _ _ _ _ => false
  | .SetComp _ _ _ _ => false
  | .DictComp _ _ _ _ _ => false
  | _ => true
def isLC : Expr → Bool
  | .ListComp _ _ _ _ => true
  | _ => false
/-- the comprehension's value is stored by the other road -/
def swB (sc : Scope) (x tg : Expr) : Bool := match x, tg with
  | .ListComp _ _ s p, .Name t q => (sc.names.lookup t == some .local && q.line == p.line && !(s.names.any fun (n, k) => n == t && (k == .local || k == .cell)))
  | _, _ => false
def locN (sc : Scope) : Expr → Bool
  | .Name f _ => sc.names.lookup f == some .local
  | _ => false
def swNone (sc : Scope) : Expr → Expr → Bool
  | .Tuple ts _ _, .Tuple vs _ _ => vs.all (foldedForSure 8) || !(ts.all (locN sc))
  | _, _ => true
def isLcE : Pat → E → Bool
  | .nm _, .lc _ _ _ _ _ => true
  | _, _ => false
def chkAsg (C : Cn) (sc : Scope) (p : Pat) (e : E) (tg x : Expr) : Bool :=
  chkP C.N sc (fun _ => true) p tg && chkE C sc e x && (noComp x || isLC x) && (if swB sc x tg then isLcE p e else swNone sc tg x)
def mAsg : Stmt → Option (Expr × Expr)
  | .Assign [tg] x _ => some (tg, x)
  | _ => none
def mPar : Stmt → Option (Str × Nat × Str × Nat × Expr × Expr)
  | .Assign [.Tuple [.Name x px, .Name y py] _ _] (.Tuple [u, v] _ _) _ => some (x, px.line, y, py.line, u, v)
  | _ => none
def mSetI : Stmt → Option (Expr × Expr × Expr)
  | .Assign [.Subscript o z _] x _ => some (o, z, x)
  | _ => none
def mApp (nm : Str) : Stmt → Option (Expr × Expr)
  | .Expr (.Call (.Attribute o f apos) [x] kw cpos) _ => if f = nm ∧ noKw kw = true ∧ (apos.endLine == cpos.line) = true then some (o, x) else none
  | _ => none
def mExpr : Stmt → Option Expr
  | .Expr x _ => some x
  | _ => none
def mRet : Stmt → Option Expr
  | .Return (some x) _ => some x
  | _ => none
def mRetN : Stmt → Bool
  | .Return none _ => true
  | _ => false
def mIfS : Stmt → Option (Expr × List Stmt × List Stmt)
  | .If x a b _ => some (x, a, b)
  | _ => none
def mFor : Stmt → Option (Expr × Expr × List Stmt)
  | .For t x b [] _ => some (t, x, b)
  | _ => none
def mWhl : Stmt → Option (Expr × List Stmt)
  | .While x b [] _ => some (x, b)
  | _ => none
def mBrk : Stmt → Bool
  | .Break _ => true
  | _ => false
def mCnt : Stmt → Bool
  | .Continue _ => true
  | _ => false
def mPass : Stmt → Bool
  | .Pass _ => true
  | .Expr (.Constant (.str _) _ _) _ => true
  | _ => false
def notVar : E → Bool
  | .var _ => false
  | _ => true
def isStar : Expr → Bool
  | .Starred _ _ => true
  | _ => false
def parB (N : List Str) (sc : Scope) (i j : Nat) (x y : Str) (lx ly : Nat) (u v : Expr) : Bool :=
  decide (N[i]? = some x) && decide (N[j]? = some y) && decide (i ≠ j) && decide (x ≠ y) && (match sc.names.lookup x with
    | some .local => true
    | _ => false) && (match sc.names.lookup y with
    | some .local => true
    | _ => false) && decide (ly = lx) && !([u, v].all (foldedForSure 8)) && !([u, v].all (constantsAlone 8)) && !([u, v].any isStar)
def locB (sc : Scope) (x : Str) : Bool := match sc.names.lookup x with
  | some .local => true
  | _ => false
def mPar3 : Stmt → Option ((Str × Nat × Expr) × (Str × Nat × Expr) × (Str × Nat × Expr))
  | .Assign [.Tuple [.Name x px, .Name y py, .Name z pz] _ _] (.Tuple [u, v, w] _ _) _ => some ((x, px.line, u), (y, py.line, v), (z, pz.line, w))
  | _ => none
def par3B (N : List Str) (sc : Scope) (i j l : Nat) (x y z : Str) (lx ly lz : Nat) (u v w : Expr) : Bool :=
  decide (N[i]? = some x) && decide (N[j]? = some y) && decide (N[l]? = some z) && decide (i ≠ j ∧ i ≠ l ∧ j ≠ l) && decide (x ≠ y ∧ x ≠ z ∧ y ≠ z) && (locB sc x && locB sc y && locB sc z) && decide (ly = lx ∧ lz = lx) &&
    !([u, v, w].all (foldedForSure 8)) && !([u, v, w].all (constantsAlone 8)) && !([u, v, w].any isStar)
def mRet2 : Stmt → Option (Expr × Expr)
  | .Return (some (.Tuple [y, x] _ _)) _ => some (y, x)
  | _ => none
def mPath (C : Cn) (sc : Scope) (i : Nat) : List Nat → Expr → Bool
  | [], o => mVar C sc i o
  | k :: r, .Subscript o (.Constant (.int n) _ _) _ => decide (n = (k : Int)) && mPath C sc i r o
  | _ :: _, _ => false
mutual
def chkS (C : Cn) (sc : Scope) : S → Stmt → Bool
  | .asg p e, st => match mAsg st with
    | some (tg, x) => chkAsg C sc p e tg x
    | none => false
  | .par i j a b, st => match mPar st with
    | some (x, lx, y, ly, u, v) => parB C.N sc i j x y lx ly u v && chkE C sc a u && chkE C sc b v
    | none => false
  | .setI i k e, st => match mSetI st with
    | some (o, z, x) => mVar C sc i o && notSlice z && chkE C sc k z && chkE C sc e x && (noComp x || isLC x)
    | none => false
  | .app i e, st => match mApp "append" st with
    | some (o, x) => mVar C sc i o && chkE C sc e x
    | none => false
  | .drop e, st => match mExpr st with
    | some x => chkE C sc e x && noComp x
    | none => false
  | .ret e, st => match mRet st with
    | some x => chkE C sc e x
    | none => false
  | .retN, st => mRetN st
  | .appM i j, st => match mApp "append" st with
    | some (o, x) => mVar C sc i o && mVar C sc j x
    | none => false
  | .forT i p body _, st => match mFor st with
    | some (t, x, b) => chkP C.N sc (fun _ => true) p t && (chkI C sc (.ex (.var i)) x t && (!(tgP p ++ tgSs body).contains i && chkSs C sc body b))
    | none => false
  | .ret2 i e, st => match mRet2 st with
    | some (y, x) => mVar C sc i y && chkE C sc e x
    | none => false
  | .iff c a b, st => match mIfS st with
    | some (x, s, t) => chkE C sc c x && chkSs C sc a s && chkSs C sc b t
    | none => false
  | .for_ p it body _, st => match mFor st with
    | some (t, x, b) => chkP C.N sc (fun _ => true) p t && chkI C sc it x t && chkSs C sc body b
    | none => false
  | .whl c body _, st => match mWhl st with
    | some (x, b) => chkE C sc c x && chkSs C sc body b
    | none => false
  | .brk, st => mBrk st
  | .cnt, st => mCnt st
  | .pass, st => mPass st
  | .nev, _ => true
  | .par3 i j l a b c, st => match mPar3 st with
    | some ((x, lx, u), (y, ly, v), (z, lz, w)) => par3B C.N sc i j l x y z lx ly lz u v w && (chkE C sc a u && (chkE C sc b v && chkE C sc c w))
    | none => false
  | .appK i rs e, st => match mApp "append" st with
    | some (o, x) => mPath C sc i rs o && chkE C sc e x
    | none => false
  | .ext _ _, _ => false
  | .kill _, _ => false
def chkSs (C : Cn) (sc : Scope) : Ss → List Stmt → Bool
  | .nil, sts => match sts with
    | [] => true
    | _ => false
  | .cons s r, sts => (match s with
      | .kill _ => chkSs C sc r sts
      | _ => match sts with
        | st :: rest => chkS C sc s st && chkSs C sc r rest
        | [] => false)
end

structure SOk (X : Cx) (C : Cn) (sc : Scope) (Φ : Fn) : Prop where
  x : XOk X C sc (fun _ => true) Φ
  pass : PassesOwn (model X.prog X.w) X.A X.env X.xe
  kind : sc.kind = .function
section
variable {X : Cx} {C : Cn} {sc : Scope} {Φ : Fn} {W : Nat} {x y z tg : Expr} {st : Stmt} {sts : List Stmt} {t t' : TS} {env : Env} {l : Nat} {e : E} {p : Pat} {i j : Nat}
theorem ps_imp (h : PS X st t) (hi : ∀ D σ H, t' D σ H → t D σ H) : PS X st t' := ⟨fun pins s σ H D I q => h.run pins s σ H D I (hi D σ H q)⟩
theorem pss_imp (h : PSs X sts t) (hi : ∀ D σ H, t' D σ H → t D σ H) : PSs X sts t' := ⟨fun pins s σ H D I q => h.run pins s σ H D I (hi D σ H q)⟩
theorem sw_no (h : noComp x = true) (o : Option Expr) : swapsWith x o l env = pure false := by
  cases x <;> first | rfl | (unfold noComp at h; cases h)
theorem sw_lc (hs : env.scope = sc) (hk : sc.kind = .function) (h : isLC x = true) (b : swB sc x tg = false) : swapsWith x (some tg) l env = pure false := by
  unfold isLC at h
  split at h
  · rename_i elt gs s p
    cases tg with
    | Name t q =>
      have kb : env.blockKind = .function := by unfold Env.blockKind; rw [hs, hk]; rfl
      have kt : env.kindOf t = sc.names.lookup t := by rw [← hs]; rfl
      unfold swB at b
      unfold swapsWith
      show (pure (env.blockKind == .function && env.kindOf t == some .local && q.line == p.line && !(s.names.any fun (n, k) => n == t && (k == .local || k == .cell))) : Sem Bool) = pure false
      rw [kb, kt]
      have e : ((ScopeKind.function == ScopeKind.function) && sc.names.lookup t == some .local && q.line == p.line && !(s.names.any fun (n, k) => n == t && (k == .local || k == .cell))) = false := b
      rw [e]
    | _ => rfl
  · cases h
theorem sw_any (hs : env.scope = sc) (hk : sc.kind = .function) (h : (noComp x || isLC x) = true) (b : swB sc x tg = false) : swapsWith x (some tg) l env = pure false := by
  rw [Bool.or_eq_true] at h
  rcases h with h | h
  · exact sw_no h _
  · exact sw_lc hs hk h b
theorem swap_none (hs : env.scope = sc) (hp : isTup tg = true ∨ ∃ f q, tg = .Name f q) (h : swNone sc tg x = true) : swappedStores [tg] x env = pure none := by
  rcases hp with hp | ⟨f, q, rfl⟩
  · obtain ⟨ts, k, q, rfl⟩ := isTup_inv hp
    cases x with
    | Tuple vs k2 q2 =>
      have h' : (vs.all (foldedForSure 8) || !(ts.all (locN sc))) = true := h
      rw [Bool.or_eq_true] at h'
      unfold swappedStores
      dsimp only
      split
      · rfl
      · split
        · rfl
        · split
          · rfl
          · rename_i h3
            rcases h' with h' | h'
            · first | rfl | rw [if_pos h']
            · exfalso
              apply h3
              rw [Bool.or_eq_true]
              refine .inl ?_
              rw [bne_iff_ne, ne_eq, List.filterMap_length_eq_length]
              intro all
              rw [Bool.not_eq_true'] at h'
              have z : ts.all (locN sc) = true := List.all_eq_true.mpr fun t ht => by
                have q := all t ht
                cases t with
                | Name f p =>
                  show (sc.names.lookup f == some .local) = true
                  have q' : (if (env.kindOf f == some NameKind.local && _) = true then some f else none).isSome = true := q
                  split at q'
                  · rename_i e
                    rw [Bool.and_eq_true] at e
                    have e1 := e.1
                    rw [← hs]
                    exact e1
                  · cases q'
                | _ => cases q
              rw [z] at h'
              cases h'
    | _ => rfl
  · cases x <;> rfl
theorem swap_par {a b : Str} {px py q q2 : Pos} {k k2 : Nat} {u v : Expr} (hs : env.scope = sc) (hk : sc.kind = .function) (ha : sc.names.lookup a = some .local) (hb : sc.names.lookup b = some .local) (hne : a ≠ b) (hl : py.line = px.line)
    (h1 : [u, v].all (foldedForSure 8) = false) (h2 : [u, v].all (constantsAlone 8) = false) (h3 : [u, v].any isStar = false) :
    swappedStores [.Tuple [.Name a px, .Name b py] k q] (.Tuple [u, v] k2 q2) env = pure (some [a, b]) := by
  have kb : env.blockKind = .function := by unfold Env.blockKind; rw [hs, hk]; rfl
  have ka : env.kindOf a = some .local := by rw [← ha, ← hs]; rfl
  have kb2 : env.kindOf b = some .local := by rw [← hb, ← hs]; rfl
  have hne' : ¬ b = a := fun z => hne z.symm
  unfold swappedStores
  dsimp only
  have nm : (List.filterMap (fun x => match x with
      | Expr.Name id pos => if (env.kindOf id == some NameKind.local && pos.line == (Option.map (fun x : Expr => x.pos.line) [Expr.Name a px, Expr.Name b py].head?).getD 0) = true then some id else none
      | x => none) [Expr.Name a px, Expr.Name b py]) = [a, b] := by
    simp [ka, kb2, hl, Expr.pos]
  split
  · rename_i h
    rw [kb] at h
    simp at h
  · split
    · rename_i h
      exact absurd (show [u, v].any isStar = true from h) (by rw [h3]; decide)
    · split
      · rename_i h
        have e : List.eraseDups [a, b] = [a, b] := by simp [List.eraseDups_cons, hne']
        have h' : ((([a, b] : List Str).length != [Expr.Name a px, Expr.Name b py].length) || ((List.eraseDups [a, b]).length != ([a, b] : List Str).length)) = true := by
          rw [← nm]
          exact h
        rw [e] at h'
        simp at h'
      · rw [h1, h2]
        show pure (some _) = pure (some _)
        congr 1
        congr 1
theorem swap_par3 {a b c : Str} {px py pz q q2 : Pos} {k k2 : Nat} {u v w : Expr} (hs : env.scope = sc) (hk : sc.kind = .function) (ha : sc.names.lookup a = some .local) (hb : sc.names.lookup b = some .local) (hc : sc.names.lookup c = some .local) (hne : a ≠ b ∧ a ≠ c ∧ b ≠ c) (hl : py.line = px.line ∧ pz.line = px.line)
    (h1 : [u, v, w].all (foldedForSure 8) = false) (h2 : [u, v, w].all (constantsAlone 8) = false) (h3 : [u, v, w].any isStar = false) :
    swappedStores [.Tuple [.Name a px, .Name b py, .Name c pz] k q] (.Tuple [u, v, w] k2 q2) env = pure (some [a, b, c]) := by
  have kb : env.blockKind = .function := by unfold Env.blockKind; rw [hs, hk]; rfl
  have ka : env.kindOf a = some .local := by rw [← ha, ← hs]; rfl
  have kb2 : env.kindOf b = some .local := by rw [← hb, ← hs]; rfl
  have kc2 : env.kindOf c = some .local := by rw [← hc, ← hs]; rfl
  have hne1 : ¬ b = a := fun z => hne.1 z.symm
  have hne2 : ¬ c = a := fun z => hne.2.1 z.symm
  have hne3 : ¬ c = b := fun z => hne.2.2 z.symm
  unfold swappedStores
  dsimp only
  have nm : (List.filterMap (fun x => match x with
      | Expr.Name id pos => if (env.kindOf id == some NameKind.local && pos.line == (Option.map (fun x : Expr => x.pos.line) [Expr.Name a px, Expr.Name b py, Expr.Name c pz].head?).getD 0) = true then some id else none
      | x => none) [Expr.Name a px, Expr.Name b py, Expr.Name c pz]) = [a, b, c] := by
    simp [ka, kb2, kc2, hl.1, hl.2, Expr.pos]
  split
  · rename_i h
    rw [kb] at h
    simp at h
  · split
    · rename_i h
      exact absurd (show [u, v, w].any isStar = true from h) (by rw [h3]; decide)
    · split
      · rename_i h
        have e : List.eraseDups [a, b, c] = [a, b, c] := by simp [List.eraseDups_cons, hne1, hne2, hne3]
        have h' : ((([a, b, c] : List Str).length != [Expr.Name a px, Expr.Name b py, Expr.Name c pz].length) || ((List.eraseDups [a, b, c]).length != ([a, b, c] : List Str).length)) = true := by
          rw [← nm]
          exact h
        rw [e] at h'
        simp at h'
      · rw [h1, h2]
        show pure (some _) = pure (some _)
        congr 1
        congr 1
end
end Z
/-! ZV: every statement that the check accepts. -/
namespace Z
open PySem L2 PySem.Spec PyProof.Rows

section
variable {X : Cx} {C : Cn} {sc : Scope} {Φ : Fn} {W : Nat} {x y z tg : Expr} {st : Stmt} {sts : List Stmt} {t t' : TS} {env : Env} {l : Nat} {e a b : E} {p : Pat} {i j : Nat} {K : PySem.W.Frag} {T : Nat → Bool}
theorem gnm_red : ∀ v σ H Q, rdGS K (.nm i) v σ H Q → gName i v σ H Q := fun v σ H Q q => by
  obtain ⟨B, Hs, L, ρ, ρ', d, o, fp, w, hd, hs, hq⟩ := q
  unfold setP at hs
  obtain ⟨_, e⟩ := ite_some hs
  subst e
  exact hq _ _ (w.putS hd i) (fun b hb => setL_out hb) fun j hj => List.getElem?_set_ne fun z => hj (by unfold tgP; rw [z]; exact List.mem_singleton.mpr rfl)
/-- the parts of a comprehension that the check accepts -/
structure LcP (X : Cx) (Φ : Fn) (C : Cn) (vs : List Nat) (elt : E) (p : Pat) (it : It) (ifs : Es) (y tg ie : Expr) (fs : List Expr) (scope : Scope) : Prop where
  hi : PI X tg ie (rdI X.K (evi Φ it))
  ok : BlkOk X.N X.env.scope scope (ownOf C.N vs)
  hg : ∀ (s : Shared) (H : Hp) (D : Addr) (cl : List (Str × Addr)) (fp : List Addr), PG (X.blk s H scope (compEnvC scope cl D X.env) fp) tg (rdG X.K p)
  ht : ∀ (s : Shared) (H : Hp) (D : Addr) (cl : List (Str × Addr)) (fp : List Addr), PTs (X.blk s H scope (compEnvC scope cl D X.env) fp) fs (rdTs X.K (evts Φ ifs))
  he : ∀ (s : Shared) (H : Hp) (D : Addr) (cl : List (Str × Addr)) (fp : List Addr), PE (X.blk s H scope (compEnvC scope cl D X.env) fp) y (rdE X.K (ev Φ elt))
  hs : ∀ x, foldedSetIterable ie X.env x = pure x
  hp : pIn vs p = true
theorem lc_parts {vs : List Nat} {elt : E} {it : It} {ifs : Es} {fc : Str → Bool} (o : XOk X C sc fc Φ) (h : chkE C sc (.lc vs elt p it ifs) x = true) :
    ∃ y tg ie fs scope pos, x = .ListComp y [⟨tg, ie, fs, 0⟩] scope pos ∧ LcP X Φ C vs elt p it ifs y tg ie fs scope := by
  unfold chkE at h
  split at h
  · rename_i y tg ie fs scope e
    simp only [Bool.and_eq_true] at h
    obtain ⟨⟨⟨⟨⟨h1, h2⟩, h3⟩, h4⟩, h5⟩, h6⟩ := h
    obtain ⟨i1, i2⟩ := chkI_ok it X sc fc ie tg o h4
    unfold mLc at e
    split at e
    · rename_i x0 tg0 ie0 fs0 as0 scope0 pos0
      obtain ⟨z, q⟩ := ite_some e
      cases q
      subst z
      refine ⟨_, _, _, _, _, _, rfl, i1, by rw [o.N, o.sc]; exact blkOk_by h1, fun s H D cl fp => ?_, fun s H D cl fp => ?_, fun s H D cl fp => ?_, i2 X.env, h2⟩
      · exact (chkP_ok (X := X.blk s H scope (compEnvC scope cl D X.env) fp) o.calm (by show X.N.Nodup; rw [o.N]; exact o.nd) (o.blk s H scope D cl fp).sc rfl p tg (by show chkP X.N _ _ _ _ = true; rw [o.N]; exact h3)).1
      · exact chkT_ok ifs (X.blk s H scope (compEnvC scope cl D X.env) fp) _ _ fs (o.blk s H scope D cl fp) h5
      · exact (chkE_ok elt (X.blk s H scope (compEnvC scope cl D X.env) fp) _ _ y (o.blk s H scope D cl fp) h6).vE
    · cases e
  · cases h
theorem ownOf_snd (N : List Str) (vs : List Nat) : (ownOf N vs).map (·.2) = vs := by unfold ownOf; rw [List.map_map]; exact List.map_id vs
theorem var_raw {fc : Str → Bool} (o : XOk X C sc fc Φ) (h : mVar C sc i x = true) : PE X x (tVar i) := by
  unfold mVar at h
  split at h
  · rename_i f pos
    simp only [Bool.and_eq_true, decide_eq_true_eq] at h
    obtain ⟨⟨q1, q2⟩, q3⟩ := h
    obtain ⟨n1, n2, n3⟩ := okN_of q3
    exact pe_var (by rw [o.N]; exact q1) (vis_of o q2) n1 n2
  · cases h
theorem mVar_name (h : mVar C sc i x = true) : ∃ f q, x = .Name f q := by
  unfold mVar at h
  split at h
  · exact ⟨_, _, rfl⟩
  · cases h
theorem mAsg_inv (h : mAsg st = some (tg, x)) : ∃ q, st = .Assign [tg] x q := by
  unfold mAsg at h
  split at h
  · cases h
    exact ⟨_, rfl⟩
  · cases h
theorem chkP_shape {N : List Str} {fc : Str → Bool} (h : chkP N sc fc p x = true) : isTup x = true ∨ ∃ f q, x = .Name f q := by
  unfold chkP at h
  split at h
  · exact .inr ⟨_, _, rfl⟩
  · exact .inl rfl
  · cases h
theorem stmt_asg (o : SOk X C sc Φ) (hT : ∀ j ∈ tgP p, T j = true) (h : mAsg st = some (tg, x)) (hc : chkAsg C sc p e tg x = true) : PS X st (rdS X.K T (ex Φ W (.asg p e))) := by
  obtain ⟨q, rfl⟩ := mAsg_inv h
  unfold chkAsg at hc
  simp only [Bool.and_eq_true] at hc
  obtain ⟨⟨⟨h1, h2⟩, h3⟩, h4⟩ := hc
  have hs := o.x.sc
  have hN : X.N.Nodup := by rw [o.x.N]; exact o.x.nd
  have hk := o.kind
  cases hb : swB sc x tg with
  | false =>
    rw [hb, if_neg (by decide)] at h4
    have hg := (chkPS_ok (X := X) o.x.calm hN hs o.x.fn p tg (by rw [o.x.N]; exact h1))
    exact ps_imp (ps_asg (chkE_ok e X sc _ x o.x h2).vE hg.1 (sw_any hs hk h3 hb) (swap_none hs (chkP_shape h1) h4) (by rw [hg.2 []]; rfl)) fun D σ H q => asg_red hT q
  | true =>
    rw [hb, if_pos rfl] at h4
    unfold isLcE at h4
    split at h4
    · rename_i i0 vs elt p1 it ifs
      obtain ⟨y, tg1, ie, fs, scope, pos, rfl, lp⟩ := lc_parts o.x h2
      unfold chkP at h1
      split at h1
      · rename_i i1 f fp e0
        cases e0
        rw [Bool.and_eq_true, decide_eq_true_eq] at h1
        unfold swB at hb
        simp only [Bool.and_eq_true] at hb
        obtain ⟨⟨b1, b2⟩, b3⟩ := hb
        have bl : X.env.scope.names.lookup f = some .local := by
          rw [hs]
          revert b1
          cases sc.names.lookup f with
          | none => intro z; cases z
          | some k => cases k <;> intro z <;> first | rfl | cases z
        have key := ps_setLc (pos := pos) (spos := q) (py := fp) (i := i0) (y := f) o.x.calm hN (by rw [o.x.N]; exact h1.1) bl (sw_true (by rw [hs]; exact hk) bl b2 (by simpa using b3)) lp.hi lp.ok lp.hg lp.ht lp.he lp.hs
        rw [ownOf_snd] at key
        refine ps_imp key fun D σ H q => ?_
        have r := asg_red hT q
        exact lc_red lp.hp (rdE_mono r fun v H1 q2 => gnm_red v σ H1 _ q2)
      · rename_i e0
        cases e0
      · cases h1
    · cases h4
where
  rdE_mono {f : Rho → Option R} {σ : L2.St} {H : Hp} {Q Q' : VK} (h : rdE X.K f σ H Q) (hq : ∀ v H, Q v H → Q' v H) : rdE X.K f σ H Q' := by
    obtain ⟨B, Hs, L, ρ, r, w, hf, h⟩ := h
    exact ⟨B, Hs, L, ρ, r, w, hf, fun v Hs' H' t rel => hq v H' (h v Hs' H' t rel)⟩
theorem loc1 {f : Str} (h : (match sc.names.lookup f with
    | some .local => true
    | _ => false) = true) : sc.names.lookup f = some .local := by
  split at h
  · assumption
  · cases h
theorem stmt_par {f g : Str} {lx ly : Nat} {u v : Expr} (o : SOk X C sc Φ) (hT : T i = true ∧ T j = true) (h : mPar st = some (f, lx, g, ly, u, v)) (hp : parB C.N sc i j f g lx ly u v = true) (sa : Snd X Φ a u) (sb : Snd X Φ b v) : PS X st (rdS X.K T (ex Φ W (.par i j a b))) := by
  unfold mPar at h
  split at h
  · rename_i f0 px g0 py k1 q1 u0 v0 k2 q2 q3
    cases h
    unfold parB at hp
    simp only [Bool.and_eq_true, decide_eq_true_eq, Bool.not_eq_true'] at hp
    obtain ⟨⟨⟨⟨⟨⟨⟨⟨⟨p1, p2⟩, p3⟩, p4⟩, p5⟩, p6⟩, p7⟩, p8⟩, p9⟩, p10⟩ := hp
    have hN : X.N.Nodup := by rw [o.x.N]; exact o.x.nd
    have l1 := loc1 p5
    have l2 := loc1 p6
    have key := ps_par (pos := q3) (kt := k1) (pt := q1) (k2 := k2) (pt2 := q2) (px := px) (py := py) o.x.calm hN (by rw [o.x.N]; exact p1) (by rw [o.x.N]; exact p2) p3 (by rw [o.x.sc]; exact l1) (by rw [o.x.sc]; exact l2)
      (pa_cons sa.vE (pa_cons sb.vE pa_nil (sb.st [])) (sa.st [v])) (swap_par o.x.sc o.kind l1 l2 p4 p7 p8 p9 p10)
    refine ps_imp key fun D σ H q => ?_
    have r := par_red p3 hT q
    show rdE X.K (ev Φ a) σ H fun v H1 => rdE X.K (ev Φ b) σ H1 fun u H2 => ∃ v' w', [v, u] = [v', w'] ∧ D.nx ((σ.set i (some v')).set j (some w')) H2
    obtain ⟨B, Hs, L, ρ, r1, w, hf, h1⟩ := r
    refine ⟨B, Hs, L, ρ, r1, w, hf, fun v Hs' H' t rel => ?_⟩
    obtain ⟨B2, Hs2, L2, ρ2, r2, w2, hf2, h2⟩ := h1 v Hs' H' t rel
    exact ⟨B2, Hs2, L2, ρ2, r2, w2, hf2, fun u Hs3 H3 t3 rel3 => ⟨v, u, rfl, h2 u Hs3 H3 t3 rel3⟩⟩
  · cases h
theorem stmt_setI {k : E} (o : SOk X C sc Φ) (h : mSetI st = some (y, z, x)) (h1 : mVar C sc i y = true) (h2 : notSlice z = true) (hx : (noComp x || isLC x) = true) (sk : Snd X Φ k z) (se : Snd X Φ e x) : PS X st (rdS X.K T (ex Φ W (.setI i k e))) := by
  unfold mSetI at h
  split at h
  · rename_i o0 z0 q1 x0 q2
    cases h
    obtain ⟨f, q, rfl⟩ := mVar_name h1
    have hsw : swapsWith x (some (.Subscript (.Name f q) z q1)) q2.line X.env = pure false := by
      rw [Bool.or_eq_true] at hx
      rcases hx with hx | hx
      · exact sw_no hx _
      · cases x <;> first | rfl | (unfold isLC at hx; cases hx)
    exact ps_imp (ps_asg se.vE (pg_sub (var_raw o.x h1) sk.P set_list (by intro v; cases z <;> first | rfl | (unfold notSlice at h2; cases h2))) hsw (by cases x <;> rfl)) fun D σ H q => setI_red q
  · cases h
theorem stmt_app (o : SOk X C sc Φ) (h : mApp "append" st = some (y, x)) (h1 : mVar C sc i y = true) (se : Snd X Φ e x) : PS X st (rdS X.K T (ex Φ W (.app i e))) := by
  unfold mApp at h
  split at h
  · rename_i o0 f0 ap x0 kw cp q
    obtain ⟨⟨e1, e2, e3⟩, q1⟩ := ite_some h
    cases q1
    subst e1
    rw [noKw_inv e2]
    obtain ⟨f, q, rfl⟩ := mVar_name h1
    have hst := se.st []
    exact ps_imp (ps_expr (pe_bm PySem.F.plainAttrs_list PySem.F.slot_list_append PySem.F.type_list_append mt_append (var_raw o.x h1) (pa_cons se.vE pa_nil hst) rfl (by rw [hst]; rfl) e3 hst rfl)) fun D σ H q => app_red q
  · cases h
theorem loc2 {f : Str} (h : locB sc f = true) : sc.names.lookup f = some .local := by
  unfold locB at h
  split at h
  · assumption
  · cases h
theorem stmt_par3 {f g y : Str} {lx ly lz l : Nat} {u v w : Expr} {c : E} (o : SOk X C sc Φ) (hT : T i = true ∧ T j = true ∧ T l = true) (h : mPar3 st = some ((f, lx, u), (g, ly, v), (y, lz, w))) (hp : par3B C.N sc i j l f g y lx ly lz u v w = true) (sa : Snd X Φ a u) (sb : Snd X Φ b v) (sc3 : Snd X Φ c w) : PS X st (rdS X.K T (ex Φ W (.par3 i j l a b c))) := by
  unfold mPar3 at h
  split at h
  · rename_i f0 px g0 py y0 pz k1 q1 u0 v0 w0 k2 q2 q3
    cases h
    unfold par3B at hp
    simp only [Bool.and_eq_true, decide_eq_true_eq, Bool.not_eq_true'] at hp
    obtain ⟨⟨⟨⟨⟨⟨⟨⟨⟨p1, p2⟩, p2'⟩, p3⟩, p4⟩, ⟨p5, p6⟩, p6'⟩, p7⟩, p8⟩, p9⟩, p10⟩ := hp
    have hN : X.N.Nodup := by rw [o.x.N]; exact o.x.nd
    have l1 := loc2 p5
    have l2 := loc2 p6
    have l3 := loc2 p6'
    have key := ps_par3 (pos := q3) (kt := k1) (pt := q1) (k2 := k2) (pt2 := q2) (px := px) (py := py) (pz := pz) o.x.calm hN (by rw [o.x.N]; exact p1) (by rw [o.x.N]; exact p2) (by rw [o.x.N]; exact p2') p3.1 p3.2.1 p3.2.2 (by rw [o.x.sc]; exact l1) (by rw [o.x.sc]; exact l2) (by rw [o.x.sc]; exact l3)
      (pa_cons sa.vE (pa_cons sb.vE (pa_cons sc3.vE pa_nil (sc3.st [])) (sb.st [w])) (sa.st [v, w])) (swap_par3 o.x.sc o.kind l1 l2 l3 p4 p7 p8 p9 p10)
    refine ps_imp key fun D σ H q => ?_
    have r := par3_red p3 hT q
    show rdE X.K (ev Φ a) σ H fun v H1 => rdE X.K (ev Φ b) σ H1 fun u H2 => rdE X.K (ev Φ c) σ H2 fun z H3 => ∃ v' w' z', [v, u, z] = [v', w', z'] ∧ D.nx (((σ.set i (some v')).set j (some w')).set l (some z')) H3
    obtain ⟨B, Hs, L, ρ, r1, w, hf, h1⟩ := r
    refine ⟨B, Hs, L, ρ, r1, w, hf, fun v Hs' H' t rel => ?_⟩
    obtain ⟨B2, Hs2, L2, ρ2, r2, w2, hf2, h2⟩ := h1 v Hs' H' t rel
    refine ⟨B2, Hs2, L2, ρ2, r2, w2, hf2, fun u Hs3 H3 t3 rel3 => ?_⟩
    obtain ⟨B3, Hs4, L3, ρ3, r3, w3, hf3, h3⟩ := h2 u Hs3 H3 t3 rel3
    exact ⟨B3, Hs4, L3, ρ3, r3, w3, hf3, fun z Hs5 H5 t5 rel5 => ⟨v, u, z, rfl, h3 z Hs5 H5 t5 rel5⟩⟩
  · cases h
theorem stmt_appM (o : SOk X C sc Φ) (h : mApp "append" st = some (y, x)) (h1 : mVar C sc i y = true) (h2 : mVar C sc j x = true) : PS X st (rdS X.K T (ex Φ W (.appM i j))) := by
  unfold mApp at h
  split at h
  · rename_i o0 f0 ap x0 kw cp q
    obtain ⟨⟨e1, e2, e3⟩, q1⟩ := ite_some h
    cases q1
    subst e1
    rw [noKw_inv e2]
    obtain ⟨f, q, rfl⟩ := mVar_name h1
    have p2 := var_raw o.x h2
    obtain ⟨f2, q2, rfl⟩ := mVar_name h2
    exact ps_imp (ps_expr (pe_bm PySem.F.plainAttrs_list PySem.F.slot_list_append PySem.F.type_list_append mt_append (var_raw o.x h1) (pa_cons p2 pa_nil rfl) rfl (by rfl) e3 rfl rfl)) fun D σ H q => appM_red q
  · cases h
theorem stmt_ret2 (o : SOk X C sc Φ) (h : mRet2 st = some (y, x)) (h1 : mVar C sc i y = true) (se : Snd X Φ e x) : PS X st (rdS X.K T (ex Φ W (.ret2 i e))) := by
  unfold mRet2 at h
  split at h
  · cases h
    obtain ⟨f, q, rfl⟩ := mVar_name h1
    exact ps_imp (ps_ret (pe_tup (pa_cons (var_raw o.x h1) (pa_cons se.vE pa_nil (se.st []))))) fun D σ H q => ret2_red q
  · cases h
theorem mPath_inv {k : Nat} {r : List Nat} {x : Expr} (h : mPath C sc i (k :: r) x = true) : ∃ o p1 p2 p3, x = .Subscript o (.Constant (.int (k : Int)) p1 p2) p3 ∧ mPath C sc i r o = true := by
  unfold mPath at h
  split at h
  · rename_i e3
    cases e3
  · rename_i e3
    cases e3
    rw [Bool.and_eq_true, decide_eq_true_eq] at h
    obtain ⟨h1, h2⟩ := h
    subst h1
    exact ⟨_, _, _, _, rfl, h2⟩
  · cases h
theorem path_pe {fc : Str → Bool} (o : XOk X C sc fc Φ) : ∀ (rs : List Nat) (x : Expr), mPath C sc i rs x = true → PE X x (objR X.K i rs)
  | [], x, h => var_raw o h
  | k :: r, x, h => by
    obtain ⟨o1, p1, p2, p3, rfl, h2⟩ := mPath_inv h
    exact pe_ix ix_seq (path_pe o r _ h2) pe_int (fun _ _ => rfl)
theorem path_base {rs : List Nat} {x : Expr} {nm : Str} (h : mPath C sc i rs x = true) : attributeBase x nm X.env (eval x X.env) = eval x X.env := by
  cases rs with
  | nil =>
    obtain ⟨f, q, rfl⟩ := mVar_name h
    rfl
  | cons k r =>
    obtain ⟨o1, p1, p2, p3, rfl, h2⟩ := mPath_inv h
    rfl
theorem stmt_appK (o : SOk X C sc Φ) (h : mApp "append" st = some (y, x)) (h1 : mPath C sc i rs y = true) (se : Snd X Φ e x) : PS X st (rdS X.K T (ex Φ W (.appK i rs e))) := by
  unfold mApp at h
  split at h
  · rename_i o0 f0 ap x0 kw cp q
    obtain ⟨⟨e1, e2, e3⟩, q1⟩ := ite_some h
    cases q1
    subst e1
    rw [noKw_inv e2]
    have hst := se.st []
    exact ps_imp (ps_expr (pe_bm PySem.F.plainAttrs_list PySem.F.slot_list_append PySem.F.type_list_append mt_append (path_pe o.x rs _ h1) (pa_cons se.vE pa_nil hst) (path_base h1) (by rw [hst]; rfl) e3 hst rfl)) fun D σ H q => appK_red q
  · cases h
theorem mExpr_inv (h : mExpr st = some x) : ∃ q, st = .Expr x q := by
  unfold mExpr at h
  split at h
  · cases h; exact ⟨_, rfl⟩
  · cases h
theorem mRet_inv (h : mRet st = some x) : ∃ q, st = .Return (some x) q := by
  unfold mRet at h
  split at h
  · cases h; exact ⟨_, rfl⟩
  · cases h
theorem mRetN_inv (h : mRetN st = true) : ∃ q, st = .Return none q := by
  unfold mRetN at h
  split at h
  · exact ⟨_, rfl⟩
  · cases h
theorem mIfS_inv {s t : List Stmt} (h : mIfS st = some (x, s, t)) : ∃ q, st = .If x s t q := by
  unfold mIfS at h
  split at h
  · cases h; exact ⟨_, rfl⟩
  · cases h
theorem mFor_inv {b : List Stmt} (h : mFor st = some (tg, x, b)) : ∃ q, st = .For tg x b [] q := by
  unfold mFor at h
  split at h
  · cases h; exact ⟨_, rfl⟩
  · cases h
theorem mWhl_inv {b : List Stmt} (h : mWhl st = some (x, b)) : ∃ q, st = .While x b [] q := by
  unfold mWhl at h
  split at h
  · cases h; exact ⟨_, rfl⟩
  · cases h
end
section
variable {C : Cn} {Φ : Fn} {W : Nat}
mutual
theorem chkS_ok (T : Nat → Bool) : ∀ (s : S) (X : Cx) (sc : Scope) (st : Stmt), SOk X C sc Φ → (∀ j ∈ tgS s, T j = true) → chkS C sc s st = true → PS X st (rdS X.K T (ex Φ W s))
  | .asg p e, X, sc, st, o, hT, h => by
    unfold chkS at h
    split at h
    · rename_i tg x q
      exact stmt_asg o (fun j hj => hT j (by unfold tgS; exact hj)) q h
    · cases h
  | .par i j a b, X, sc, st, o, hT, h => by
    unfold chkS at h
    split at h
    · rename_i x lx y ly u v q
      simp only [Bool.and_eq_true] at h
      exact stmt_par o ⟨hT i (by unfold tgS; simp), hT j (by unfold tgS; simp)⟩ q h.1.1 (chkE_ok a X sc _ u o.x h.1.2) (chkE_ok b X sc _ v o.x h.2)
    · cases h
  | .setI i k e, X, sc, st, o, hT, h => by
    unfold chkS at h
    split at h
    · rename_i y z x q
      simp only [Bool.and_eq_true] at h
      obtain ⟨⟨⟨⟨h1, h2⟩, h3⟩, h4⟩, h5⟩ := h
      exact stmt_setI o q h1 h2 h5 (chkE_ok k X sc _ z o.x h3) (chkE_ok e X sc _ x o.x h4)
    · cases h
  | .app i e, X, sc, st, o, hT, h => by
    unfold chkS at h
    split at h
    · rename_i y x q
      simp only [Bool.and_eq_true] at h
      exact stmt_app o q h.1 (chkE_ok e X sc _ x o.x h.2)
    · cases h
  | .drop e, X, sc, st, o, hT, h => by
    unfold chkS at h
    split at h
    · rename_i x q
      rw [Bool.and_eq_true] at h
      obtain ⟨p, rfl⟩ := mExpr_inv q
      exact ps_imp (ps_expr (chkE_ok e X sc _ x o.x h.1).vE (sw_no h.2 _)) fun D σ H q => drop_red q
    · cases h
  | .ret e, X, sc, st, o, hT, h => by
    unfold chkS at h
    split at h
    · rename_i x q
      obtain ⟨p, rfl⟩ := mRet_inv q
      cases e with
      | var i =>
        unfold chkE at h
        exact ps_imp (ps_ret (var_raw o.x h)) fun D σ H q => retV_red q
      | _ => exact ps_imp (ps_ret (chkE_ok _ X sc _ x o.x h).vE) fun D σ H q => ret_red (fun i z => by cases z) q
    · cases h
  | .appM i j, X, sc, st, o, hT, h => by
    unfold chkS at h
    split at h
    · rename_i q
      rw [Bool.and_eq_true] at h
      exact stmt_appM o q h.1 h.2
    · cases h
  | .forT i p body k, X, sc, st, o, hT, h => by
    unfold chkS at h
    split at h
    · rename_i t x b q
      rw [Bool.and_eq_true, Bool.and_eq_true, Bool.and_eq_true] at h
      obtain ⟨h1, h2, h3, h4⟩ := h
      obtain ⟨pos, rfl⟩ := mFor_inv q
      obtain ⟨i1, i2⟩ := chkI_ok (.ex (.var i)) X sc _ x t o.x h2
      have nc : ∀ j ∈ tgP p ++ tgSs body, j ≠ i := fun j hj z => by
        rw [z] at hj
        rw [List.contains_iff_mem.mpr hj] at h3
        cases h3
      have hT' : ∀ j ∈ tgP p ++ tgSs body, (T j && !(j == i)) = true := fun j hj => by
        have e := nc j hj
        have e2 : T j = true := hT j (by unfold tgS; exact hj)
        rw [e2]
        simpa using e
      exact ps_imp (ps_for o.pass o.x.calm i1 (chkPS_ok (X := X) o.x.calm (by rw [o.x.N]; exact o.x.nd) o.x.sc o.x.fn p t (by rw [o.x.N]; exact h1)).1 (chkSs_ok (fun j => T j && !(j == i)) body X sc b o (fun j hj => hT' j (List.mem_append_right _ hj)) h4) (i2 X.env)) fun D σ H q => forT_red (fun j hj => hT' j (List.mem_append_left _ hj)) q
    · cases h
  | .ret2 i e, X, sc, st, o, hT, h => by
    unfold chkS at h
    split at h
    · rename_i q
      rw [Bool.and_eq_true] at h
      exact stmt_ret2 o q h.1 (chkE_ok e X sc _ _ o.x h.2)
    · cases h
  | .retN, X, sc, st, o, hT, h => by
    unfold chkS at h
    obtain ⟨p, rfl⟩ := mRetN_inv h
    exact ps_imp ps_retN fun D σ H q => retN_red q
  | .iff c a b, X, sc, st, o, hT, h => by
    unfold chkS at h
    split at h
    · rename_i x s t q
      obtain ⟨p, rfl⟩ := mIfS_inv q
      simp only [Bool.and_eq_true] at h
      exact ps_imp (ps_if (chkE_ok c X sc _ x o.x h.1.1).vT (chkSs_ok T a X sc s o (fun j hj => hT j (by unfold tgS; exact List.mem_append_left _ hj)) h.1.2) (chkSs_ok T b X sc t o (fun j hj => hT j (by unfold tgS; exact List.mem_append_right _ hj)) h.2)) fun D σ H q => iff_red q
    · cases h
  | .for_ p it body k, X, sc, st, o, hT, h => by
    unfold chkS at h
    split at h
    · rename_i t x b q
      obtain ⟨p0, rfl⟩ := mFor_inv q
      simp only [Bool.and_eq_true] at h
      obtain ⟨i1, i2⟩ := chkI_ok it X sc _ x t o.x h.1.2
      exact ps_imp (ps_for o.pass o.x.calm i1 (chkPS_ok (X := X) o.x.calm (by rw [o.x.N]; exact o.x.nd) o.x.sc o.x.fn p t (by rw [o.x.N]; exact h.1.1)).1 (chkSs_ok T body X sc b o (fun j hj => hT j (by unfold tgS; exact List.mem_append_right _ hj)) h.2) (i2 X.env)) fun D σ H q => for_red (fun j hj => hT j (by unfold tgS; exact List.mem_append_left _ hj)) q
    · cases h
  | .whl c body k, X, sc, st, o, hT, h => by
    unfold chkS at h
    split at h
    · rename_i x b q
      obtain ⟨p0, rfl⟩ := mWhl_inv q
      simp only [Bool.and_eq_true] at h
      exact ps_imp (ps_while o.pass (chkE_ok c X sc _ x o.x h.1).vT (chkSs_ok T body X sc b o (fun j hj => hT j (by unfold tgS; exact hj)) h.2)) fun D σ H q => whl_red q
    · cases h
  | .brk, X, sc, st, o, hT, h => by
    unfold chkS mBrk at h
    split at h
    · exact ps_imp ps_break fun D σ H q => brk_red q
    · cases h
  | .cnt, X, sc, st, o, hT, h => by
    unfold chkS mCnt at h
    split at h
    · exact ps_imp ps_continue fun D σ H q => cnt_red q
    · cases h
  | .pass, X, sc, st, o, hT, h => by
    unfold chkS mPass at h
    split at h
    · exact ps_imp ps_pass fun D σ H q => pass_red q
    · exact ps_imp ps_doc fun D σ H q => pass_red q
    · cases h
  | .nev, X, sc, st, o, hT, h => ps_imp ps_never fun D σ H q => nev_red q
  | .par3 i j l a b c, X, sc, st, o, hT, h => by
    unfold chkS at h
    split at h
    · rename_i q
      rw [Bool.and_eq_true, Bool.and_eq_true, Bool.and_eq_true] at h
      exact stmt_par3 o ⟨hT i (by unfold tgS; simp), hT j (by unfold tgS; simp), hT l (by unfold tgS; simp)⟩ q h.1 (chkE_ok a X sc _ _ o.x h.2.1) (chkE_ok b X sc _ _ o.x h.2.2.1) (chkE_ok c X sc _ _ o.x h.2.2.2)
    · cases h
  | .appK i rs e, X, sc, st, o, hT, h => by
    unfold chkS at h
    split at h
    · rename_i q
      rw [Bool.and_eq_true] at h
      exact stmt_appK o q h.1 (chkE_ok e X sc _ _ o.x h.2)
    · cases h
  | .ext _ _, X, sc, st, o, hT, h => by unfold chkS at h; cases h
  | .kill _, X, sc, st, o, hT, h => by unfold chkS at h; cases h
theorem chkSs_ok (T : Nat → Bool) : ∀ (ss : Ss) (X : Cx) (sc : Scope) (sts : List Stmt), SOk X C sc Φ → (∀ j ∈ tgSs ss, T j = true) → chkSs C sc ss sts = true → PSs X sts (rdS X.K T (exs Φ W ss))
  | .nil, X, sc, sts, o, hT, h => by
    unfold chkSs at h
    split at h
    · exact pss_imp pss_nil fun D σ H q => nil_red q
    · cases h
  | .cons s r, X, sc, sts, o, hT, h => by
    unfold chkSs at h
    split at h
    · rename_i k
      exact pss_imp (chkSs_ok T r X sc sts o (fun j hj => hT j (by unfold tgSs; exact List.mem_append_right _ hj)) h) fun D σ H q => kill_red q
    · split at h
      · rename_i st rest
        rw [Bool.and_eq_true] at h
        exact pss_imp (pss_cons (chkS_ok T s X sc st o (fun j hj => hT j (by unfold tgSs; exact List.mem_append_left _ hj)) h.1) (chkSs_ok T r X sc rest o (fun j hj => hT j (by unfold tgSs; exact List.mem_append_right _ hj)) h.2)) fun D σ H q => seq_red q
      · cases h
end
end
end Z
/-! ZW: all defs of a text by their terms; the law's end. -/
namespace Z
open PySem L2 PySem.Spec PyProof.Rows

/-! ### constants of the module -/
mutual
def conV (K : PySem.W.Frag) : D → Value → Bool
  | .none, u => (match u with
    | .none => true
    | _ => false)
  | .bool b, u => (match u with
    | .bool c => decide (b = c)
    | _ => false)
  | .int i, u => (match u with
    | .int j _ => decide (i = j)
    | _ => false)
  | .str x, u => (match u with
    | .str y _ => decide (x = y)
    | _ => false)
  | .tuple ds, u => (match u with
    | .ref a => (match K.lookup a with
      | some o => (match o.data with
        | .seq its _ => decide (o.cls = .type "tuple") && decide (its.size ≤ 1000) && conVs K ds its.toList
        | _ => false)
      | none => false)
    | _ => false)
  | .list _, _ => false
  | .dict _, _ => false
def conVs (K : PySem.W.Frag) : List D → List Value → Bool
  | [], us => (match us with
    | [] => true
    | _ => false)
  | d :: ds, us => (match us with
    | u :: us => conV K d u && conVs K ds us
    | [] => false)
end
mutual
theorem conV_ok {K : PySem.W.Frag} : ∀ (d : D) (u : Value), conV K d u = true → ∃ v, RelV v u ∧ Rp K (fun _ => none) v d
  | .none, u, h => by
    unfold conV at h
    split at h
    · exact ⟨.non, rfl, .non⟩
    · cases h
  | .bool b, u, h => by
    unfold conV at h
    split at h
    · rw [of_decide_eq_true h]; exact ⟨.bl _, rfl, .bl _⟩
    · cases h
  | .int i, u, h => by
    unfold conV at h
    split at h
    · rw [of_decide_eq_true h]; exact ⟨.int _, ⟨_, rfl⟩, .int _⟩
    · cases h
  | .str x, u, h => by
    unfold conV at h
    split at h
    · rw [of_decide_eq_true h]; exact ⟨.str _, ⟨_, rfl⟩, .str _⟩
    · cases h
  | .tuple ds, u, h => by
    unfold conV at h
    split at h
    · rename_i a
      split at h
      · rename_i o e
        split at h
        · rename_i its n e2
          simp only [Bool.and_eq_true, decide_eq_true_eq] at h
          obtain ⟨vs, rv, rp⟩ := conVs_ok ds its.toList h.2
          exact ⟨.ref a, rfl, .tup (.inr ⟨o, its, n, e, h.1.1, e2, Nat.le_trans h.1.2 (by decide), rv⟩) rp⟩
        · cases h
      · cases h
    · cases h
  | .list _, u, h => by unfold conV at h; cases h
  | .dict _, u, h => by unfold conV at h; cases h
theorem conVs_ok {K : PySem.W.Frag} : ∀ (ds : List D) (us : List Value), conVs K ds us = true → ∃ vs, Vals vs us ∧ RpA K (fun _ => none) vs ds
  | [], us, h => by
    unfold conVs at h
    split at h
    · exact ⟨[], .nil, .nil⟩
    · cases h
  | d :: ds, us, h => by
    unfold conVs at h
    split at h
    · rename_i u us
      rw [Bool.and_eq_true] at h
      obtain ⟨v, r1, p1⟩ := conV_ok d u h.1
      obtain ⟨vs, r2, p2⟩ := conVs_ok ds us h.2
      exact ⟨v :: vs, .cons r1 r2, .cons p1 p2⟩
    · cases h
end

/-! ### a text's defs -/
structure Df where
  name : Str
  ps : List Str
  N : List Str
  args : Arguments
  body : List Stmt
  scope : Scope
  fd : Fd
  bind : ∀ (kV doc pm : Value) (an : Option Addr) (cdv ct : Value) (us : List Value), us.length = ps.length → bindArgs (PySem.W.fnOf name name args body scope .none kV doc pm an cdv ct) ⟨us, []⟩ = pure (ps.zip us)
/-- a text: its defs, the built-in names that it reads, gcd, its constants -/
structure Tx where
  ds : List Df
  bl : List Str
  gc : Bool
  cs : List (Str × D)
def Tx.T (t : Tx) (j : Nat) : Option Fd := (t.ds[j]?).map (·.fd)
def Tx.cn (t : Tx) (d : Df) : Cn := ⟨d.N, t.ds.map fun (x : Df) => (x.name, x.ps.length), t.bl, t.gc, t.cs⟩
def chkDf (t : Tx) (d : Df) : Bool :=
  (match d.scope.kind with
  | .function => true
  | _ => false) && !d.scope.isCoroutine && !d.scope.isGenerator && decide d.N.Nodup && decide (d.N.take d.ps.length = d.ps) &&
  (d.ps.all fun x => match d.scope.names.lookup x with
    | some .local => true
    | some .cell => true
    | _ => false) && (d.scope.names.all fun y => match y.2 with
    | .free => false
    | _ => true) && decide (d.fd.np = d.ps.length) && decide (d.fd.nn = d.N.length) && chkSs (t.cn d) d.scope d.fd.body d.body
/-- what is known of the module -/
structure Facts (K : PySem.W.Frag) (mg : Str → Option Value) (t : Tx) : Prop where
  def_ : ∀ (j : Nat) (d : Df), t.ds[j]? = some d → ∃ f fd, mg d.name = some (.ref f) ∧ FunD K d.name d.name d.args d.body d.scope [] [] f fd
  bl : ∀ x, t.bl.contains x = true → mg x = none
  gc : t.gc = true → mg "gcd" = some (.builtin "math.gcd")
  cs : ∀ p ∈ t.cs, ∃ v u, mg p.1 = some u ∧ RelV v u ∧ Rp K (fun _ => none) v p.2
section
variable {P : Program} {w : World} {K : PySem.W.Frag} {mg : Str → Option Value} {base : Heap} {t : Tx} {W : Nat}
theorem scope_of {d : Df} (h : chkDf t d = true) : FnScope d.N d.ps d.scope ∧ d.fd.np = d.ps.length ∧ d.fd.nn = d.N.length ∧ chkSs (t.cn d) d.scope d.fd.body d.body = true := by
  unfold chkDf at h
  simp only [Bool.and_eq_true, decide_eq_true_eq, Bool.not_eq_true', List.all_eq_true] at h
  obtain ⟨⟨⟨⟨⟨⟨⟨⟨⟨h1, h2⟩, h3⟩, h4⟩, h5⟩, h6⟩, h7⟩, h8⟩, h9⟩, h10⟩ := h
  refine ⟨⟨?_, h2, h3, h4, h5, fun x hx => ?_, fun y hy e => ?_⟩, h8, h9, h10⟩
  · split at h1
    · assumption
    · cases h1
  · have q := h6 x hx
    split at q
    · rename_i e; exact .inl e
    · rename_i e; exact .inr e
    · cases q
  · have q := h7 y hy
    rw [e] at q
    cases q
theorem run_len {n j : Nat} {d : Df} (hd : t.ds[j]? = some d) (hn : d.fd.np = d.ps.length) : ∀ ds r l, run W t.T n j ds = some (r, l) → ds.length = d.ps.length := fun ds r l h => by
  cases n with
  | zero => unfold run at h; cases h
  | succ n =>
    unfold run Tx.T at h
    rw [hd] at h
    have h' : runFd (run W t.T n) W d.fd ds = some (r, l) := h
    unfold runFd at h'
    by_cases e : ds.length = d.fd.np
    · rw [e, hn]
    · rw [if_neg e] at h'; cases h'
theorem param_slot {Hs H : Hp} {B : Bas} {L : Lab} {vs : List V} {ds : List D} {N : List Str} (hl : vs.length ≤ N.length) (r : RpA K Hs vs ds) {i : Nat} {q : R} (h : (ds.map param ++ List.replicate (N.length - vs.length) none)[i]? = some (some q)) :
    ∃ v, (L2.start N vs)[i]? = some (some v) ∧ SlotR K Hs H L (fun _ => Hs) i v q := by
  have e := r.length
  by_cases hi : i < ds.length
  · rw [List.getElem?_append_left (by simpa using hi), List.getElem?_map] at h
    cases hd : ds[i]? with
    | none => rw [hd] at h; cases h
    | some d =>
      rw [hd] at h
      have h' : (d, Ow.sh []) = q := Option.some.inj (Option.some.inj h)
      subst h'
      obtain ⟨v, hv, rv⟩ := r.get hd
      refine ⟨v, ?_, rv⟩
      unfold L2.start
      rw [List.getElem?_append_left (by rw [List.length_map, e]; exact hi), List.getElem?_map, hv]
      rfl
  · rw [List.getElem?_append_right (by simpa using hi), List.getElem?_replicate] at h
    split at h <;> cases h
/-- every def keeps its term's promise, to every depth -/
theorem all_g (hc : t.ds.all (chkDf t) = true) (Fa : Facts K mg t) : ∀ (n j : Nat) (d : Df) (f : Addr) (fd : FuncData), t.ds[j]? = some d → FunD K d.name d.name d.args d.body d.scope [] [] f fd → FnG P w K mg base n f fd d.ps (spF K d.ps.length (run W t.T n j)) := by
  have ck : ∀ j d, t.ds[j]? = some d → chkDf t d = true := fun j d h => List.all_eq_true.mp hc d (List.mem_of_getElem? h)
  have ln : ∀ (n j : Nat) (d : Df), t.ds[j]? = some d → ∀ vs H Q E, spF K d.ps.length (run W t.T n j) vs H Q E → vs.length = d.ps.length := fun n j d _ vs H Q E h => by
    obtain ⟨Hs, ds, r, l, _, rp, _, hl, _⟩ := h
    rw [rp.length, hl]
  intro n
  induction n with
  | zero =>
    intro j d f fd hd F
    refine ⟨ln 0 j d hd, fun A outer s H args us vs Q E _ _ _ _ _ h => ?_⟩
    obtain ⟨Hs, ds, r, l, _, _, h1, _⟩ := h
    unfold run at h1
    cases h1
  | succ n ih =>
    intro j d f fd hd F
    obtain ⟨S, e1, e2, e3⟩ := scope_of (ck j d hd)
    refine fn_g F S (ln (n + 1) j d hd) fun cdv A outer s H vs Q E hgu hr hsp => ?_
    have ok : SOk (cxOf CX0 P w K mg base d.N d.name d.scope f cdv A outer s H E).nox (t.cn d) d.scope (run W t.T n) := by
      refine ⟨⟨rfl, rfl, S.nd, rfl, rfl, Fa.bl, Fa.gc, Fa.cs, hgu, ?_, fun i x m hi => ?_⟩, PassesOwn.never, S.kind⟩
      · have q := hr.un
        show (A.deeper _).units + 66 < cLine
        omega
      · have hi' : (t.ds.map fun (x : Df) => (x.name, x.ps.length))[i]? = some (x, m) := hi
        rw [List.getElem?_map] at hi'
        cases hd2 : t.ds[i]? with
        | none => rw [hd2] at hi'; cases hi'
        | some d2 =>
          rw [hd2] at hi'
          cases hi'
          obtain ⟨f2, fd2, g1, F2⟩ := Fa.def_ i d2 hd2
          obtain ⟨_, e4, _, _⟩ := scope_of (ck i d2 hd2)
          exact ⟨f2, fd2, d2.ps, n, g1, F2.kp, F2.bindsN d2.bind, hr, ih i d2 f2 fd2 hd2 F2, run_len hd2 e4⟩
    refine ⟨_, chkSs_ok (W := W) (fun _ => true) d.fd.body _ d.scope d.body ok (fun _ _ => rfl) e3, ?_⟩
    obtain ⟨Hs, ds, r, l, sub, rp, hrun, hlen, hq⟩ := hsp
    unfold run Tx.T at hrun
    rw [hd] at hrun
    have hrun' : runFd (run W t.T n) W d.fd ds = some (r, l) := hrun
    unfold runFd at hrun'
    rw [if_pos (by rw [e1]; exact hlen)] at hrun'
    have hle : d.ps.length ≤ d.N.length := by
      have := congrArg List.length S.pre
      rw [List.length_take] at this
      omega
    have hvs : vs.length = d.ps.length := by rw [rp.length, hlen]
    have eρ : ds.map param ++ List.replicate (d.fd.nn - d.fd.np) none = ds.map param ++ List.replicate (d.N.length - vs.length) none := by rw [e1, e2, hvs]
    rw [eρ] at hrun'
    have w0 : WFS K ⟨H, Hs⟩ Hs H (fun _ => none) (L2.start d.N vs) (ds.map param ++ List.replicate (d.N.length - vs.length) none) := by
      refine ⟨Evl.Ex.refl _, fun _ _ => rfl, Evl.Ex.refl _, sub, ⟨sub, fun a x z => by cases z⟩, fun a x z => (by cases z), ?_, fun i q hi => param_slot (B := ⟨H, Hs⟩) (by rw [hvs]; exact hle) rp hi⟩
      unfold L2.start
      rw [List.length_append, List.length_append, List.length_map, List.length_map, List.length_replicate, List.length_replicate, rp.length]
    cases hx : exs (run W t.T n) W d.fd.body (ds.map param ++ List.replicate (d.N.length - vs.length) none) with
    | none => rw [hx] at hrun'; cases hrun'
    | some fl =>
      rw [hx] at hrun'
      refine ⟨⟨H, Hs⟩, Hs, _, _, fl, w0, hx, ?_⟩
      cases fl with
      | nx ρ' =>
        cases hrun'
        exact fun Hs' H' L' σ' _ _ w' => hq .non Hs' H' w'.base ⟨[], .non, List.nodup_nil, fun a ha => by cases ha⟩
      | rt d2 l2 =>
        cases hrun'
        exact hq
      | bk ρ' => cases hrun'
      | ct ρ' => cases hrun'
end

/-! ### the law's end -/
/-- no list among the module's own objects -/
def noLists (K : PySem.W.Frag) : Bool := K.all fun p => !decide (p.2.cls = .type "list")
theorem lookup_in {a : Addr} {o : Obj} : ∀ {K : List (Addr × Obj)}, K.lookup a = some o → ∃ b, (b, o) ∈ K
  | [], e => nomatch e
  | (b, u) :: r, e => by
    rw [List.lookup_cons] at e
    split at e
    · cases e
      exact ⟨b, List.mem_cons_self⟩
    · obtain ⟨c, h⟩ := lookup_in e
      exact ⟨c, List.mem_cons_of_mem _ h⟩
theorem noLists_ok {K : PySem.W.Frag} (h : noLists K = true) {a : Addr} {o : Obj} (e : K.lookup a = some o) : o.cls ≠ .type "list" := fun z => by
  obtain ⟨b, hb⟩ := lookup_in e
  have q := List.all_eq_true.mp h _ hb
  simp only [z, decide_true, Bool.not_true] at q
  cases q
/-- the script is handed in: the call of the law's def -/
theorem call_law {P : Program} {w : World} {K : PySem.W.Frag} {mg mb : Str → Option Value} {k : Nat} {fa a : Addr} {fd : FuncData} {x : Str} {φ : List D → Option (D × Nat)} {s : Shared} {vs : List Value} {ns : List Int}
    (KX : K.In s.heap) (hg : s.heap.Ns mainGlobals mg) (hb : s.heap.Ns builtinsNs mb) (hbb : ∀ x : Str, x ≠ "__name__" → mb x = bootBuiltins x) (hlim : s.heap.NoLimit) (hgen : s.gens = #[])
    (ha : s.heap.get? a = some { cls := .type "list", data := .seq vs.toArray }) (hi : IntsAre vs ns) (hl : ns.length ≤ sizeLine) (hr : Room k callerA) (hK : noLists K = true)
    (F : ∀ base : Heap, FnG P w K mg base k fa fd [x] (spF K 1 φ)) (hbind : ∀ u : Value, BindsTo s fd ⟨[u], []⟩ [(x, u)])
    (hφ : ∃ l, φ [.list (ns.map .int)] = some (.bool true, l)) :
    codeAny (model P w) callerA (.call (.ref fa) ⟨[.ref a], []⟩) (fun r s' => r = .ok (.ret (.bool true)) ∧ OldK s.heap s'.heap ∧ s'.os = s.os ∧ AllBare s'.gens) s := by
  have hKa : K.lookup a = none := by
    cases e : K.lookup a with
    | none => rfl
    | some o =>
      have q := KX a o e
      rw [ha] at q
      cases q
      exact absurd rfl (noLists_ok hK e)
  obtain ⟨l, hφ⟩ := hφ
  -- the heap: the script alone, as it stands
  let ob : Obj := { cls := .type "list", data := .seq vs.toArray }
  let H : Hp := fun b => if b = a then some (.frz ob (.lst (ns.map V.int))) else none
  have Ha : H a = some (.frz ob (.lst (ns.map V.int))) := if_pos rfl
  have Hn : ∀ b, b ≠ a → H b = none := fun b e => if_neg e
  have Hs : ∀ b u, H b = some u → b = a ∧ u = .frz ob (.lst (ns.map V.int)) := fun b u e => by
    by_cases z : b = a
    · subst z
      rw [Ha] at e
      cases e
      exact ⟨rfl, rfl⟩
    · rw [Hn b z] at e
      cases e
  have notA : ∀ {b : Addr} {m : Str → Option Value}, s.heap.Ns b m → b ≠ a := fun {b m} n z => by
    obtain ⟨o, es, ep, e1, e2, _⟩ := n
    subst z
    rw [ha] at e1
    cases e1
    cases e2
  have keepNs : ∀ {b : Addr} {m : Str → Option Value}, s.heap.Ns b m → (hidT s.heap H).Ns b m := fun {b m} n => by
    have z := notA n
    obtain ⟨o, es, ep, e1, e2, e3⟩ := n
    exact ⟨o, es, ep, hidT_get e1 (Hn b z), e2, e3⟩
  have inK : K.In (hidT s.heap H) := fun b o e => hidT_get (KX b o e) (Hn b fun z => by rw [z, hKa] at e; cases e)
  have lim : (hidT s.heap H).NoLimit := by
    obtain ⟨mc, h1, h2⟩ := hlim
    exact ⟨mc, keepNs h1, h2⟩
  have rv := vals_ints hi
  have hok : HOk P w H s.heap := fun b u e => by
    obtain ⟨z1, z2⟩ := Hs b u e
    subst z1 z2
    exact ⟨ha, by rw [List.length_map]; exact hl, vs, _, rv, ha⟩
  have e0 : Env0 P w K mg (hidT s.heap H) callerA [] s H :=
    ⟨rfl, ⟨inK, keepNs hg, ⟨mb, keepNs hb, hbb⟩, lim⟩, fun b o e => of_hidT e, Nat.le_of_eq (hidT_size _ _), trivial, fun b z => absurd (show b ∈ ([] : List Addr) from z) (by simp), hok, .of_eq hgen⟩
  have sp : spF K 1 φ [.ref a] H (fun v _ => v = .bl true) E0 := by
    refine ⟨H, [.list (ns.map .int)], .bool true, l, Evl.Ex.refl _, .cons (.lst (.inr ⟨ob, Ha⟩) (rpa_ofInts ns)) .nil, hφ, rfl, fun v Hs' H' _ r => ?_⟩
    unfold RetR at r
    split at r
    · cases r; rfl
    · obtain ⟨_, _, _, z, _⟩ := r
      cases z
    · obtain ⟨fp, z, _⟩ := r
      cases z; rfl
  refine codeAny_mono ((F _).run callerA [] s H ⟨[.ref a], []⟩ [.ref a] [.ref a] _ E0 rfl hr e0 (hbind (.ref a)) (.cons rfl .nil) sp) fun r s' h => ?_
  match r, h with
  | .error e, h => exact False.elim h
  | .ok .next, h => exact False.elim h
  | .ok .brk, h => exact False.elim h
  | .ok .cont, h => exact False.elim h
  | .ok (.ret u), h =>
    obtain ⟨v, H', os, bare, un, hok', r', q⟩ := h
    have q' : v = .bl true := q
    subst q'
    have r2 : u = .bool true := r'
    subst r2
    refine ⟨rfl, OldK.of_keep fun b o e => ?_, os, bare⟩
    by_cases z : b = a
    · subst z
      obtain ⟨e2, _⟩ := hok' b _ (un.frzs b ob _ Ha)
      rw [ha] at e
      cases e
      exact e2
    · exact un.keep b o e (Hn b z) (fun y => absurd (show b ∈ ([] : List Addr) from y) (by simp)) (by simp)
/-- the head's hook: the defs, the names, the constants -/
def okZ (t : Tx) (K : PySem.W.Frag) : Bool :=
  noLists K && (t.bl.all fun x => decide (PySem.W.nsIn K mainGlobals x = some none)) && (!t.gc || decide (PySem.W.nsIn K mainGlobals "gcd" = some (some (.builtin "math.gcd")))) &&
    t.cs.all fun p => match PySem.W.nsIn K mainGlobals p.1 with
      | some (some u) => conV K p.2 u
      | _ => false
def Df.dd (d : Df) : He.DefD := ⟨(d.name, none), d.name, d.name, d.args, d.body, d.scope, [], []⟩
def Tx.fa (t : Tx) : List He.Fa := t.ds.map fun d => .glo d.name
def Tx.fn (t : Tx) : List He.DefD := t.ds.map Df.dd
def SaysZ (t : Tx) (K : PySem.W.Frag) : Prop := He.SaysD t.fa t.fn K ∧ okZ t K = true
theorem facts_of {t : Tx} {K : PySem.W.Frag} {h : Heap} {mg : Str → Option Value} (X : K.In h) (G : h.Ns mainGlobals mg) (c : SaysZ t K) : Facts K mg t := by
  obtain ⟨c1, c2⟩ := c
  unfold okZ at c2
  simp only [Bool.and_eq_true, List.all_eq_true, decide_eq_true_eq, Bool.or_eq_true, Bool.not_eq_true'] at c2
  obtain ⟨⟨⟨h1, h2⟩, h3⟩, h4⟩ := c2
  refine ⟨fun j d hd => ?_, fun x hx => ?_, fun hg => ?_, fun p hp => ?_⟩
  · have e1 : t.fa[j]? = some (.glo d.name) := by unfold Tx.fa; rw [List.getElem?_map, hd]; rfl
    have e2 : t.fn[j]? = some d.dd := by unfold Tx.fn; rw [List.getElem?_map, hd]; rfl
    obtain ⟨fd, F⟩ := c1.def_ j e2
    exact ⟨_, fd, He.glo_ok X G (c1.fact j e1), F⟩
  · exact PySem.W.mg_none_of X G (h2 x (by simpa using hx))
  · rcases h3 with z | z
    · rw [hg] at z; cases z
    · exact PySem.W.mg_of X G z
  · have q := h4 p hp
    split at q
    · rename_i u e
      obtain ⟨v, r, rp⟩ := conV_ok _ _ q
      exact ⟨v, u, PySem.W.mg_of X G e, r, rp⟩
    · cases q
end Z
/-! ZX: the head's hook; from the term's answer to the law. -/
namespace Z
open PySem L2 PySem.Spec PyProof.Rows
def frZ (n : Nat) (g : Addr → Option Obj) : PySem.W.Frag := He.frG g (He.asD g n)
def obZ (n : Nat) (t : Tx) (g : Addr → Option Obj) : He.AlD × Bool := (He.obsD t.fa t.fn (frZ n g), okZ t (frZ n g))
def hookZ (n : Nat) (t : Tx) : PySem.W.Hook where
  α := He.AlD × Bool
  obs := fun s => obZ n t s.heap.get?
  val := fun _ => (He.valD t.fn, true)
  says := fun _ h => ∃ K : PySem.W.Frag, K.In h ∧ SaysZ t K
  of := fun _ _ e => ⟨_, He.frG_in, congrArg Prod.fst e, congrArg Prod.snd e⟩
  keeps := fun _ _ _ ⟨K, hK, c⟩ k => ⟨K, PySem.W.Frag.In.keeps hK k, c⟩
theorem obZ_eq {n : Nat} {t : Tx} {g : Addr → Option Obj} {s : Shared} (h : ∀ a, g a = s.heap.get? a) : obZ n t g = (hookZ n t).obs s := by
  have e : g = s.heap.get? := funext h
  rw [e] <;> rfl
/-- the law's end: the term of the law's def answers True at every script -/
theorem walkZ {l : PySem.W.OpenLaw} {n k m : Nat} {q : Program} {loose : List Str} {XP : (Str → Option Value) → Heap → Prop} {d : DefRec} {t : Tx} {j : Nat} {dl : Df} {W : Nat}
    (hn : l.most = some n) (hn2 : n ≤ sizeLine) (hdf : d.params.defaults = []) (hr : Room k callerA) (hc : t.ds.all (chkDf t) = true) (hj : t.ds[j]? = some dl) (hname : d.name = dl.name) {x : Str} (hx : dl.ps = [x])
    (hφ : ∀ ns : List Int, ns.length ≤ n → (∀ i ∈ ns, Builtin.Int.intBits i ≤ 1048576) → ∃ lv, run W t.T k j [.list (ns.map .int)] = some (.bool true, lv)) :
    PySem.W.WalkO q loose XP (hookZ m t).says l.row.toRowW d [] (fun f vs => PySem.call f vs) := by
  refine Att.attach_callB hn hdf fun w s₀ s₁ mg mb fa o pm cd doc a vs ns G Y ho hd hcd hmg hobj hints hlen hbits hg => ?_
  obtain ⟨K, KX, c⟩ := Y
  have Fa := facts_of KX G.T.g c
  obtain ⟨f, fd, h1, h2⟩ := Fa.def_ j dl hj
  rw [hname] at hmg
  have e := hmg.symm.trans h1
  cases e
  have F := fun base => all_g (P := l.prog) (w := w) (base := base) (W := W) hc Fa k j dl fa fd hj h2
  have hok := c.2
  unfold okZ at hok
  simp only [Bool.and_eq_true] at hok
  have bd := FunD.bindsA (ps := dl.ps) h2 dl.bind
  rw [hx] at F bd
  exact call_law KX G.T.g G.T.b G.T.builtins G.T.nolimit hg hobj hints (Nat.le_trans hlen hn2) hr hok.1.1.1 F (fun u => bd s₁ [u] rfl) (hφ ns hlen hbits)
end Z
/-! YA: rules to compute a term's meaning: by simp only. -/
namespace Z
open PySem L2

section
variable {Φ : Fn} {W : Nat} {ρ ρ' : Rho} {e a b c : E} {r : Es} {o : Op} {s : S} {ss s1 s2 : Ss} {p : Pat} {it : It} {k : List Nat} {d : D} {g h : List Tag} {i j : Int} {n : Nat}
def varR (i : Nat) : Option (Option R) → Option R
  | some (some (d, .own)) => if flat d then some (d, .sh []) else some (d, .sh [(i, true)])
  | some (some (d, .top g)) => some (d, .sh ((i, true) :: g))
  | some (some (d, .sh g)) => some (d, .sh g)
  | _ => none
theorem y_var : ev Φ (.var n) ρ = varR n (ρ[n]?) := by unfold ev varR; rfl
theorem y_lit : ev Φ (.lit d) ρ = some (d, .sh []) := by unfold ev; rfl
theorem y_con {x : Str} : ev Φ (.con x d) ρ = some (d, .sh []) := by unfold ev; rfl
theorem vr_sh : varR n (some (some (d, .sh g))) = some (d, .sh g) := rfl
theorem vr_top : varR n (some (some (d, .top g))) = some (d, .sh ((n, true) :: g)) := rfl
theorem vr_own {ds : List D} : varR n (some (some (.list ds, .own))) = some (.list ds, .sh [(n, true)]) := by unfold varR flat; rfl
theorem y_op : ev Φ (.op o r) ρ = (evps Φ r ρ).bind fun ps => opR o ps := by
  conv => lhs; unfold ev
  cases evps Φ r ρ <;> rfl
theorem y_call {f : Nat} : ev Φ (.call f r) ρ = (evs Φ r ρ).bind fun rs => callR Φ f rs := by
  conv => lhs; unfold ev
  cases evs Φ r ρ <;> rfl
/-- a choice by a truth value -/
def cho {α : Type} (t : Option Bool) (x y : Option α) : Option α := t.bind fun b => if b then x else y
theorem cho_some {α : Type} {t : Bool} {x y : Option α} : cho (some t) x y = if t = true then x else y := rfl
theorem y_and : ev Φ (.and_ a b) ρ = (ev Φ a ρ).bind fun x => cho (truth x.1) (ev Φ b ρ) (some x) := by
  conv => lhs; unfold ev
  cases ev Φ a ρ with
  | none => rfl
  | some x =>
    simp only [Option.bind_some]
    unfold cho
    cases truth x.1 with
    | none => rfl
    | some t => cases t <;> rfl
theorem y_or : ev Φ (.or_ a b) ρ = (ev Φ a ρ).bind fun x => cho (truth x.1) (some x) (ev Φ b ρ) := by
  conv => lhs; unfold ev
  cases ev Φ a ρ with
  | none => rfl
  | some x =>
    simp only [Option.bind_some]
    unfold cho
    cases truth x.1 with
    | none => rfl
    | some t => cases t <;> rfl
theorem y_ife : ev Φ (.ife c a b) ρ = (ev Φ c ρ).bind fun x => cho (truth x.1) (ev Φ a ρ) (ev Φ b ρ) := by
  conv => lhs; unfold ev
  cases ev Φ c ρ with
  | none => rfl
  | some x =>
    simp only [Option.bind_some]
    unfold cho
    cases truth x.1 with
    | none => rfl
    | some t => cases t <;> rfl
def boolD : Option (D × Bool) → Option Bool
  | some (.bool t, _) => some t
  | _ => none
theorem y_chain {q : Ch} : ev Φ (.chain a o b q) ρ = (ev Φ a ρ).bind fun x => (ev Φ b ρ).bind fun y => cho (boolD (opF o [x.1, y.1])) (evch Φ q y.1 ρ) (some (.bool false, .sh [])) := by
  conv => lhs; unfold ev
  cases ev Φ a ρ with
  | none => rfl
  | some x =>
    simp only [Option.bind_some]
    cases ev Φ b ρ with
    | none => rfl
    | some y =>
      simp only [Option.bind_some]
      cases opF o [x.1, y.1] with
      | none => rfl
      | some q =>
        obtain ⟨d, t⟩ := q
        cases d with
        | bool t => cases t <;> rfl
        | _ => rfl
theorem y_one {y : D} : evch Φ (.one o c) y ρ = (ev Φ c ρ).bind fun z => (opF o [y, z.1]).map fun q => (q.1, nmS q.1 []) := by
  conv => lhs; unfold evch
  cases ev Φ c ρ with
  | none => rfl
  | some z =>
    simp only [Option.bind_some]
    cases opF o [y, z.1] <;> rfl
theorem y_more {y : D} {q : Ch} : evch Φ (.more o c q) y ρ = (ev Φ c ρ).bind fun z => cho (boolD (opF o [y, z.1])) (evch Φ q z.1 ρ) (some (.bool false, .sh [])) := by
  conv => lhs; unfold evch
  cases ev Φ c ρ with
  | none => rfl
  | some z =>
    simp only [Option.bind_some]
    cases opF o [y, z.1] with
    | none => rfl
    | some q =>
      obtain ⟨d, t⟩ := q
      cases d with
      | bool t => cases t <;> rfl
      | _ => rfl
theorem y_lst : ev Φ (.lst r) ρ = (evs Φ r ρ).bind fun rs => if rs.length ≤ 1000000 then some (dispL rs) else none := by
  conv => lhs; unfold ev
  cases evs Φ r ρ <;> rfl
theorem y_tup : ev Φ (.tup r) ρ = (evs Φ r ρ).bind fun rs => if rs.length ≤ 1000000 then some (dispT rs) else none := by
  conv => lhs; unfold ev
  cases evs Φ r ρ <;> rfl
theorem y_nil : evs Φ .nil ρ = some [] := by unfold evs; rfl
theorem y_cons : evs Φ (.cons e r) ρ = (ev Φ e ρ).bind fun x => (evs Φ r ρ).bind fun xs => some (x :: xs) := by
  conv => lhs; unfold evs
  cases ev Φ e ρ with
  | none => rfl
  | some x => simp only [Option.bind_some]; cases evs Φ r ρ <;> rfl
theorem y_pnil : evps Φ .nil ρ = some [] := by unfold evps; rfl
theorem y_pcons : evps Φ (.cons e r) ρ = (ev Φ e ρ).bind fun x => (evps Φ r ρ).bind fun xs => some ((x.1, pkT e ρ x.2.tags) :: xs) := by
  conv => lhs; unfold evps
  cases ev Φ e ρ with
  | none => rfl
  | some x => simp only [Option.bind_some]; cases evps Φ r ρ <;> rfl
theorem y_tnil : evts Φ .nil ρ = some true := by unfold evts; rfl
theorem y_tcons : evts Φ (.cons e r) ρ = (ev Φ e ρ).bind fun x => cho (truth x.1) (evts Φ r ρ) (some false) := by
  conv => lhs; unfold evts
  cases ev Φ e ρ with
  | none => rfl
  | some x =>
    simp only [Option.bind_some]
    unfold cho
    cases truth x.1 with
    | none => rfl
    | some t => cases t <;> rfl
def lcF (Φ : Fn) (vs : List Nat) (elt : E) (p : Pat) (ifs : Es) (g : List Tag) (ρ : Rho) (x : D) : Option (Option R) :=
  (setC p x g (wipeR vs ρ)).bind fun ρ' => cho (evts Φ ifs ρ') ((ev Φ elt ρ').map some) (some none)
theorem y_lc {vs : List Nat} {elt : E} {ifs : Es} : ev Φ (.lc vs elt p it ifs) ρ = (evi Φ it ρ).bind fun q => if q.1.length ≤ 1000000 then (lcRun (lcF Φ vs elt p ifs q.2.1 ρ) q.1).map dispL else none := by
  conv => lhs; unfold ev
  cases evi Φ it ρ with
  | none => rfl
  | some q =>
    obtain ⟨xs, g, g2⟩ := q
    simp only [Option.bind_some]
    have e : (fun x => match setC p x g (wipeR vs ρ) with
          | some ρ' => match evts Φ ifs ρ' with
            | some true => match ev Φ elt ρ' with
              | some r => some (some r)
              | none => none
            | some false => some none
            | none => none
          | none => none : D → Option (Option R)) = lcF Φ vs elt p ifs g ρ := by
      funext x
      unfold lcF
      cases setC p x g (wipeR vs ρ) with
      | none => rfl
      | some ρ' =>
        simp only [Option.bind_some]
        unfold cho
        cases evts Φ ifs ρ' with
        | none => rfl
        | some t =>
          cases t with
          | true => simp only [Option.bind_some, if_true]; cases ev Φ elt ρ' <;> rfl
          | false => rfl
    have key : ∀ F : D → Option (Option R), F = lcF Φ vs elt p ifs g ρ → (if xs.length ≤ 1000000 then match lcRun F xs with
        | some rs => some (dispL rs)
        | none => none
      else none) = if xs.length ≤ 1000000 then (lcRun (lcF Φ vs elt p ifs g ρ) xs).map dispL else none := fun F h => by
      subst h
      split
      · cases lcRun (lcF Φ vs elt p ifs g ρ) xs <;> rfl
      · rfl
    exact key _ e
/-! things walked -/
theorem y_ex : evi Φ (.ex e) ρ = (ev Φ e ρ).bind fun x => (seqItems x.1).bind fun xs => some (xs, pkT e ρ x.2.tags, x.2.tags) := by
  conv => lhs; unfold evi
  cases ev Φ e ρ with
  | none => rfl
  | some x => simp only [Option.bind_some]; cases seqItems x.1 <;> rfl
def intD : D → Option Int
  | .int i => some i
  | _ => none
def lstD : D → Option (List D)
  | .list ds => some ds
  | _ => none
theorem y_rng1 : evi Φ (.rng1 a) ρ = (ev Φ a ρ).bind fun x => (intD x.1).bind fun j => if rngOk j then some (rangeD 0 j.toNat, [], []) else none := by
  conv => lhs; unfold evi
  cases ev Φ a ρ with
  | none => rfl
  | some x =>
    obtain ⟨d, o⟩ := x
    cases d <;> rfl
theorem y_rng2 : evi Φ (.rng2 a b) ρ = (ev Φ a ρ).bind fun x => (intD x.1).bind fun i => (ev Φ b ρ).bind fun y => (intD y.1).bind fun j => if rngOk i && rngOk j then some (rangeD i (j - i).toNat, [], []) else none := by
  conv => lhs; unfold evi
  cases ev Φ a ρ with
  | none => rfl
  | some x =>
    obtain ⟨d, o⟩ := x
    cases d with
    | int i =>
      simp only [Option.bind_some, intD]
      cases ev Φ b ρ with
      | none => rfl
      | some y =>
        obtain ⟨d, o⟩ := y
        cases d <;> rfl
    | _ => rfl
theorem y_enum : evi Φ (.enum a) ρ = (ev Φ a ρ).bind fun x => (lstD x.1).bind fun ds => some (enumD 0 ds, pkT a ρ x.2.tags, x.2.tags) := by
  conv => lhs; unfold evi
  cases ev Φ a ρ with
  | none => rfl
  | some x =>
    obtain ⟨d, o⟩ := x
    cases d <;> rfl
theorem y_zip : evi Φ (.zip a b) ρ = (ev Φ a ρ).bind fun x => (lstD x.1).bind fun xs => (ev Φ b ρ).bind fun y => (lstD y.1).bind fun ys => some (zipD xs ys, pkT a ρ x.2.tags ++ pkT b ρ y.2.tags, x.2.tags ++ y.2.tags) := by
  conv => lhs; unfold evi
  cases ev Φ a ρ with
  | none => rfl
  | some x =>
    obtain ⟨d, o⟩ := x
    cases d with
    | list xs =>
      simp only [Option.bind_some, lstD]
      cases ev Φ b ρ with
      | none => rfl
      | some y =>
        obtain ⟨d, o⟩ := y
        cases d <;> rfl
    | _ => rfl
/-! statements -/
def nxt (f : Rho → Option Fl) : Option Fl → Option Fl
  | some (.nx ρ) => f ρ
  | x => x
theorem nxt_nx {f : Rho → Option Fl} : nxt f (some (.nx ρ)) = f ρ := rfl
theorem nxt_rt {f : Rho → Option Fl} {l : Nat} : nxt f (some (.rt d l)) = some (.rt d l) := rfl
theorem nxt_bk {f : Rho → Option Fl} : nxt f (some (.bk ρ)) = some (.bk ρ) := rfl
theorem nxt_ct {f : Rho → Option Fl} : nxt f (some (.ct ρ)) = some (.ct ρ) := rfl
theorem nxt_if {f : Rho → Option Fl} {q : Prop} [Decidable q] {x y : Option Fl} : nxt f (if q then x else y) = if q then nxt f x else nxt f y := by split <;> rfl
theorem s_nil : exs Φ W .nil ρ = some (.nx ρ) := by unfold exs; rfl
theorem s_cons : exs Φ W (.cons s ss) ρ = nxt (exs Φ W ss) (ex Φ W s ρ) := by
  conv => lhs; unfold exs
  cases ex Φ W s ρ with
  | none => rfl
  | some f => cases f <;> rfl
theorem s_asg : ex Φ W (.asg p e) ρ = (ev Φ e ρ).bind fun x => (setP p x.1 (stO x.2) (frz x.2.tags ρ)).map .nx := by
  conv => lhs; unfold ex
  cases ev Φ e ρ with
  | none => rfl
  | some x =>
    obtain ⟨d, o⟩ := x
    simp only [Option.bind_some]
    cases setP p d (stO o) (frz o.tags ρ) <;> rfl
theorem s_par {u v : Nat} : ex Φ W (.par u v a b) ρ = (ev Φ a ρ).bind fun x => (ev Φ b ρ).bind fun y => if u < ρ.length ∧ v < ρ.length then some (.nx (((frz (x.2.tags ++ y.2.tags) ρ).set u (some (x.1, stO x.2))).set v (some (y.1, stO y.2)))) else none := by
  conv => lhs; unfold ex
  cases ev Φ a ρ with
  | none => rfl
  | some x =>
    obtain ⟨d, o⟩ := x
    simp only [Option.bind_some]
    cases ev Φ b ρ <;> rfl
theorem s_drop : ex Φ W (.drop e) ρ = (ev Φ e ρ).bind fun _ => some (.nx ρ) := by
  conv => lhs; unfold ex
  cases ev Φ e ρ <;> rfl
theorem s_app {u : Nat} : ex Φ W (.app u e) ρ = (ev Φ e ρ).bind fun x => (ownL (frz x.2.tags ρ) u).bind fun q => if q.1.length < 1000000 then some (.nx (putL (frz ((if isOwn x then [] else [(u, false)]) ++ x.2.tags) ρ) u (q.1 ++ [x.1]) (q.2 && isOwn x))) else none := by
  conv => lhs; unfold ex
  cases ev Φ e ρ with
  | none => rfl
  | some x =>
    obtain ⟨d, o⟩ := x
    simp only [Option.bind_some]
    cases ownL (frz o.tags ρ) u with
    | none => rfl
    | some q => obtain ⟨ds, deep⟩ := q; rfl
def retV : Option (Option R) → Option Fl
  | some (some (d, o)) => some (.rt d (lvl o))
  | _ => none
theorem s_retv {u : Nat} : ex Φ W (.ret (.var u)) ρ = retV (ρ[u]?) := by
  conv => lhs; unfold ex
  unfold retV
  rfl
theorem rv {o : Ow} : retV (some (some (d, o))) = some (.rt d (lvl o)) := rfl
theorem s_ret (hn : ∀ i, e ≠ .var i) : ex Φ W (.ret e) ρ = (ev Φ e ρ).map fun x => .rt x.1 (lvl x.2) := by
  cases e with
  | var i => exact absurd rfl (hn i)
  | _ => (conv => lhs; unfold ex) <;> (split <;> (rename_i q; rw [q]; rfl))
theorem s_retN : ex Φ W .retN ρ = some (.rt .none 2) := by unfold ex; rfl
theorem s_iff : ex Φ W (.iff c s1 s2) ρ = (ev Φ c ρ).bind fun x => cho (truth x.1) (exs Φ W s1 ρ) (exs Φ W s2 ρ) := by
  conv => lhs; unfold ex
  cases ev Φ c ρ with
  | none => rfl
  | some x =>
    simp only [Option.bind_some]
    unfold cho
    cases truth x.1 with
    | none => rfl
    | some t => cases t <;> rfl
def forF (Φ : Fn) (W : Nat) (p : Pat) (body : Ss) (x : D) (ρ : Rho) : Option Fl := (setP p x (.sh []) ρ).bind (exs Φ W body)
theorem s_for {body : Ss} : ex Φ W (.for_ p it body k) ρ = (evi Φ it ρ).bind fun q => forRun (forF Φ W p body) k q.1 (frz q.2.2 ρ) := by
  conv => lhs; unfold ex
  cases evi Φ it ρ with
  | none => rfl
  | some q =>
    obtain ⟨xs, g, g2⟩ := q
    simp only [Option.bind_some]
    congr 1
    funext x ρ'
    unfold forF
    cases setP p x (.sh []) ρ' <;> rfl
def whlC (Φ : Fn) (c : E) (ρ : Rho) : Option Bool := (ev Φ c ρ).bind fun x => truth x.1
theorem s_whl {body : Ss} : ex Φ W (.whl c body k) ρ = whlRun (whlC Φ c) (exs Φ W body) k W ρ := by
  conv => lhs; unfold ex
  have e : (fun ρ' => match ev Φ c ρ' with
      | some r => truth r.1
      | none => none : Rho → Option Bool) = whlC Φ c := by
    funext ρ'
    unfold whlC
    cases ev Φ c ρ' <;> rfl
  exact congrArg (fun f => whlRun f (exs Φ W body) k W ρ) e
theorem s_kill : ex Φ W (.kill k) ρ = some (.nx (wipeR k ρ)) := by unfold ex; rfl
theorem s_brk : ex Φ W .brk ρ = some (.bk ρ) := by unfold ex; rfl
theorem s_cnt : ex Φ W .cnt ρ = some (.ct ρ) := by unfold ex; rfl
theorem s_pass : ex Φ W .pass ρ = some (.nx ρ) := by unfold ex; rfl
theorem s_nev : ex Φ W .nev ρ = none := by unfold ex; rfl
theorem p_nm {u : Nat} {o : Ow} : setP (.nm u) d o ρ = if u < ρ.length then some (ρ.set u (some (d, o))) else none := by unfold setP; rfl
theorem p_tup {ps : Pats} {ds : List D} {o : Ow} : setP (.tp ps) (.tuple ds) o ρ = setPs ps ds o ρ := by unfold setP; rfl
theorem p_lst {ps : Pats} {ds : List D} {o : Ow} : setP (.tp ps) (.list ds) o ρ = setPs ps ds o ρ := by unfold setP; rfl
theorem p_nil {o : Ow} : setPs .nil [] o ρ = some ρ := by unfold setPs; rfl
def cmO : Ow → Ow
  | .own => .own
  | _ => .sh []
theorem p_cons {p : Pat} {ps : Pats} {d : D} {ds : List D} {o : Ow} : setPs (.cons p ps) (d :: ds) o ρ = (setP p d (cmO o) ρ).bind (setPs ps ds o) := by
  conv => lhs; unfold setPs
  cases o <;> (show (match setP p d _ ρ with | some ρ' => setPs ps ds _ ρ' | none => none) = _) <;> (unfold cmO; cases setP p d _ ρ <;> rfl)
theorem c_nm {u : Nat} : setC (.nm u) d g ρ = some (ρ.set u (some (d, nmS d g))) := by unfold setC; rfl
theorem c_tup {ps : Pats} {ds : List D} : setC (.tp ps) (.tuple ds) g ρ = setCs ps ds g ρ := by unfold setC; rfl
theorem c_lst {ps : Pats} {ds : List D} : setC (.tp ps) (.list ds) g ρ = setCs ps ds g ρ := by unfold setC; rfl
theorem c_nil : setCs .nil [] g ρ = some ρ := by unfold setCs; rfl
theorem c_cons {p : Pat} {ps : Pats} {d : D} {ds : List D} : setCs (.cons p ps) (d :: ds) g ρ = (setC p d g ρ).bind (setCs ps ds g) := by
  conv => lhs; unfold setCs
  cases setC p d g ρ <;> rfl
/-! flat results -/
theorem nmS_int : nmS (.int i) g = .sh [] := by unfold nmS; split <;> rfl
theorem nmS_boolD {t : Bool} : nmS (.bool t) g = .sh [] := by unfold nmS; split <;> rfl
theorem nmS_str {x : Str} : nmS (.str x) g = .sh [] := by unfold nmS; split <;> rfl
theorem nmS_none : nmS .none g = .sh [] := by unfold nmS; split <;> rfl
theorem nmS_nil : nmS d [] = .sh [] := rfl
theorem o_neg' : opR .neg [(.int i, g)] = some (.int (-i), .sh []) := by simp only [opR, opF, List.map, nmS_int]
theorem o_not' {t : Bool} : opR .not_ [(.bool t, g)] = some (.bool (!t), .sh []) := by simp only [opR, opF, List.map, truth, Option.map, nmS_boolD]
theorem o_add' : opR .add [(.int i, g), (.int j, h)] = some (.int (i + j), .sh []) := by simp only [opR, opF, List.map, oAdd, nmS_int]
theorem o_sub' : opR .sub [(.int i, g), (.int j, h)] = some (.int (i - j), .sh []) := by simp only [opR, opF, List.map, oSub, nmS_int]
theorem o_mul' : opR .mul [(.int i, g), (.int j, h)] = if mulOk i j = true then some (.int (i * j), .sh []) else none := by
  simp only [opR, opF, List.map, oMul]
  by_cases q : mulOk i j = true
  · simp only [q, if_true, nmS_int]
  · simp only [q, if_false, Bool.false_eq_true]
theorem o_div' : opR .fdiv [(.int i, g), (.int j, h)] = if divOk j = true then some (.int (i.fdiv j), .sh []) else none := by
  simp only [opR, opF, List.map, oDiv]
  by_cases q : divOk j = true
  · simp only [q, if_true, nmS_int]
  · simp only [q, if_false, Bool.false_eq_true]
theorem o_mod' : opR .mod [(.int i, g), (.int j, h)] = if j = 0 then none else some (.int (i.fmod j), .sh []) := by
  simp only [opR, opF, List.map, oMod]
  by_cases q : j = 0
  · simp only [q, if_true]
  · simp only [q, if_false, nmS_int]
theorem o_abs' : opR .abs [(.int i, g)] = some (.int (if i < 0 then -i else i), .sh []) := by simp only [opR, opF, List.map, oAbs, nmS_int]
theorem o_int' : opR .int [(.int i, g)] = some (.int i, .sh []) := by simp only [opR, opF, List.map, oInt, nmS_int]
theorem o_intb' {t : Bool} : opR .int [(.bool t, g)] = some (.int (if t = true then 1 else 0), .sh []) := by simp only [opR, opF, List.map, oInt, nmS_int]
theorem o_min' : opR .min2 [(.int i, g), (.int j, h)] = some (.int (if j < i then j else i), .sh []) := by simp only [opR, opF, List.map, oMin2, nmS_int]
theorem o_max' : opR .max2 [(.int i, g), (.int j, h)] = some (.int (if j > i then j else i), .sh []) := by simp only [opR, opF, List.map, oMax2, nmS_int]
theorem o_gcd' : opR .gcd [(.int i, g), (.int j, h)] = some (.int ((Nat.gcd i.natAbs j.natAbs : Nat) : Int), .sh []) := by simp only [opR, opF, List.map, oGcd, nmS_int]
theorem o_lt' : opR .lt [(.int i, g), (.int j, h)] = some (.bool (decide (i < j)), .sh []) := by simp only [opR, opF, List.map, oCmp, nmS_boolD]
theorem o_le' : opR .le [(.int i, g), (.int j, h)] = some (.bool (decide (i ≤ j)), .sh []) := by simp only [opR, opF, List.map, oCmp, nmS_boolD]
theorem o_gt' : opR .gt [(.int i, g), (.int j, h)] = some (.bool (decide (j < i)), .sh []) := by simp only [opR, opF, List.map, oCmp, nmS_boolD]
theorem o_ge' : opR .ge [(.int i, g), (.int j, h)] = some (.bool (decide (j ≤ i)), .sh []) := by simp only [opR, opF, List.map, oCmp, nmS_boolD]
theorem f_lt : opF .lt [.int i, .int j] = some (.bool (decide (i < j)), false) := rfl
theorem f_le : opF .le [.int i, .int j] = some (.bool (decide (i ≤ j)), false) := rfl
theorem f_gt : opF .gt [.int i, .int j] = some (.bool (decide (j < i)), false) := rfl
theorem f_ge : opF .ge [.int i, .int j] = some (.bool (decide (j ≤ i)), false) := rfl
theorem boolD_some {t u : Bool} : boolD (some (.bool t, u)) = some t := rfl
theorem o_lenl {ds : List D} : opR .len [(.list ds, g)] = some (.int (ds.length : Int), .sh []) := by simp only [opR, opF, List.map, oLen, nmS_int]
theorem o_lent {ds : List D} : opR .len [(.tuple ds, g)] = some (.int (ds.length : Int), .sh []) := by simp only [opR, opF, List.map, oLen, nmS_int]
theorem o_idxl {ds : List D} : opR .idx [(.list ds, g), (.int i, h)] = (atD ds i).map fun d => (d, nmS d (g ++ h)) := by
  simp only [opR, opF, List.map, oIdx]
  cases atD ds i <;> simp
theorem o_idxt {ds : List D} : opR .idx [(.tuple ds, g), (.int i, h)] = (atD ds i).map fun d => (d, nmS d (g ++ h)) := by
  simp only [opR, opF, List.map, oIdx]
  cases atD ds i <;> simp
theorem o_isn' : opR .isn [(d, g)] = some (.bool (isNone d), .sh []) := by simp only [opR, opF, List.map, nmS_boolD]
theorem o_isnn' : opR .isnn [(d, g)] = some (.bool (!isNone d), .sh []) := by simp only [opR, opF, List.map, nmS_boolD]
theorem eqv_int : PyData.eqv (.int i) (.int j) = decide (i = j) := by
  first | rfl | (unfold PyData.eqv; rfl) | (unfold PyData.eqv; simp; done)
theorem o_eq' : opR .eq [(.int i, g), (.int j, h)] = some (.bool (decide (i = j)), .sh []) := by
  have e : (shapedB (.int i) && shapedB (.int j)) = true := rfl
  simp only [opR, opF, List.map, oEq, e, if_true, eqv_int, nmS_boolD]
theorem o_ne' : opR .ne [(.int i, g), (.int j, h)] = some (.bool (!decide (i = j)), .sh []) := by
  have e : (shapedB (.int i) && shapedB (.int j)) = true := rfl
  simp only [opR, opF, List.map, oNe, e, if_true, eqv_int, nmS_boolD]
theorem t_bool {t : Bool} : truth (.bool t) = some t := rfl
theorem t_int : truth (.int i) = some (i != 0) := rfl
end
end Z
/-! YB: rules for loops; returns; freezing. -/
namespace Z
open PySem L2
section
variable {Φ : Fn} {W : Nat} {ρ ρ' : Rho} {e a b c : E} {r : Es} {o : Op} {k : List Nat} {d : D} {g h : List Tag} {i j : Int} {n : Nat}
theorem r_op : ex Φ W (.ret (.op o r)) ρ = (ev Φ (.op o r) ρ).map fun x => .rt x.1 (lvl x.2) := s_ret fun i z => by cases z
theorem r_lit : ex Φ W (.ret (.lit d)) ρ = some (.rt d 0) := by rw [s_ret (fun i z => by cases z), y_lit]; rfl
theorem r_con {x : Str} : ex Φ W (.ret (.con x d)) ρ = some (.rt d 0) := by rw [s_ret (fun i z => by cases z), y_con]; rfl
theorem r_call {f : Nat} : ex Φ W (.ret (.call f r)) ρ = (ev Φ (.call f r) ρ).map fun x => .rt x.1 (lvl x.2) := s_ret fun i z => by cases z
theorem r_and : ex Φ W (.ret (.and_ a b)) ρ = (ev Φ (.and_ a b) ρ).map fun x => .rt x.1 (lvl x.2) := s_ret fun i z => by cases z
theorem r_or : ex Φ W (.ret (.or_ a b)) ρ = (ev Φ (.or_ a b) ρ).map fun x => .rt x.1 (lvl x.2) := s_ret fun i z => by cases z
theorem r_ife : ex Φ W (.ret (.ife c a b)) ρ = (ev Φ (.ife c a b) ρ).map fun x => .rt x.1 (lvl x.2) := s_ret fun i z => by cases z
theorem r_chain {q : Ch} : ex Φ W (.ret (.chain a o b q)) ρ = (ev Φ (.chain a o b q) ρ).map fun x => .rt x.1 (lvl x.2) := s_ret fun i z => by cases z
theorem r_lst : ex Φ W (.ret (.lst r)) ρ = (ev Φ (.lst r) ρ).map fun x => .rt x.1 (lvl x.2) := s_ret fun i z => by cases z
theorem r_tup : ex Φ W (.ret (.tup r)) ρ = (ev Φ (.tup r) ρ).map fun x => .rt x.1 (lvl x.2) := s_ret fun i z => by cases z
theorem r_lc {vs : List Nat} {elt : E} {p : Pat} {it : It} {ifs : Es} : ex Φ W (.ret (.lc vs elt p it ifs)) ρ = (ev Φ (.lc vs elt p it ifs) ρ).map fun x => .rt x.1 (lvl x.2) := s_ret fun i z => by cases z
theorem frz_n : frz [] ρ = ρ := rfl
theorem frz_c {t : Tag} : frz (t :: g) ρ = frzFrom (t :: g) 0 ρ := rfl
theorem ff_nil : frzFrom g n [] = [] := rfl
theorem ff_cons {x : Option R} : frzFrom g n (x :: ρ) = frz1 g n x :: frzFrom g (n + 1) ρ := rfl
theorem f1_none : frz1 g n none = none := rfl
theorem f1_sh : frz1 g n (some (d, .sh h)) = some (d, .sh h) := rfl
theorem f1_top : frz1 g n (some (d, .top h)) = if hasT n true g = true then some (d, .sh h) else some (d, .top h) := rfl
theorem f1_own {ds : List D} : frz1 g n (some (.list ds, .own)) = if hasT n true g = true then some (.list ds, .sh []) else if hasT n false g = true then some (.list ds, .top []) else some (.list ds, .own) := rfl
theorem w_nil : wipeR [] ρ = ρ := rfl
theorem w_cons {v : Nat} {vs : List Nat} : wipeR (v :: vs) ρ = (wipeR vs ρ).set v none := rfl
def runB : Option Fl → Option (D × Nat)
  | some (.rt d l) => some (d, l)
  | some (.nx _) => some (.none, 2)
  | _ => none
theorem rb_rt {l : Nat} : runB (some (.rt d l)) = some (d, l) := rfl
theorem rb_nx : runB (some (.nx ρ)) = some (.none, 2) := rfl
theorem rb_if {q : Prop} [Decidable q] {x y : Option Fl} : runB (if q then x else y) = if q then runB x else runB y := by split <;> rfl
theorem run_fd {np nn : Nat} {body : Ss} {ds : List D} (hl : ds.length = np) : runFd Φ W ⟨np, nn, body⟩ ds = runB (exs Φ W body (ds.map param ++ List.replicate (nn - np) none)) := by
  unfold runFd
  rw [if_pos hl]
  cases exs Φ W body (ds.map param ++ List.replicate (nn - np) none) with
  | none => rfl
  | some f => cases f <;> rfl
theorem run_s {T : Nat → Option Fd} {n j : Nat} {f : Fd} (h : T j = some f) (ds : List D) : run W T (n + 1) j ds = runFd (run W T n) W f ds := by
  show (match T j with | some f => runFd (run W T n) W f ds | none => none) = _
  rw [h]

/-! loops -/
/-- a loop that only goes on: its state as s -/
theorem for_fold {α σ : Type} (item : α → D) (enc : σ → Rho) (step : σ → α → σ) (inv : σ → Prop) (F : D → Rho → Option Fl) : ∀ (xs : List α) (s : σ), inv s →
    (∀ s x, x ∈ xs → inv s → inv (step s x) ∧ ∃ ρ', F (item x) (enc s) = some (.nx ρ') ∧ wipeR k ρ' = enc (step s x)) → (∀ s, wipeR k (enc s) = enc s) →
    forRun F k (xs.map item) (enc s) = some (.nx (enc (xs.foldl step s))) ∧ inv (xs.foldl step s)
  | [], s, hi, _, hk => ⟨by simp [forRun, hk], hi⟩
  | x :: xs, s, hi, hs, hk => by
    obtain ⟨i2, ρ', h1, h2⟩ := hs s x List.mem_cons_self hi
    rw [List.map_cons, List.foldl_cons]
    unfold forRun
    rw [h1]
    simp only
    rw [h2]
    exact for_fold item enc step inv F xs (step s x) i2 (fun s y hy => hs s y (List.mem_cons_of_mem _ hy)) hk
/-- a comprehension without tests -/
theorem lc_map {α : Type} (item : α → D) (res : α → R) (F : D → Option (Option R)) : ∀ (xs : List α), (∀ x ∈ xs, F (item x) = some (some (res x))) → lcRun F (xs.map item) = some (xs.map res)
  | [], _ => rfl
  | x :: xs, h => by
    rw [List.map_cons, List.map_cons]
    unfold lcRun
    rw [h x List.mem_cons_self]
    simp only
    rw [lc_map item res F xs fun y hy => h y (List.mem_cons_of_mem _ hy)]
    rfl
/-- with a test -/
theorem lc_filter {α : Type} (item : α → D) (res : α → R) (p : α → Bool) (F : D → Option (Option R)) : ∀ (xs : List α), (∀ x ∈ xs, F (item x) = if p x = true then some (some (res x)) else some none) → lcRun F (xs.map item) = some ((xs.filter p).map res)
  | [], _ => rfl
  | x :: xs, h => by
    rw [List.map_cons]
    unfold lcRun
    rw [h x List.mem_cons_self]
    have ih := lc_filter item res p F xs fun y hy => h y (List.mem_cons_of_mem _ hy)
    by_cases q : p x = true
    · rw [if_pos q, List.filter_cons_of_pos q, List.map_cons]
      simp only
      rw [ih]
      rfl
    · rw [if_neg q, List.filter_cons_of_neg q]
      simp only
      exact ih
theorem range_items (n : Nat) : rangeD 0 n = (List.range n).map fun (k : Nat) => .int (k : Int) := by
  unfold rangeD
  congr 1
  funext k
  rw [Int.zero_add]
theorem rng_ok (h1 : -1000000000 ≤ i) (h2 : i ≤ 1000000000) : rngOk i = true := by
  unfold rngOk
  simp [h1, h2]
theorem small_ok (h1 : -18446744073709551616 < i) (h2 : i < 18446744073709551616) : small i = true := by
  unfold small
  simp [h1, h2]
theorem mul_ok_r (h : small j = true) : mulOk i j = true := by unfold mulOk; rw [h]; simp
theorem mul_ok_l (h : small i = true) : mulOk i j = true := by unfold mulOk; rw [h]; simp
theorem div_ok (h1 : 0 < j) (h2 : j < 1073741824) : divOk j = true := by
  unfold divOk
  have e1 : j ≠ 0 := by omega
  have e2 : j.natAbs < 1073741824 := by omega
  simp [e1, e2]
end
end Z
namespace Z
open PySem L2
section
variable {Φ : Fn} {W : Nat} {ρ ρ' : Rho} {e a b c : E} {r : Es} {o : Op} {k : List Nat} {d : D} {g h : List Tag} {i j : Int} {n : Nat} {ds : List D}
theorem ite_b {q : Prop} [Decidable q] {x y : Bool} : (if q then some (PyData.bool x, Ow.sh []) else some (PyData.bool y, Ow.sh [])) = some (PyData.bool (if q then x else y), Ow.sh []) := by split <;> rfl
def ownQ : Option (Option R) → Option (List D × Bool)
  | some (some (.list ds, .own)) => some (ds, true)
  | some (some (.list ds, .top _)) => some (ds, false)
  | _ => none
theorem own_q {u : Nat} : ownL ρ u = ownQ (ρ[u]?) := by unfold ownL ownQ; rfl
theorem oq_own : ownQ (some (some (.list ds, .own))) = some (ds, true) := rfl
theorem oq_top : ownQ (some (some (.list ds, .top g))) = some (ds, false) := rfl
theorem put_o {u : Nat} : putL ρ u ds true = ρ.set u (some (.list ds, .own)) := rfl
theorem put_t {u : Nat} : putL ρ u ds false = ρ.set u (some (.list ds, .top [])) := rfl
theorem io_int : isOwn (.int i, .sh g) = true := rfl
theorem io_bool {t : Bool} : isOwn (.bool t, .sh g) = true := rfl
theorem io_str {x : Str} : isOwn (.str x, .sh g) = true := rfl
theorem io_own : isOwn (d, .own) = true := rfl
theorem hasT_n {u : Nat} {t : Bool} : hasT u t [] = false := rfl
theorem hasT_c {u v : Nat} {t s : Bool} : hasT u t ((v, s) :: g) = ((v == u && s == t) || hasT u t g) := rfl
theorem o_pow' (hq : (0 ≤ j ∧ j ≤ 1000000 ∧ i.natAbs < 18446744073709551616)) {g h : List Tag} : opR .pow [(.int i, g), (.int j, h)] = some (.int (i ^ j.toNat), .sh []) := by
  simp only [opR, opF, List.map, oPow, if_pos hq, nmS_int]
theorem dl_e {rs : List R} : dispL rs = (.list (rs.map (·.1)), if rs.all isOwn = true then .own else .top (tagsAll rs)) := rfl
theorem dt_e {rs : List R} : dispT rs = (.tuple (rs.map (·.1)), if rs.all isOwn = true then .own else nmS (.tuple (rs.map (·.1))) (tagsAll rs)) := rfl
theorem ta_n : tagsAll [] = [] := rfl
theorem ta_c {x : R} {rs : List R} : tagsAll (x :: rs) = x.2.tags ++ tagsAll rs := rfl
theorem for_inv {α : Type} (item : α → D) (Inv : Nat → Rho → Prop) (F : D → Rho → Option Fl) (hk : ∀ i ρ, Inv i ρ → Inv i (wipeR k ρ)) : ∀ (xs : List α) (i : Nat) (ρ : Rho), Inv i ρ →
    (∀ j x ρ, xs[j]? = some x → Inv (i + j) ρ → ∃ ρ', (F (item x) ρ = some (.nx ρ') ∨ F (item x) ρ = some (.ct ρ')) ∧ Inv (i + j + 1) (wipeR k ρ')) → ∃ ρ', forRun F k (xs.map item) ρ = some (.nx ρ') ∧ Inv (i + xs.length) ρ'
  | [], i, ρ, hi, hs => ⟨_, rfl, hk i ρ hi⟩
  | x :: xs, i, ρ, hi, hs => by
    obtain ⟨ρ', h1, h2⟩ := hs 0 x ρ rfl hi
    rw [List.map_cons]
    unfold forRun
    have ih := for_inv item Inv F hk xs (i + 1) (wipeR k ρ') h2 fun j y ρ hy hI => by
      have q := hs (j + 1) y ρ (by rw [List.getElem?_cons_succ]; exact hy) (by rw [show i + (j + 1) = i + 1 + j by omega]; exact hI)
      rw [show i + (j + 1) + 1 = i + 1 + j + 1 by omega] at q
      exact q
    rw [List.length_cons, show i + (xs.length + 1) = i + 1 + xs.length by omega]
    rcases h1 with h1 | h1
    · rw [h1]; exact ih
    · rw [h1]; exact ih
theorem range_at {n j k : Nat} (h : (List.range n)[j]? = some k) : k = j ∧ j < n := by
  obtain ⟨h1, h2⟩ := List.getElem?_eq_some_iff.mp h
  rw [List.length_range] at h1
  rw [List.getElem_range] at h2
  exact ⟨h2.symm, h1⟩
theorem atD_map {α : Type} (f : α → D) (xs : List α) (i : Int) (h0 : 0 ≤ i) (h1 : i < (xs.length : Int)) : ∃ x, x ∈ xs ∧ xs[i.toNat]? = some x ∧ atD (xs.map f) i = some (f x) := by
  have hn : i.toNat < xs.length := by omega
  refine ⟨xs[i.toNat], List.getElem_mem hn, List.getElem?_eq_getElem hn, ?_⟩
  unfold atD
  have e : ixN (xs.map f).length i = some i.toNat := by
    unfold ixN
    rw [List.length_map]
    first
    | (rw [if_pos (by omega), if_pos (by omega)])
    | (simp only [h0, h1, if_true]; done)
    | (split <;> first | rfl | omega | (split <;> first | rfl | omega))
  rw [e]
  simp only [Option.bind_some, List.getElem?_map, List.getElem?_eq_getElem hn, Option.map_some]
theorem emod_bd (i : Int) {m : Int} (h : 0 < m) : 0 ≤ i.fmod m ∧ i.fmod m < m := by
  rw [Int.fmod_eq_emod_of_nonneg _ (by omega)]
  exact ⟨Int.emod_nonneg _ (by omega), Int.emod_lt_of_pos _ h⟩
end
end Z
namespace Z
open PySem L2
section
variable {Φ : Fn} {d : D} {j : Nat} {rs : List R}
def callQ (rs : List R) : Option (D × Nat) → Option R
  | some (d, 0) => some (d, nmS d (tagsAll rs))
  | some (d, 1) => some (d, nmT d (tagsAll rs))
  | some (d, _) => some (d, .own)
  | none => none
theorem call_q : callR Φ j rs = callQ rs (Φ j (rs.map (·.1))) := by
  unfold callR callQ
  split <;> simp_all
theorem cq_0 : callQ rs (some (d, 0)) = some (d, nmS d (tagsAll rs)) := rfl
theorem cq_1 : callQ rs (some (d, 1)) = some (d, nmT d (tagsAll rs)) := rfl
theorem cq_2 : callQ rs (some (d, 2)) = some (d, .own) := rfl
theorem atD_0 {ds : List D} : atD (d :: ds) 0 = some d := by
  unfold atD
  have e : ixN (d :: ds).length 0 = some 0 := by
    unfold ixN
    rw [if_pos (by decide), if_pos (by simp <;> omega)]
    rfl
  rw [e]
  rfl
theorem atD_1 {d2 : D} {ds : List D} : atD (d :: d2 :: ds) 1 = some d2 := by
  unfold atD
  have e : ixN (d :: d2 :: ds).length 1 = some 1 := by
    unfold ixN
    rw [if_pos (by decide), if_pos (by simp <;> omega)]
    rfl
  rw [e]
  rfl
end
end Z
namespace Z
open PySem L2
theorem whl_term {σ : Type} {k : List Nat} (enc : σ → Rho) (cond : σ → Bool) (step : σ → σ) (inv : σ → Prop) (μ : σ → Nat) (c : Rho → Option Bool) (f : Rho → Option Fl) (hk : ∀ s, wipeR k (enc s) = enc s) (hc : ∀ s, inv s → c (enc s) = some (cond s))
    (hs : ∀ s, inv s → cond s = true → inv (step s) ∧ μ (step s) < μ s ∧ ∃ ρ', f (enc s) = some (.nx ρ') ∧ wipeR k ρ' = enc (step s)) : ∀ (n : Nat) (s : σ), inv s → μ s < n → ∃ s', whlRun c f k n (enc s) = some (.nx (enc s')) ∧ inv s' ∧ cond s' = false
  | 0, s, _, h => absurd h (Nat.not_lt_zero _)
  | n + 1, s, hi, h => by
    unfold whlRun
    rw [hc s hi]
    cases q : cond s with
    | false => exact ⟨s, by simp only [hk], hi, q⟩
    | true =>
      obtain ⟨i2, m2, ρ', h1, h2⟩ := hs s hi q
      simp only
      rw [h1]
      simp only
      rw [h2]
      exact whl_term enc cond step inv μ c f hk hc hs n (step s) i2 (by omega)
end Z
namespace Z
open PySem L2
section
variable {n : Nat} {d : D} {g : List Tag} {i j : Int} {ds : List D}
theorem vr_pair : varR n (some (some (.tuple [.int i, .int j], .own))) = some (.tuple [.int i, .int j], .sh []) := by
  unfold varR
  have e : flat (.tuple [.int i, .int j]) = true := by simp [flat, flats]
  simp only [e, if_true]
theorem nmS_pair : nmS (.tuple [.int i, .int j]) g = .sh [] := by
  unfold nmS
  have e : flat (.tuple [.int i, .int j]) = true := by simp [flat, flats]
  rw [e]
  split <;> rfl
theorem si_list : seqItems (.list ds) = some ds := rfl
theorem si_tup : seqItems (.tuple ds) = some ds := rfl
end
end Z
namespace Z
open PySem L2
section
variable {n : Nat} {d : D} {g h : List Tag} {i j : Int} {ds es : List D} {ρ : Rho} {o : Op} {r : Es} {a b c : E} {u : Nat} {t : Tag}
def pkQ (n : Nat) (x : Option (Option R)) (g : List Tag) : List Tag := match x with
  | some (some (d, .own)) => if flat d then [] else [(n, false)]
  | some (some (_, .top h)) => (n, false) :: h
  | _ => g
theorem pk_var : pkT (.var n) ρ g = pkQ n (ρ[n]?) g := by unfold pkT pkQ; rfl
theorem pq_sh : pkQ n (some (some (d, .sh h))) g = g := rfl
theorem pq_top : pkQ n (some (some (d, .top h))) g = (n, false) :: h := rfl
theorem pq_own : pkQ n (some (some (.list ds, .own))) g = [(n, false)] := by unfold pkQ flat; rfl
theorem pk_op : pkT (.op o r) ρ g = g := rfl
theorem pk_call : pkT (.call u r) ρ g = g := rfl
theorem pk_lit : pkT (.lit d) ρ g = g := rfl
theorem pk_con {x : Str} : pkT (.con x d) ρ g = g := rfl
theorem pk_lst : pkT (.lst r) ρ g = g := rfl
theorem pk_tup : pkT (.tup r) ρ g = g := rfl
theorem pk_lc {vs : List Nat} {p : Pat} {it : It} {ifs : Es} : pkT (.lc vs a p it ifs) ρ g = g := rfl
theorem pk_ife : pkT (.ife a b c) ρ g = g := rfl
theorem pk_or : pkT (.or_ a b) ρ g = g := rfl
theorem pk_and : pkT (.and_ a b) ρ g = g := rfl
theorem nmS_list : nmS (.list ds) (t :: g) = .sh (t :: g) := by
  unfold nmS
  have e : flat (.list ds) = false := by unfold flat; rfl
  rw [e]
  rfl
theorem flats_ints (xs : List Int) : flats (xs.map .int) = true := by
  induction xs with
  | nil => rfl
  | cons x xs ih =>
    show (flat (.int x) && flats (xs.map .int)) = true
    rw [ih]
    rfl
theorem nmT_ints {xs : List Int} : nmT (.list (xs.map .int)) g = .own := by
  show (if flats (xs.map .int) = true then Ow.own else Ow.top g) = .own
  rw [if_pos (flats_ints xs)]
theorem nmT_deep {es : List D} : nmT (.list (.list es :: ds)) g = .top g := by
  have e : flats (.list es :: ds) = false := by
    show (flat (.list es) && flats ds) = false
    have e : flat (.list es) = false := by unfold flat; rfl
    rw [e]
    rfl
  show (if flats (.list es :: ds) = true then Ow.own else Ow.top g) = .top g
  rw [e]
  rfl
theorem o_addl : opR .add [(.list ds, g), (.list es, h)] = if ds.length + es.length ≤ 1000000 then some (.list (ds ++ es), nmT (.list (ds ++ es)) (g ++ h)) else none := by
  simp only [opR, opF, List.map, oAdd]
  by_cases q : ds.length + es.length ≤ 1000000
  · simp only [q, if_true, List.flatten_cons, List.flatten_nil, List.append_nil]
  · simp only [q, if_false]
end
end Z
namespace Z
open PySem L2
theorem nmT_snoc {xs : List Int} {i : Int} {g : List Tag} : nmT (.list (xs.map .int ++ [.int i])) g = .own := by
  have e : xs.map PyData.int ++ [.int i] = (xs ++ [i]).map .int := by simp
  rw [e, nmT_ints]
end Z
namespace Z
theorem ite_sb {q : Prop} [Decidable q] : (if q then some true else some false) = some (decide q) := by split <;> simp_all
end Z
/-! YC: the two defs that every law has: the draws, the mix. -/
namespace Z
open PySem L2
def b0_law_draws : Ss := (.cons (.iff (.op .gt (.cons (.var 3) (.cons (.lit (.int 0)) .nil))) (.cons (.app 1 (.op .mod (.cons (.op .int (.cons (.var 3) .nil)) (.cons (.lit (.int 65536)) .nil)))) (.cons (.asg (.nm 3) (.op .fdiv (.cons (.var 3) (.cons (.lit (.int 65536)) .nil)))) .nil)) .nil) .nil)
def b1_law_draws : Ss := (.cons (.asg (.nm 3) (.op .abs (.cons (.op .idx (.cons (.var 0) (.cons (.var 2) .nil))) .nil))) (.cons (.iff (.op .ge (.cons (.var 3) (.cons (.op .pow (.cons (.lit (.int 10)) (.cons (.lit (.int 18)) .nil))) .nil))) (.cons (.for_ (.nm 4) (.rng1 (.lit (.int 60))) b0_law_draws [4]) (.cons (.kill [3, 4, 5]) .nil)) (.cons (.asg (.nm 5) (.op .mod (.cons (.op .int (.cons (.op .add (.cons (.op .mul (.cons (.var 3) (.cons (.lit (.int 48271)) .nil))) (.cons (.op .mul (.cons (.op .add (.cons (.var 2) (.cons (.lit (.int 1)) .nil))) (.cons (.lit (.int 69621)) .nil))) .nil))) .nil)) (.cons (.lit (.int 2147483647)) .nil)))) (.cons (.asg (.nm 5) (.op .mod (.cons (.op .int (.cons (.op .add (.cons (.op .add (.cons (.op .mul (.cons (.var 5) (.cons (.lit (.int 16807)) .nil))) (.cons (.op .mul (.cons (.lit (.int 11)) (.cons (.var 2) .nil))) .nil))) (.cons (.lit (.int 5)) .nil))) .nil)) (.cons (.lit (.int 2147483629)) .nil)))) (.cons (.app 1 (.op .mod (.cons (.op .int (.cons (.var 5) .nil)) (.cons (.lit (.int 65536)) .nil)))) (.cons (.app 1 (.op .mod (.cons (.op .int (.cons (.op .fdiv (.cons (.var 5) (.cons (.lit (.int 65536)) .nil))) .nil)) (.cons (.lit (.int 32768)) .nil)))) (.cons (.kill [3, 4, 5]) .nil)))))) .nil))
def fd_law_draws : Fd := ⟨1, 6, (.cons (.asg (.nm 1) (.lst .nil)) (.cons (.for_ (.nm 2) (.rng1 (.op .min2 (.cons (.lit (.int 63)) (.cons (.op .len (.cons (.var 0) .nil)) .nil)))) b1_law_draws [2, 3, 4, 5]) (.cons (.ret (.var 1)) .nil)))⟩
def fd_law_mix : Fd := ⟨3, 4, (.cons (.asg (.nm 3) (.lit (.int 0))) (.cons (.iff (.op .gt (.cons (.op .len (.cons (.var 0) .nil)) (.cons (.lit (.int 0)) .nil))) (.cons (.asg (.nm 3) (.op .idx (.cons (.var 0) (.cons (.op .mod (.cons (.op .int (.cons (.var 1) .nil)) (.cons (.op .len (.cons (.var 0) .nil)) .nil))) .nil)))) .nil) .nil) (.cons (.iff (.op .lt (.cons (.var 1) (.cons (.op .len (.cons (.var 0) .nil)) .nil))) (.cons (.ret (.op .mod (.cons (.op .int (.cons (.var 3) .nil)) (.cons (.var 2) .nil)))) .nil) .nil) (.cons (.ret (.op .mod (.cons (.op .int (.cons (.op .fdiv (.cons (.op .int (.cons (.op .add (.cons (.op .mul (.cons (.var 3) (.cons (.lit (.int 7919)) .nil))) (.cons (.op .mul (.cons (.var 1) (.cons (.lit (.int 104729)) .nil))) .nil))) .nil)) (.cons (.lit (.int 3)) .nil))) .nil)) (.cons (.var 2) .nil)))) .nil))))⟩
/-- a list of drawn numbers -/
def Dr (xs : List Int) : Prop := xs.length ≤ 3780 ∧ ∀ x ∈ xs, 0 ≤ x ∧ x < 65536
section
variable {Φ : Fn} {W : Nat}
theorem dr_mix (xs : List Int) (k many : Int) (hk : 0 ≤ k) (hm : 0 < many) : ∃ m, runFd Φ W fd_law_mix [.list (xs.map .int), .int k, .int many] = some (.int m, 0) ∧ 0 ≤ m ∧ m < many := by
  unfold fd_law_mix
  have hm0 : many ≠ 0 := by omega
  have fin : ∀ c : Int, ∃ m, (if k < (xs.length : Int) then some (PyData.int (c.fmod many), 0) else some (PyData.int (((c * 7919 + k * 104729).fdiv 3).fmod many), 0)) = some (PyData.int m, 0) ∧ 0 ≤ m ∧ m < many := fun c => by
    split
    · exact ⟨_, rfl, emod_bd _ hm⟩
    · exact ⟨_, rfl, emod_bd _ hm⟩
  have m1 : ∀ c : Int, mulOk c 7919 = true := fun c => mul_ok_r (by decide)
  have m2 : ∀ c : Int, mulOk c 104729 = true := fun c => mul_ok_r (by decide)
  have d3 : divOk 3 = true := by decide
  by_cases hl : 0 < (xs.length : Int)
  · obtain ⟨x, hx, _, he⟩ := atD_map PyData.int xs (k.fmod xs.length) (emod_bd k hl).1 (emod_bd k hl).2
    have hl0 : (xs.length : Int) ≠ 0 := by omega
    obtain ⟨m, h1, h2⟩ := fin x
    refine ⟨m, ?_, h2⟩
    refine (run_fd (by rfl)).trans ?_
    simp -implicitDefEqProofs only [List.map, param, List.length_cons, List.length_nil, s_cons, s_nil, s_iff, s_asg, s_par, s_drop, s_app, s_for, s_whl, s_kill, s_brk, s_cnt, s_pass, s_nev, s_retv, s_retN, r_lit, r_con, r_op, r_call, r_and, r_or, r_ife, r_chain, r_lst, r_tup, r_lc, rv, y_op, y_call, y_and, y_or, y_ife, y_chain, y_one, y_more, y_lst, y_tup, y_nil, y_cons, y_pnil, y_pcons, y_var, y_lit, y_con, y_ex, y_rng1, y_rng2, y_enum, y_zip, Nat.sub_self, List.replicate, List.cons_append, List.nil_append, List.append_nil, List.getElem?_cons_zero, List.getElem?_cons_succ, vr_sh, vr_own, vr_top, Option.bind_some, Option.map_some, Option.bind_none, Option.map_none, f_le, f_lt, f_gt, f_ge, boolD_some, cho_some, nmS_boolD, nmS_int, nmS_str, nmS_none, nmS_nil, Nat.reduceSub, Nat.reduceAdd, Nat.reduceLT, Nat.reduceLeDiff, ite_b, ite_true, ite_false, if_true, if_false, Bool.false_eq_true, o_neg', o_not', o_add', o_sub', o_mul', o_div', o_mod', o_abs', o_int', o_intb', o_min', o_max', o_gcd', o_lt', o_le', o_gt', o_ge', o_eq', o_ne', o_lenl, o_lent, o_idxl, o_idxt, o_isn', o_isnn', t_bool, t_int, nxt_nx, nxt_rt, nxt_bk, nxt_ct, nxt_if, rb_rt, rb_nx, rb_if, p_nm, p_tup, p_lst, p_nil, p_cons, cmO, c_nm, c_tup, c_lst, c_nil, c_cons, stO, Ow.tags, frz_n, frz_c, ff_nil, ff_cons, f1_none, f1_sh, f1_top, f1_own, w_nil, w_cons, List.set_cons_zero, List.set_cons_succ, intD, lstD, lvl, forF, whlC, lcF, and_self, Bool.not_eq_true', decide_eq_true_eq, decide_eq_false_iff_not, Bool.and_eq_true, Bool.and_eq_false_imp, and_true, true_and, own_q, oq_own, oq_top, put_o, put_t, io_int, io_bool, io_str, io_own, hasT_n, hasT_c, Nat.reduceBEq, Bool.false_and, Bool.and_false, Bool.true_and, Bool.and_true, Bool.or_false, Bool.false_or, Bool.or_true, Bool.true_or, beq_self_eq_true, not_true_eq_false, not_false_eq_true, List.append_assoc, dl_e, dt_e, ta_n, ta_c, List.all_cons, List.all_nil, Nat.zero_le, call_q, cq_0, cq_1, cq_2, atD_0, atD_1, vr_pair, nmS_pair, si_list, si_tup, y_tcons, y_tnil, ite_sb, pk_var, pq_sh, pq_top, pq_own, pk_op, pk_call, pk_lit, pk_con, pk_lst, pk_tup, pk_lc, pk_ife, pk_or, pk_and, nmS_list, nmT_ints, nmT_snoc, List.length_map, hl, hl0, he, hm0, m1, m2, d3]
    rw [← h1]
  · obtain ⟨m, h1, h2⟩ := fin 0
    refine ⟨m, ?_, h2⟩
    refine (run_fd (by rfl)).trans ?_
    simp -implicitDefEqProofs only [List.map, param, List.length_cons, List.length_nil, s_cons, s_nil, s_iff, s_asg, s_par, s_drop, s_app, s_for, s_whl, s_kill, s_brk, s_cnt, s_pass, s_nev, s_retv, s_retN, r_lit, r_con, r_op, r_call, r_and, r_or, r_ife, r_chain, r_lst, r_tup, r_lc, rv, y_op, y_call, y_and, y_or, y_ife, y_chain, y_one, y_more, y_lst, y_tup, y_nil, y_cons, y_pnil, y_pcons, y_var, y_lit, y_con, y_ex, y_rng1, y_rng2, y_enum, y_zip, Nat.sub_self, List.replicate, List.cons_append, List.nil_append, List.append_nil, List.getElem?_cons_zero, List.getElem?_cons_succ, vr_sh, vr_own, vr_top, Option.bind_some, Option.map_some, Option.bind_none, Option.map_none, f_le, f_lt, f_gt, f_ge, boolD_some, cho_some, nmS_boolD, nmS_int, nmS_str, nmS_none, nmS_nil, Nat.reduceSub, Nat.reduceAdd, Nat.reduceLT, Nat.reduceLeDiff, ite_b, ite_true, ite_false, if_true, if_false, Bool.false_eq_true, o_neg', o_not', o_add', o_sub', o_mul', o_div', o_mod', o_abs', o_int', o_intb', o_min', o_max', o_gcd', o_lt', o_le', o_gt', o_ge', o_eq', o_ne', o_lenl, o_lent, o_idxl, o_idxt, o_isn', o_isnn', t_bool, t_int, nxt_nx, nxt_rt, nxt_bk, nxt_ct, nxt_if, rb_rt, rb_nx, rb_if, p_nm, p_tup, p_lst, p_nil, p_cons, cmO, c_nm, c_tup, c_lst, c_nil, c_cons, stO, Ow.tags, frz_n, frz_c, ff_nil, ff_cons, f1_none, f1_sh, f1_top, f1_own, w_nil, w_cons, List.set_cons_zero, List.set_cons_succ, intD, lstD, lvl, forF, whlC, lcF, and_self, Bool.not_eq_true', decide_eq_true_eq, decide_eq_false_iff_not, Bool.and_eq_true, Bool.and_eq_false_imp, and_true, true_and, own_q, oq_own, oq_top, put_o, put_t, io_int, io_bool, io_str, io_own, hasT_n, hasT_c, Nat.reduceBEq, Bool.false_and, Bool.and_false, Bool.true_and, Bool.and_true, Bool.or_false, Bool.false_or, Bool.or_true, Bool.true_or, beq_self_eq_true, not_true_eq_false, not_false_eq_true, List.append_assoc, dl_e, dt_e, ta_n, ta_c, List.all_cons, List.all_nil, Nat.zero_le, call_q, cq_0, cq_1, cq_2, atD_0, atD_1, vr_pair, nmS_pair, si_list, si_tup, y_tcons, y_tnil, ite_sb, pk_var, pq_sh, pq_top, pq_own, pk_op, pk_call, pk_lit, pk_con, pk_lst, pk_tup, pk_lc, pk_ife, pk_or, pk_and, nmS_list, nmT_ints, nmT_snoc, List.length_map, hl, hm0, m1, m2, d3]
    rw [← h1]
theorem dr_in (sc : Option R) (k : D) (xs : List Int) (rest : Int) (L : Nat) (h1 : xs.length ≤ L) (hL : L ≤ 900000) (hb : ∀ x ∈ xs, 0 ≤ x ∧ x < 65536) :
    ∃ (ys : List Int) (r : Int), forRun (forF Φ W (.nm 4) b0_law_draws) [4] (rangeD 0 60) [sc, some (.list (xs.map .int), .own), some (k, .sh []), some (.int rest, .sh []), none, none] = some (.nx [sc, some (.list (ys.map .int), .own), some (k, .sh []), some (.int r, .sh []), none, none]) ∧ ys.length ≤ L + 60 ∧ ∀ x ∈ ys, 0 ≤ x ∧ x < 65536 := by
  rw [range_items]
  have key := for_inv (k := [4]) (fun (t : Nat) => PyData.int (t : Int)) (fun i ρ => ∃ (ys : List Int) (r : Int), ρ = [sc, some (.list (ys.map .int), .own), some (k, .sh []), some (.int r, .sh []), none, none] ∧ ys.length ≤ L + i ∧ ∀ x ∈ ys, 0 ≤ x ∧ x < 65536)
    (forF Φ W (.nm 4) b0_law_draws) (fun i ρ ⟨ys, r, e, h⟩ => ⟨ys, r, by rw [e]; rfl, h⟩) (List.range 60) 0 [sc, some (.list (xs.map .int), .own), some (k, .sh []), some (.int rest, .sh []), none, none] ⟨xs, rest, rfl, h1, hb⟩ ?_
  · obtain ⟨ρ', e, ys, r, e2, h⟩ := key
    rw [e2] at e
    exact ⟨ys, r, e, by simpa using h⟩
  · rintro i t ρ ht ⟨ys, r, rfl, hl, hy⟩
    obtain ⟨rfl, ht'⟩ := range_at ht
    rw [Nat.zero_add] at hl ⊢
    have d1 : divOk 65536 = true := by decide
    have n1 : ¬ (65536 : Int) = 0 := by decide
    unfold b0_law_draws
    by_cases q : 0 < r
    · refine ⟨[sc, some (.list ((ys ++ [r.fmod 65536]).map .int), .own), some (k, .sh []), some (.int (r.fdiv 65536), .sh []), some (.int (t : Int), .sh []), none], .inl ?_, ys ++ [r.fmod 65536], r.fdiv 65536, ?_, ?_, ?_⟩
      · have hlen : ys.length < 1000000 := by omega
        simp -implicitDefEqProofs only [List.map, param, List.length_cons, List.length_nil, s_cons, s_nil, s_iff, s_asg, s_par, s_drop, s_app, s_for, s_whl, s_kill, s_brk, s_cnt, s_pass, s_nev, s_retv, s_retN, r_lit, r_con, r_op, r_call, r_and, r_or, r_ife, r_chain, r_lst, r_tup, r_lc, rv, y_op, y_call, y_and, y_or, y_ife, y_chain, y_one, y_more, y_lst, y_tup, y_nil, y_cons, y_pnil, y_pcons, y_var, y_lit, y_con, y_ex, y_rng1, y_rng2, y_enum, y_zip, Nat.sub_self, List.replicate, List.cons_append, List.nil_append, List.append_nil, List.getElem?_cons_zero, List.getElem?_cons_succ, vr_sh, vr_own, vr_top, Option.bind_some, Option.map_some, Option.bind_none, Option.map_none, f_le, f_lt, f_gt, f_ge, boolD_some, cho_some, nmS_boolD, nmS_int, nmS_str, nmS_none, nmS_nil, Nat.reduceSub, Nat.reduceAdd, Nat.reduceLT, Nat.reduceLeDiff, ite_b, ite_true, ite_false, if_true, if_false, Bool.false_eq_true, o_neg', o_not', o_add', o_sub', o_mul', o_div', o_mod', o_abs', o_int', o_intb', o_min', o_max', o_gcd', o_lt', o_le', o_gt', o_ge', o_eq', o_ne', o_lenl, o_lent, o_idxl, o_idxt, o_isn', o_isnn', t_bool, t_int, nxt_nx, nxt_rt, nxt_bk, nxt_ct, nxt_if, rb_rt, rb_nx, rb_if, p_nm, p_tup, p_lst, p_nil, p_cons, cmO, c_nm, c_tup, c_lst, c_nil, c_cons, stO, Ow.tags, frz_n, frz_c, ff_nil, ff_cons, f1_none, f1_sh, f1_top, f1_own, w_nil, w_cons, List.set_cons_zero, List.set_cons_succ, intD, lstD, lvl, forF, whlC, lcF, and_self, Bool.not_eq_true', decide_eq_true_eq, decide_eq_false_iff_not, Bool.and_eq_true, Bool.and_eq_false_imp, and_true, true_and, own_q, oq_own, oq_top, put_o, put_t, io_int, io_bool, io_str, io_own, hasT_n, hasT_c, Nat.reduceBEq, Bool.false_and, Bool.and_false, Bool.true_and, Bool.and_true, Bool.or_false, Bool.false_or, Bool.or_true, Bool.true_or, beq_self_eq_true, not_true_eq_false, not_false_eq_true, List.append_assoc, dl_e, dt_e, ta_n, ta_c, List.all_cons, List.all_nil, Nat.zero_le, call_q, cq_0, cq_1, cq_2, atD_0, atD_1, vr_pair, nmS_pair, si_list, si_tup, y_tcons, y_tnil, ite_sb, pk_var, pq_sh, pq_top, pq_own, pk_op, pk_call, pk_lit, pk_con, pk_lst, pk_tup, pk_lc, pk_ife, pk_or, pk_and, nmS_list, nmT_ints, nmT_snoc, q, d1, n1, List.length_map, List.map_append, hlen]
      · simp -implicitDefEqProofs only [List.map, param, List.length_cons, List.length_nil, s_cons, s_nil, s_iff, s_asg, s_par, s_drop, s_app, s_for, s_whl, s_kill, s_brk, s_cnt, s_pass, s_nev, s_retv, s_retN, r_lit, r_con, r_op, r_call, r_and, r_or, r_ife, r_chain, r_lst, r_tup, r_lc, rv, y_op, y_call, y_and, y_or, y_ife, y_chain, y_one, y_more, y_lst, y_tup, y_nil, y_cons, y_pnil, y_pcons, y_var, y_lit, y_con, y_ex, y_rng1, y_rng2, y_enum, y_zip, Nat.sub_self, List.replicate, List.cons_append, List.nil_append, List.append_nil, List.getElem?_cons_zero, List.getElem?_cons_succ, vr_sh, vr_own, vr_top, Option.bind_some, Option.map_some, Option.bind_none, Option.map_none, f_le, f_lt, f_gt, f_ge, boolD_some, cho_some, nmS_boolD, nmS_int, nmS_str, nmS_none, nmS_nil, Nat.reduceSub, Nat.reduceAdd, Nat.reduceLT, Nat.reduceLeDiff, ite_b, ite_true, ite_false, if_true, if_false, Bool.false_eq_true, o_neg', o_not', o_add', o_sub', o_mul', o_div', o_mod', o_abs', o_int', o_intb', o_min', o_max', o_gcd', o_lt', o_le', o_gt', o_ge', o_eq', o_ne', o_lenl, o_lent, o_idxl, o_idxt, o_isn', o_isnn', t_bool, t_int, nxt_nx, nxt_rt, nxt_bk, nxt_ct, nxt_if, rb_rt, rb_nx, rb_if, p_nm, p_tup, p_lst, p_nil, p_cons, cmO, c_nm, c_tup, c_lst, c_nil, c_cons, stO, Ow.tags, frz_n, frz_c, ff_nil, ff_cons, f1_none, f1_sh, f1_top, f1_own, w_nil, w_cons, List.set_cons_zero, List.set_cons_succ, intD, lstD, lvl, forF, whlC, lcF, and_self, Bool.not_eq_true', decide_eq_true_eq, decide_eq_false_iff_not, Bool.and_eq_true, Bool.and_eq_false_imp, and_true, true_and, own_q, oq_own, oq_top, put_o, put_t, io_int, io_bool, io_str, io_own, hasT_n, hasT_c, Nat.reduceBEq, Bool.false_and, Bool.and_false, Bool.true_and, Bool.and_true, Bool.or_false, Bool.false_or, Bool.or_true, Bool.true_or, beq_self_eq_true, not_true_eq_false, not_false_eq_true, List.append_assoc, dl_e, dt_e, ta_n, ta_c, List.all_cons, List.all_nil, Nat.zero_le, call_q, cq_0, cq_1, cq_2, atD_0, atD_1, vr_pair, nmS_pair, si_list, si_tup, y_tcons, y_tnil, ite_sb, pk_var, pq_sh, pq_top, pq_own, pk_op, pk_call, pk_lit, pk_con, pk_lst, pk_tup, pk_lc, pk_ife, pk_or, pk_and, nmS_list, nmT_ints, nmT_snoc]
      · rw [List.length_append]; simp; omega
      · intro x hx
        rcases List.mem_append.mp hx with z | z
        · exact hy x z
        · have e : x = r.fmod 65536 := by simpa using z
          rw [e]
          exact emod_bd r (by decide)
    · exact ⟨[sc, some (.list (ys.map .int), .own), some (k, .sh []), some (.int r, .sh []), some (.int (t : Int), .sh []), none], .inl (by simp -implicitDefEqProofs only [List.map, param, List.length_cons, List.length_nil, s_cons, s_nil, s_iff, s_asg, s_par, s_drop, s_app, s_for, s_whl, s_kill, s_brk, s_cnt, s_pass, s_nev, s_retv, s_retN, r_lit, r_con, r_op, r_call, r_and, r_or, r_ife, r_chain, r_lst, r_tup, r_lc, rv, y_op, y_call, y_and, y_or, y_ife, y_chain, y_one, y_more, y_lst, y_tup, y_nil, y_cons, y_pnil, y_pcons, y_var, y_lit, y_con, y_ex, y_rng1, y_rng2, y_enum, y_zip, Nat.sub_self, List.replicate, List.cons_append, List.nil_append, List.append_nil, List.getElem?_cons_zero, List.getElem?_cons_succ, vr_sh, vr_own, vr_top, Option.bind_some, Option.map_some, Option.bind_none, Option.map_none, f_le, f_lt, f_gt, f_ge, boolD_some, cho_some, nmS_boolD, nmS_int, nmS_str, nmS_none, nmS_nil, Nat.reduceSub, Nat.reduceAdd, Nat.reduceLT, Nat.reduceLeDiff, ite_b, ite_true, ite_false, if_true, if_false, Bool.false_eq_true, o_neg', o_not', o_add', o_sub', o_mul', o_div', o_mod', o_abs', o_int', o_intb', o_min', o_max', o_gcd', o_lt', o_le', o_gt', o_ge', o_eq', o_ne', o_lenl, o_lent, o_idxl, o_idxt, o_isn', o_isnn', t_bool, t_int, nxt_nx, nxt_rt, nxt_bk, nxt_ct, nxt_if, rb_rt, rb_nx, rb_if, p_nm, p_tup, p_lst, p_nil, p_cons, cmO, c_nm, c_tup, c_lst, c_nil, c_cons, stO, Ow.tags, frz_n, frz_c, ff_nil, ff_cons, f1_none, f1_sh, f1_top, f1_own, w_nil, w_cons, List.set_cons_zero, List.set_cons_succ, intD, lstD, lvl, forF, whlC, lcF, and_self, Bool.not_eq_true', decide_eq_true_eq, decide_eq_false_iff_not, Bool.and_eq_true, Bool.and_eq_false_imp, and_true, true_and, own_q, oq_own, oq_top, put_o, put_t, io_int, io_bool, io_str, io_own, hasT_n, hasT_c, Nat.reduceBEq, Bool.false_and, Bool.and_false, Bool.true_and, Bool.and_true, Bool.or_false, Bool.false_or, Bool.or_true, Bool.true_or, beq_self_eq_true, not_true_eq_false, not_false_eq_true, List.append_assoc, dl_e, dt_e, ta_n, ta_c, List.all_cons, List.all_nil, Nat.zero_le, call_q, cq_0, cq_1, cq_2, atD_0, atD_1, vr_pair, nmS_pair, si_list, si_tup, y_tcons, y_tnil, ite_sb, pk_var, pq_sh, pq_top, pq_own, pk_op, pk_call, pk_lit, pk_con, pk_lst, pk_tup, pk_lc, pk_ife, pk_or, pk_and, nmS_list, nmT_ints, nmT_snoc, q]), ys, r, by simp -implicitDefEqProofs only [List.map, param, List.length_cons, List.length_nil, s_cons, s_nil, s_iff, s_asg, s_par, s_drop, s_app, s_for, s_whl, s_kill, s_brk, s_cnt, s_pass, s_nev, s_retv, s_retN, r_lit, r_con, r_op, r_call, r_and, r_or, r_ife, r_chain, r_lst, r_tup, r_lc, rv, y_op, y_call, y_and, y_or, y_ife, y_chain, y_one, y_more, y_lst, y_tup, y_nil, y_cons, y_pnil, y_pcons, y_var, y_lit, y_con, y_ex, y_rng1, y_rng2, y_enum, y_zip, Nat.sub_self, List.replicate, List.cons_append, List.nil_append, List.append_nil, List.getElem?_cons_zero, List.getElem?_cons_succ, vr_sh, vr_own, vr_top, Option.bind_some, Option.map_some, Option.bind_none, Option.map_none, f_le, f_lt, f_gt, f_ge, boolD_some, cho_some, nmS_boolD, nmS_int, nmS_str, nmS_none, nmS_nil, Nat.reduceSub, Nat.reduceAdd, Nat.reduceLT, Nat.reduceLeDiff, ite_b, ite_true, ite_false, if_true, if_false, Bool.false_eq_true, o_neg', o_not', o_add', o_sub', o_mul', o_div', o_mod', o_abs', o_int', o_intb', o_min', o_max', o_gcd', o_lt', o_le', o_gt', o_ge', o_eq', o_ne', o_lenl, o_lent, o_idxl, o_idxt, o_isn', o_isnn', t_bool, t_int, nxt_nx, nxt_rt, nxt_bk, nxt_ct, nxt_if, rb_rt, rb_nx, rb_if, p_nm, p_tup, p_lst, p_nil, p_cons, cmO, c_nm, c_tup, c_lst, c_nil, c_cons, stO, Ow.tags, frz_n, frz_c, ff_nil, ff_cons, f1_none, f1_sh, f1_top, f1_own, w_nil, w_cons, List.set_cons_zero, List.set_cons_succ, intD, lstD, lvl, forF, whlC, lcF, and_self, Bool.not_eq_true', decide_eq_true_eq, decide_eq_false_iff_not, Bool.and_eq_true, Bool.and_eq_false_imp, and_true, true_and, own_q, oq_own, oq_top, put_o, put_t, io_int, io_bool, io_str, io_own, hasT_n, hasT_c, Nat.reduceBEq, Bool.false_and, Bool.and_false, Bool.true_and, Bool.and_true, Bool.or_false, Bool.false_or, Bool.or_true, Bool.true_or, beq_self_eq_true, not_true_eq_false, not_false_eq_true, List.append_assoc, dl_e, dt_e, ta_n, ta_c, List.all_cons, List.all_nil, Nat.zero_le, call_q, cq_0, cq_1, cq_2, atD_0, atD_1, vr_pair, nmS_pair, si_list, si_tup, y_tcons, y_tnil, ite_sb, pk_var, pq_sh, pq_top, pq_own, pk_op, pk_call, pk_lit, pk_con, pk_lst, pk_tup, pk_lc, pk_ife, pk_or, pk_and, nmS_list, nmT_ints, nmT_snoc], by omega, hy⟩
theorem draws_ok (ns : List Int) (hn : ns.length ≤ 63) : ∃ ds : List Int, runFd Φ W fd_law_draws [.list (ns.map .int)] = some (.list (ds.map .int), 2) ∧ Dr ds := by
  have key := for_inv (k := [2, 3, 4, 5]) (fun (t : Nat) => PyData.int (t : Int)) (fun i ρ => ∃ (ys : List Int), ρ = [some (.list (ns.map .int), .sh []), some (.list (ys.map .int), .own), none, none, none, none] ∧ ys.length ≤ 60 * i ∧ ∀ x ∈ ys, 0 ≤ x ∧ x < 65536)
    (forF Φ W (.nm 2) b1_law_draws) (fun i ρ ⟨ys, e, h⟩ => ⟨ys, by rw [e]; rfl, h⟩) (List.range ns.length) 0 [some (.list (ns.map .int), .sh []), some (.list [], .own), none, none, none, none] ⟨[], rfl, by simp, by simp⟩ ?_
  · obtain ⟨ρ', e, ys, e2, h⟩ := key
    rw [e2] at e
    rw [List.length_range] at h
    refine ⟨ys, ?_, by omega, h.2⟩
    unfold fd_law_draws
    refine (run_fd (by rfl)).trans ?_
    have e3 : (if (ns.length : Int) < 63 then (ns.length : Int) else 63) = (ns.length : Int) := by split <;> omega
    simp -implicitDefEqProofs only [List.map, param, List.length_cons, List.length_nil, s_cons, s_nil, s_iff, s_asg, s_par, s_drop, s_app, s_for, s_whl, s_kill, s_brk, s_cnt, s_pass, s_nev, s_retv, s_retN, r_lit, r_con, r_op, r_call, r_and, r_or, r_ife, r_chain, r_lst, r_tup, r_lc, rv, y_op, y_call, y_and, y_or, y_ife, y_chain, y_one, y_more, y_lst, y_tup, y_nil, y_cons, y_pnil, y_pcons, y_var, y_lit, y_con, y_ex, y_rng1, y_rng2, y_enum, y_zip, Nat.sub_self, List.replicate, List.cons_append, List.nil_append, List.append_nil, List.getElem?_cons_zero, List.getElem?_cons_succ, vr_sh, vr_own, vr_top, Option.bind_some, Option.map_some, Option.bind_none, Option.map_none, f_le, f_lt, f_gt, f_ge, boolD_some, cho_some, nmS_boolD, nmS_int, nmS_str, nmS_none, nmS_nil, Nat.reduceSub, Nat.reduceAdd, Nat.reduceLT, Nat.reduceLeDiff, ite_b, ite_true, ite_false, if_true, if_false, Bool.false_eq_true, o_neg', o_not', o_add', o_sub', o_mul', o_div', o_mod', o_abs', o_int', o_intb', o_min', o_max', o_gcd', o_lt', o_le', o_gt', o_ge', o_eq', o_ne', o_lenl, o_lent, o_idxl, o_idxt, o_isn', o_isnn', t_bool, t_int, nxt_nx, nxt_rt, nxt_bk, nxt_ct, nxt_if, rb_rt, rb_nx, rb_if, p_nm, p_tup, p_lst, p_nil, p_cons, cmO, c_nm, c_tup, c_lst, c_nil, c_cons, stO, Ow.tags, frz_n, frz_c, ff_nil, ff_cons, f1_none, f1_sh, f1_top, f1_own, w_nil, w_cons, List.set_cons_zero, List.set_cons_succ, intD, lstD, lvl, forF, whlC, lcF, and_self, Bool.not_eq_true', decide_eq_true_eq, decide_eq_false_iff_not, Bool.and_eq_true, Bool.and_eq_false_imp, and_true, true_and, own_q, oq_own, oq_top, put_o, put_t, io_int, io_bool, io_str, io_own, hasT_n, hasT_c, Nat.reduceBEq, Bool.false_and, Bool.and_false, Bool.true_and, Bool.and_true, Bool.or_false, Bool.false_or, Bool.or_true, Bool.true_or, beq_self_eq_true, not_true_eq_false, not_false_eq_true, List.append_assoc, dl_e, dt_e, ta_n, ta_c, List.all_cons, List.all_nil, Nat.zero_le, call_q, cq_0, cq_1, cq_2, atD_0, atD_1, vr_pair, nmS_pair, si_list, si_tup, y_tcons, y_tnil, ite_sb, pk_var, pq_sh, pq_top, pq_own, pk_op, pk_call, pk_lit, pk_con, pk_lst, pk_tup, pk_lc, pk_ife, pk_or, pk_and, nmS_list, nmT_ints, nmT_snoc, List.length_map, e3, rng_ok (show -1000000000 ≤ (ns.length : Int) by omega) (by omega), Int.toNat_natCast, range_items, e]
  · rintro i t ρ ht ⟨ys, rfl, hl, hy⟩
    obtain ⟨rfl, ht'⟩ := range_at ht
    rw [Nat.zero_add] at hl ⊢
    obtain ⟨x, hx, _, he⟩ := atD_map PyData.int ns (t : Int) (by omega) (by omega)
    have d1 : divOk 65536 = true := by decide
    have n1 : ¬ (65536 : Int) = 0 := by decide
    have n2 : ¬ (32768 : Int) = 0 := by decide
    have n3 : ¬ (2147483647 : Int) = 0 := by decide
    have n4 : ¬ (2147483629 : Int) = 0 := by decide
    have m1 : ∀ c : Int, mulOk c 48271 = true := fun c => mul_ok_r (by decide)
    have m2 : ∀ c : Int, mulOk c 69621 = true := fun c => mul_ok_r (by decide)
    have m3 : ∀ c : Int, mulOk c 16807 = true := fun c => mul_ok_r (by decide)
    have m4 : ∀ c : Int, mulOk 11 c = true := fun c => mul_ok_l (by decide)
    obtain ⟨B, p1⟩ : ∃ B : Int, ∀ g h : List Tag, opR .pow [(.int 10, g), (.int 18, h)] = some (.int B, .sh []) := ⟨_, fun g h => o_pow' (by decide)⟩
    have r1 : rngOk 60 = true := by decide
    have hlen : ys.length < 1000000 := by omega
    have hlen2 : ys.length + 1 < 1000000 := by omega
    unfold b1_law_draws
    by_cases q : B ≤ (if x < 0 then -x else x)
    · obtain ⟨zs, r, f1, f2, f3⟩ := dr_in (Φ := Φ) (W := W) (some (.list (ns.map .int), .sh [])) (.int (t : Int)) ys (if x < 0 then -x else x) (60 * t) hl (by omega) hy
      refine ⟨[some (.list (ns.map .int), .sh []), some (.list (zs.map .int), .own), some (.int (t : Int), .sh []), none, none, none], .inl ?_, zs, ?_, by omega, f3⟩
      · simp -implicitDefEqProofs only [List.map, param, List.length_cons, List.length_nil, s_cons, s_nil, s_iff, s_asg, s_par, s_drop, s_app, s_for, s_whl, s_kill, s_brk, s_cnt, s_pass, s_nev, s_retv, s_retN, r_lit, r_con, r_op, r_call, r_and, r_or, r_ife, r_chain, r_lst, r_tup, r_lc, rv, y_op, y_call, y_and, y_or, y_ife, y_chain, y_one, y_more, y_lst, y_tup, y_nil, y_cons, y_pnil, y_pcons, y_var, y_lit, y_con, y_ex, y_rng1, y_rng2, y_enum, y_zip, Nat.sub_self, List.replicate, List.cons_append, List.nil_append, List.append_nil, List.getElem?_cons_zero, List.getElem?_cons_succ, vr_sh, vr_own, vr_top, Option.bind_some, Option.map_some, Option.bind_none, Option.map_none, f_le, f_lt, f_gt, f_ge, boolD_some, cho_some, nmS_boolD, nmS_int, nmS_str, nmS_none, nmS_nil, Nat.reduceSub, Nat.reduceAdd, Nat.reduceLT, Nat.reduceLeDiff, ite_b, ite_true, ite_false, if_true, if_false, Bool.false_eq_true, o_neg', o_not', o_add', o_sub', o_mul', o_div', o_mod', o_abs', o_int', o_intb', o_min', o_max', o_gcd', o_lt', o_le', o_gt', o_ge', o_eq', o_ne', o_lenl, o_lent, o_idxl, o_idxt, o_isn', o_isnn', t_bool, t_int, nxt_nx, nxt_rt, nxt_bk, nxt_ct, nxt_if, rb_rt, rb_nx, rb_if, p_nm, p_tup, p_lst, p_nil, p_cons, cmO, c_nm, c_tup, c_lst, c_nil, c_cons, stO, Ow.tags, frz_n, frz_c, ff_nil, ff_cons, f1_none, f1_sh, f1_top, f1_own, w_nil, w_cons, List.set_cons_zero, List.set_cons_succ, intD, lstD, lvl, forF, whlC, lcF, and_self, Bool.not_eq_true', decide_eq_true_eq, decide_eq_false_iff_not, Bool.and_eq_true, Bool.and_eq_false_imp, and_true, true_and, own_q, oq_own, oq_top, put_o, put_t, io_int, io_bool, io_str, io_own, hasT_n, hasT_c, Nat.reduceBEq, Bool.false_and, Bool.and_false, Bool.true_and, Bool.and_true, Bool.or_false, Bool.false_or, Bool.or_true, Bool.true_or, beq_self_eq_true, not_true_eq_false, not_false_eq_true, List.append_assoc, dl_e, dt_e, ta_n, ta_c, List.all_cons, List.all_nil, Nat.zero_le, call_q, cq_0, cq_1, cq_2, atD_0, atD_1, vr_pair, nmS_pair, si_list, si_tup, y_tcons, y_tnil, ite_sb, pk_var, pq_sh, pq_top, pq_own, pk_op, pk_call, pk_lit, pk_con, pk_lst, pk_tup, pk_lc, pk_ife, pk_or, pk_and, nmS_list, nmT_ints, nmT_snoc, he, p1, q, r1, f1, Int.reduceToNat]
      · simp -implicitDefEqProofs only [List.map, param, List.length_cons, List.length_nil, s_cons, s_nil, s_iff, s_asg, s_par, s_drop, s_app, s_for, s_whl, s_kill, s_brk, s_cnt, s_pass, s_nev, s_retv, s_retN, r_lit, r_con, r_op, r_call, r_and, r_or, r_ife, r_chain, r_lst, r_tup, r_lc, rv, y_op, y_call, y_and, y_or, y_ife, y_chain, y_one, y_more, y_lst, y_tup, y_nil, y_cons, y_pnil, y_pcons, y_var, y_lit, y_con, y_ex, y_rng1, y_rng2, y_enum, y_zip, Nat.sub_self, List.replicate, List.cons_append, List.nil_append, List.append_nil, List.getElem?_cons_zero, List.getElem?_cons_succ, vr_sh, vr_own, vr_top, Option.bind_some, Option.map_some, Option.bind_none, Option.map_none, f_le, f_lt, f_gt, f_ge, boolD_some, cho_some, nmS_boolD, nmS_int, nmS_str, nmS_none, nmS_nil, Nat.reduceSub, Nat.reduceAdd, Nat.reduceLT, Nat.reduceLeDiff, ite_b, ite_true, ite_false, if_true, if_false, Bool.false_eq_true, o_neg', o_not', o_add', o_sub', o_mul', o_div', o_mod', o_abs', o_int', o_intb', o_min', o_max', o_gcd', o_lt', o_le', o_gt', o_ge', o_eq', o_ne', o_lenl, o_lent, o_idxl, o_idxt, o_isn', o_isnn', t_bool, t_int, nxt_nx, nxt_rt, nxt_bk, nxt_ct, nxt_if, rb_rt, rb_nx, rb_if, p_nm, p_tup, p_lst, p_nil, p_cons, cmO, c_nm, c_tup, c_lst, c_nil, c_cons, stO, Ow.tags, frz_n, frz_c, ff_nil, ff_cons, f1_none, f1_sh, f1_top, f1_own, w_nil, w_cons, List.set_cons_zero, List.set_cons_succ, intD, lstD, lvl, forF, whlC, lcF, and_self, Bool.not_eq_true', decide_eq_true_eq, decide_eq_false_iff_not, Bool.and_eq_true, Bool.and_eq_false_imp, and_true, true_and, own_q, oq_own, oq_top, put_o, put_t, io_int, io_bool, io_str, io_own, hasT_n, hasT_c, Nat.reduceBEq, Bool.false_and, Bool.and_false, Bool.true_and, Bool.and_true, Bool.or_false, Bool.false_or, Bool.or_true, Bool.true_or, beq_self_eq_true, not_true_eq_false, not_false_eq_true, List.append_assoc, dl_e, dt_e, ta_n, ta_c, List.all_cons, List.all_nil, Nat.zero_le, call_q, cq_0, cq_1, cq_2, atD_0, atD_1, vr_pair, nmS_pair, si_list, si_tup, y_tcons, y_tnil, ite_sb, pk_var, pq_sh, pq_top, pq_own, pk_op, pk_call, pk_lit, pk_con, pk_lst, pk_tup, pk_lc, pk_ife, pk_or, pk_and, nmS_list, nmT_ints, nmT_snoc]
    · generalize hv : (if x < 0 then -x else x) = v at q
      obtain ⟨mx, hmx⟩ : ∃ m : Int, m = (((v * 48271 + ((t : Int) + 1) * 69621).fmod 2147483647) * 16807 + 11 * (t : Int) + 5).fmod 2147483629 := ⟨_, rfl⟩
      refine ⟨[some (.list (ns.map .int), .sh []), some (.list ((ys ++ [mx.fmod 65536] ++ [(mx.fdiv 65536).fmod 32768]).map .int), .own), some (.int (t : Int), .sh []), none, none, none], .inl ?_, ys ++ [mx.fmod 65536] ++ [(mx.fdiv 65536).fmod 32768], ?_, ?_, ?_⟩
      · simp -implicitDefEqProofs only [List.map, param, List.length_cons, List.length_nil, s_cons, s_nil, s_iff, s_asg, s_par, s_drop, s_app, s_for, s_whl, s_kill, s_brk, s_cnt, s_pass, s_nev, s_retv, s_retN, r_lit, r_con, r_op, r_call, r_and, r_or, r_ife, r_chain, r_lst, r_tup, r_lc, rv, y_op, y_call, y_and, y_or, y_ife, y_chain, y_one, y_more, y_lst, y_tup, y_nil, y_cons, y_pnil, y_pcons, y_var, y_lit, y_con, y_ex, y_rng1, y_rng2, y_enum, y_zip, Nat.sub_self, List.replicate, List.cons_append, List.nil_append, List.append_nil, List.getElem?_cons_zero, List.getElem?_cons_succ, vr_sh, vr_own, vr_top, Option.bind_some, Option.map_some, Option.bind_none, Option.map_none, f_le, f_lt, f_gt, f_ge, boolD_some, cho_some, nmS_boolD, nmS_int, nmS_str, nmS_none, nmS_nil, Nat.reduceSub, Nat.reduceAdd, Nat.reduceLT, Nat.reduceLeDiff, ite_b, ite_true, ite_false, if_true, if_false, Bool.false_eq_true, o_neg', o_not', o_add', o_sub', o_mul', o_div', o_mod', o_abs', o_int', o_intb', o_min', o_max', o_gcd', o_lt', o_le', o_gt', o_ge', o_eq', o_ne', o_lenl, o_lent, o_idxl, o_idxt, o_isn', o_isnn', t_bool, t_int, nxt_nx, nxt_rt, nxt_bk, nxt_ct, nxt_if, rb_rt, rb_nx, rb_if, p_nm, p_tup, p_lst, p_nil, p_cons, cmO, c_nm, c_tup, c_lst, c_nil, c_cons, stO, Ow.tags, frz_n, frz_c, ff_nil, ff_cons, f1_none, f1_sh, f1_top, f1_own, w_nil, w_cons, List.set_cons_zero, List.set_cons_succ, intD, lstD, lvl, forF, whlC, lcF, and_self, Bool.not_eq_true', decide_eq_true_eq, decide_eq_false_iff_not, Bool.and_eq_true, Bool.and_eq_false_imp, and_true, true_and, own_q, oq_own, oq_top, put_o, put_t, io_int, io_bool, io_str, io_own, hasT_n, hasT_c, Nat.reduceBEq, Bool.false_and, Bool.and_false, Bool.true_and, Bool.and_true, Bool.or_false, Bool.false_or, Bool.or_true, Bool.true_or, beq_self_eq_true, not_true_eq_false, not_false_eq_true, List.append_assoc, dl_e, dt_e, ta_n, ta_c, List.all_cons, List.all_nil, Nat.zero_le, call_q, cq_0, cq_1, cq_2, atD_0, atD_1, vr_pair, nmS_pair, si_list, si_tup, y_tcons, y_tnil, ite_sb, pk_var, pq_sh, pq_top, pq_own, pk_op, pk_call, pk_lit, pk_con, pk_lst, pk_tup, pk_lc, pk_ife, pk_or, pk_and, nmS_list, nmT_ints, nmT_snoc, he, hv, p1, q, m1, m2, m3, m4, n1, n2, n3, n4, d1, hlen, hlen2, List.length_append, List.length_map, List.map_append, Int.reduceToNat, ← hmx]
      · simp -implicitDefEqProofs only [List.map, param, List.length_cons, List.length_nil, s_cons, s_nil, s_iff, s_asg, s_par, s_drop, s_app, s_for, s_whl, s_kill, s_brk, s_cnt, s_pass, s_nev, s_retv, s_retN, r_lit, r_con, r_op, r_call, r_and, r_or, r_ife, r_chain, r_lst, r_tup, r_lc, rv, y_op, y_call, y_and, y_or, y_ife, y_chain, y_one, y_more, y_lst, y_tup, y_nil, y_cons, y_pnil, y_pcons, y_var, y_lit, y_con, y_ex, y_rng1, y_rng2, y_enum, y_zip, Nat.sub_self, List.replicate, List.cons_append, List.nil_append, List.append_nil, List.getElem?_cons_zero, List.getElem?_cons_succ, vr_sh, vr_own, vr_top, Option.bind_some, Option.map_some, Option.bind_none, Option.map_none, f_le, f_lt, f_gt, f_ge, boolD_some, cho_some, nmS_boolD, nmS_int, nmS_str, nmS_none, nmS_nil, Nat.reduceSub, Nat.reduceAdd, Nat.reduceLT, Nat.reduceLeDiff, ite_b, ite_true, ite_false, if_true, if_false, Bool.false_eq_true, o_neg', o_not', o_add', o_sub', o_mul', o_div', o_mod', o_abs', o_int', o_intb', o_min', o_max', o_gcd', o_lt', o_le', o_gt', o_ge', o_eq', o_ne', o_lenl, o_lent, o_idxl, o_idxt, o_isn', o_isnn', t_bool, t_int, nxt_nx, nxt_rt, nxt_bk, nxt_ct, nxt_if, rb_rt, rb_nx, rb_if, p_nm, p_tup, p_lst, p_nil, p_cons, cmO, c_nm, c_tup, c_lst, c_nil, c_cons, stO, Ow.tags, frz_n, frz_c, ff_nil, ff_cons, f1_none, f1_sh, f1_top, f1_own, w_nil, w_cons, List.set_cons_zero, List.set_cons_succ, intD, lstD, lvl, forF, whlC, lcF, and_self, Bool.not_eq_true', decide_eq_true_eq, decide_eq_false_iff_not, Bool.and_eq_true, Bool.and_eq_false_imp, and_true, true_and, own_q, oq_own, oq_top, put_o, put_t, io_int, io_bool, io_str, io_own, hasT_n, hasT_c, Nat.reduceBEq, Bool.false_and, Bool.and_false, Bool.true_and, Bool.and_true, Bool.or_false, Bool.false_or, Bool.or_true, Bool.true_or, beq_self_eq_true, not_true_eq_false, not_false_eq_true, List.append_assoc, dl_e, dt_e, ta_n, ta_c, List.all_cons, List.all_nil, Nat.zero_le, call_q, cq_0, cq_1, cq_2, atD_0, atD_1, vr_pair, nmS_pair, si_list, si_tup, y_tcons, y_tnil, ite_sb, pk_var, pq_sh, pq_top, pq_own, pk_op, pk_call, pk_lit, pk_con, pk_lst, pk_tup, pk_lc, pk_ife, pk_or, pk_and, nmS_list, nmT_ints, nmT_snoc]
      · rw [List.length_append, List.length_append]; simp; omega
      · intro y hy'
        have b1 := emod_bd mx (show (0 : Int) < 65536 by decide)
        have b2 := emod_bd (mx.fdiv 65536) (show (0 : Int) < 32768 by decide)
        rcases List.mem_append.mp hy' with z | z
        · rcases List.mem_append.mp z with z | z
          · exact hy y z
          · have e : y = mx.fmod 65536 := by simpa using z
            rw [e]; exact b1
        · have e : y = (mx.fdiv 65536).fmod 32768 := by simpa using z
          rw [e]; omega
end
end Z
/-! YD: what is shown, compared with itself. -/
namespace Z
open PySem L2
section
variable {d : D} {g h : List Tag} {x : Str} {i j : Int} {n : Nat}
theorem show_ok (h1 : d.showable = true) (h2 : d.depth ≤ 64) (h3 : d.leavesShort 13 = true) (h4 : d.weight ≤ 60000) : showOk d = true := by
  have q := PyData.shown_le 13 (by decide) d h3
  unfold showOk
  have e : d.shown.length ≤ 1000000 := by omega
  simp [h1, h2, e]
theorem o_repr_ok (hs : showOk d = true) : opR .repr [(d, g)] = some (.str d.shown, .sh []) := by
  simp only [opR, opF, List.map, oRepr, hs, if_true, nmS_str]
theorem vr_int : varR n (some (some (.int i, .own))) = some (.int i, .sh []) := rfl
theorem vr_bool {t : Bool} : varR n (some (some (.bool t, .own))) = some (.bool t, .sh []) := rfl
theorem vr_str : varR n (some (some (.str x, .own))) = some (.str x, .sh []) := rfl
theorem vr_none : varR n (some (some (.none, .own))) = some (.none, .sh []) := rfl
theorem eqv_str : PyData.eqv (.str x) (.str x) = true := by
  first | (unfold PyData.eqv; simp; done) | simp [PyData.eqv]
theorem o_ne_str (hk : PyData.strOk x = true) : opR .ne [(.str x, g), (.str x, h)] = some (.bool false, .sh []) := by
  have e0 : shapedB (.str x) = true := by
    unfold shapedB
    simp [SeqAt.shaped, PyData.canLay0, PyData.depth, hk]
  have e : (shapedB (.str x) && shapedB (.str x)) = true := by rw [e0]; rfl
  simp only [opR, opF, List.map, oNe, e, if_true, eqv_str, nmS_boolD, Bool.not_true]
theorem show_int (h1 : -999999999999 ≤ i) (h2 : i ≤ 999999999999) : showOk (.int i) = true := by
  have q := PyData.shown_int_le2 h1 h2
  have l : i.natAbs.log2 < 1920 := by
    have e : i.natAbs < 2 ^ 40 := by omega
    by_cases z : i.natAbs = 0
    · rw [z]; decide
    · have := (Nat.log2_lt z).mpr e
      omega
  unfold showOk
  have e1 : (PyData.int i).showable = true := by unfold PyData.showable; simpa using l
  have e2 : (PyData.int i).depth ≤ 64 := by
    unfold PyData.depth
    omega
  have e3 : (PyData.int i).shown.length ≤ 1000000 := by omega
  simp [e1, e2, e3]
end
end Z
namespace Z
open PySem L2
theorem ok_app {x y : Str} (hx : PyData.strOk x = true) (hy : PyData.strOk y = true) : PyData.strOk (x ++ y) = true := by
  unfold PyData.strOk at *
  have e : (x ++ y).cps = x.cps ++ y.cps := rfl
  rw [e, Array.all_append, hx, hy]
  rfl
theorem ok_iff (x : Str) : PyData.strOk x = true ↔ ∀ c ∈ x.cps.toList, c < 0x110000 := by
  unfold PyData.strOk
  rw [← Array.all_toList, List.all_eq_true]
  exact ⟨fun h c hc => of_decide_eq_true (h c hc), fun h c hc => decide_eq_true (h c hc)⟩
theorem ok_str (s : String) : PyData.strOk (Str.ofString s) = true := by
  rw [ok_iff]
  intro c hc
  rw [PyProof.Rows.signs_ofString] at hc
  obtain ⟨ch, _, rfl⟩ := List.mem_map.mp hc
  have v := ch.valid
  rcases v with v | v
  · show ch.val.toNat < 0x110000
    omega
  · show ch.val.toNat < 0x110000
    omega
theorem ok_join (sep : Str) (ts : List Str) (hs : PyData.strOk sep = true) (h : ∀ t ∈ ts, PyData.strOk t = true) : PyData.strOk (Str.join sep ts) = true := by
  rw [ok_iff]
  intro c hc
  rcases (PyProof.Rows.mem_join sep c ts).mp hc with ⟨t, ht, hc⟩ | ⟨_, hc⟩
  · exact (ok_iff t).mp (h t ht) c hc
  · exact (ok_iff sep).mp hs c hc
mutual
def plainD : D → Bool
  | .none => true
  | .bool _ => true
  | .int _ => true
  | .str _ => false
  | .list xs => plainDs xs
  | .tuple xs => plainDs xs
  | .dict _ => false
def plainDs : List D → Bool
  | [] => true
  | x :: xs => plainD x && plainDs xs
end
mutual
theorem ok_shown : ∀ d : D, plainD d = true → PyData.strOk d.shown = true
  | .none, _ => by rw [PyData.shown_none]; exact ok_str _
  | .bool b, _ => by rw [PyData.shown_bool]; cases b <;> exact ok_str _
  | .int i, _ => by rw [PyData.shown_int]; exact ok_str _
  | .str _, h => by unfold plainD at h; cases h
  | .list xs, h => by
    unfold plainD at h
    rw [PyData.shown_list]
    exact ok_app (ok_app (ok_str _) (ok_join _ _ (ok_str _) (ok_shownAll xs h))) (ok_str _)
  | .tuple xs, h => by
    unfold plainD at h
    rw [PyData.shown_tuple]
    exact ok_app (ok_app (ok_str _) (ok_join _ _ (ok_str _) (ok_shownAll xs h))) (ok_str _)
  | .dict _, h => by unfold plainD at h; cases h
theorem ok_shownAll : ∀ xs : List D, plainDs xs = true → ∀ t ∈ PyData.shownAll xs, PyData.strOk t = true
  | [], _, t, ht => by simp [PyData.shownAll] at ht
  | x :: xs, h, t, ht => by
    unfold plainDs at h
    rw [Bool.and_eq_true] at h
    simp only [PyData.shownAll, List.mem_cons] at ht
    rcases ht with rfl | ht
    · exact ok_shown x h.1
    · exact ok_shownAll xs h.2 t ht
end
/-- repr(x) != repr(x) -/
theorem repr_self {d : D} {g h : List Tag} (h2 : plainD d = true) : opR .ne [(.str d.shown, g), (.str d.shown, h)] = some (.bool false, .sh []) := o_ne_str (ok_shown d h2)
end Z
/-! YE: small plain data: shown, compared. -/
namespace Z
open PySem L2
mutual
def tinyD : D → Bool
  | .none => true
  | .bool _ => true
  | .int i => decide (-999999999999 ≤ i) && decide (i ≤ 999999999999)
  | .str _ => false
  | .list xs => tinyDs xs
  | .tuple xs => tinyDs xs
  | .dict _ => false
def tinyDs : List D → Bool
  | [] => true
  | x :: xs => tinyD x && tinyDs xs
end
mutual
def nodes : D → Nat
  | .list xs => 1 + nodesAll xs
  | .tuple xs => 1 + nodesAll xs
  | _ => 1
def nodesAll : List D → Nat
  | [] => 0
  | x :: xs => nodes x + nodesAll xs
end
theorem log_tiny {i : Int} (h1 : -999999999999 ≤ i) (h2 : i ≤ 999999999999) : i.natAbs.log2 < 40 := by
  have e : i.natAbs < 2 ^ 40 := by omega
  by_cases z : i.natAbs = 0
  · rw [z]; decide
  · exact (Nat.log2_lt z).mpr e
mutual
theorem tiny_plain : ∀ d : D, tinyD d = true → plainD d = true
  | .none, _ => rfl
  | .bool _, _ => rfl
  | .int _, _ => rfl
  | .str _, h => by unfold tinyD at h; cases h
  | .list xs, h => by unfold tinyD at h; unfold plainD; exact tiny_plains xs h
  | .tuple xs, h => by unfold tinyD at h; unfold plainD; exact tiny_plains xs h
  | .dict _, h => by unfold tinyD at h; cases h
theorem tiny_plains : ∀ xs : List D, tinyDs xs = true → plainDs xs = true
  | [], _ => rfl
  | x :: xs, h => by
    unfold tinyDs at h
    rw [Bool.and_eq_true] at h
    unfold plainDs
    rw [Bool.and_eq_true]
    exact ⟨tiny_plain x h.1, tiny_plains xs h.2⟩
end
mutual
theorem tiny_showable : ∀ d : D, tinyD d = true → d.showable = true
  | .none, _ => by unfold PyData.showable; rfl
  | .bool _, _ => by unfold PyData.showable; rfl
  | .int i, h => by
    unfold tinyD at h
    rw [Bool.and_eq_true, decide_eq_true_eq, decide_eq_true_eq] at h
    have := log_tiny h.1 h.2
    unfold PyData.showable
    simp
    omega
  | .str _, h => by unfold tinyD at h; cases h
  | .list xs, h => by unfold tinyD at h; unfold PyData.showable; exact tiny_showables xs h
  | .tuple xs, h => by unfold tinyD at h; unfold PyData.showable; exact tiny_showables xs h
  | .dict _, h => by unfold tinyD at h; cases h
theorem tiny_showables : ∀ xs : List D, tinyDs xs = true → PyData.showableAll xs = true
  | [], _ => by unfold PyData.showableAll; rfl
  | x :: xs, h => by
    unfold tinyDs at h
    rw [Bool.and_eq_true] at h
    unfold PyData.showableAll
    rw [Bool.and_eq_true]
    exact ⟨tiny_showable x h.1, tiny_showables xs h.2⟩
end
mutual
theorem tiny_leaves : ∀ d : D, tinyD d = true → d.leavesShort 13 = true
  | .none, _ => by unfold PyData.leavesShort; rfl
  | .bool _, _ => by unfold PyData.leavesShort; rfl
  | .int i, h => by
    unfold tinyD at h
    rw [Bool.and_eq_true, decide_eq_true_eq, decide_eq_true_eq] at h
    have := PyData.shown_int_le2 h.1 h.2
    unfold PyData.leavesShort
    simpa using this
  | .str _, h => by unfold tinyD at h; cases h
  | .list xs, h => by unfold tinyD at h; unfold PyData.leavesShort; exact tiny_leavess xs h
  | .tuple xs, h => by unfold tinyD at h; unfold PyData.leavesShort; exact tiny_leavess xs h
  | .dict _, h => by unfold tinyD at h; cases h
theorem tiny_leavess : ∀ xs : List D, tinyDs xs = true → PyData.leavesShortAll 13 xs = true
  | [], _ => by unfold PyData.leavesShortAll; rfl
  | x :: xs, h => by
    unfold tinyDs at h
    rw [Bool.and_eq_true] at h
    unfold PyData.leavesShortAll
    rw [Bool.and_eq_true]
    exact ⟨tiny_leaves x h.1, tiny_leavess xs h.2⟩
end
mutual
theorem tiny_weight : ∀ d : D, tinyD d = true → d.weight + 1 ≤ 41 * nodes d
  | .none, _ => by unfold PyData.weight nodes; omega
  | .bool _, _ => by unfold PyData.weight nodes; omega
  | .int i, h => by
    unfold tinyD at h
    rw [Bool.and_eq_true, decide_eq_true_eq, decide_eq_true_eq] at h
    have := log_tiny h.1 h.2
    unfold PyData.weight nodes
    split <;> omega
  | .str _, h => by unfold tinyD at h; cases h
  | .list xs, h => by
    unfold tinyD at h
    unfold PyData.weight nodes
    have := tiny_weights xs h
    omega
  | .tuple xs, h => by
    unfold tinyD at h
    unfold PyData.weight nodes
    have := tiny_weights xs h
    omega
  | .dict _, h => by unfold tinyD at h; cases h
theorem tiny_weights : ∀ xs : List D, tinyDs xs = true → PyData.weightAll xs ≤ 41 * nodesAll xs
  | [], _ => by unfold PyData.weightAll nodesAll; omega
  | x :: xs, h => by
    unfold tinyDs at h
    rw [Bool.and_eq_true] at h
    unfold PyData.weightAll nodesAll
    have a := tiny_weight x h.1
    have b := tiny_weights xs h.2
    omega
end
theorem show_tiny {d : D} (h : tinyD d = true) (h2 : d.depth ≤ 64) (h3 : nodes d ≤ 1463) : showOk d = true := by
  have := tiny_weight d h
  exact show_ok (tiny_showable d h) h2 (tiny_leaves d h) (by omega)
mutual
theorem plain_lay : ∀ d : D, plainD d = true → d.canLay0 = true
  | .none, _ => by unfold PyData.canLay0; rfl
  | .bool _, _ => by unfold PyData.canLay0; rfl
  | .int _, _ => by unfold PyData.canLay0; rfl
  | .str _, h => by unfold plainD at h; cases h
  | .list xs, h => by unfold plainD at h; unfold PyData.canLay0; exact plain_lays xs h
  | .tuple xs, h => by unfold plainD at h; unfold PyData.canLay0; exact plain_lays xs h
  | .dict _, h => by unfold plainD at h; cases h
theorem plain_lays : ∀ xs : List D, plainDs xs = true → PyData.canLayAll0 xs = true
  | [], _ => by unfold PyData.canLayAll0; rfl
  | x :: xs, h => by
    unfold plainDs at h
    rw [Bool.and_eq_true] at h
    unfold PyData.canLayAll0
    rw [Bool.and_eq_true]
    exact ⟨plain_lay x h.1, plain_lays xs h.2⟩
end
theorem shaped_plain {d : D} (h : plainD d = true) (h2 : d.depth ≤ 64) : shapedB d = true := by
  unfold shapedB
  simp [SeqAt.shaped, plain_lay d h, h2]
mutual
theorem eqv_self : ∀ d : D, plainD d = true → PyData.eqv d d = true
  | .none, _ => by unfold PyData.eqv; rfl
  | .bool _, _ => by unfold PyData.eqv; simp
  | .int _, _ => by unfold PyData.eqv; simp
  | .str _, h => by unfold plainD at h; cases h
  | .list xs, h => by unfold plainD at h; unfold PyData.eqv; exact eqv_selfs xs h
  | .tuple xs, h => by unfold plainD at h; unfold PyData.eqv; exact eqv_selfs xs h
  | .dict _, h => by unfold plainD at h; cases h
theorem eqv_selfs : ∀ xs : List D, plainDs xs = true → PyData.eqvAll xs xs = true
  | [], _ => by unfold PyData.eqvAll; rfl
  | x :: xs, h => by
    unfold plainDs at h
    rw [Bool.and_eq_true] at h
    unfold PyData.eqvAll
    rw [eqv_self x h.1, eqv_selfs xs h.2]
    rfl
end
theorem o_ne_self {d : D} (h : plainD d = true) (h2 : d.depth ≤ 64) (g k : List Tag) : opR .ne [(d, g), (d, k)] = some (.bool false, .sh []) := by
  have e : (shapedB d && shapedB d) = true := by rw [shaped_plain h h2]; rfl
  simp only [opR, opF, List.map, oNe, e, if_true, eqv_self d h, nmS_boolD, Bool.not_true]
theorem o_eq_self {d : D} (h : plainD d = true) (h2 : d.depth ≤ 64) (g k : List Tag) : opR .eq [(d, g), (d, k)] = some (.bool true, .sh []) := by
  have e : (shapedB d && shapedB d) = true := by rw [shaped_plain h h2]; rfl
  simp only [opR, opF, List.map, oEq, e, if_true, eqv_self d h, nmS_boolD]
theorem o_ne_d {d e : D} (h : plainD d = true) (h2 : d.depth ≤ 64) (h3 : plainD e = true) (h4 : e.depth ≤ 64) (g k : List Tag) : opR .ne [(d, g), (e, k)] = some (.bool (!PyData.eqv d e), .sh []) := by
  have e : (shapedB d && shapedB e) = true := by rw [shaped_plain h h2, shaped_plain h3 h4]; rfl
  simp only [opR, opF, List.map, oNe, e, if_true, nmS_boolD]
theorem o_eq_d {d e : D} (h : plainD d = true) (h2 : d.depth ≤ 64) (h3 : plainD e = true) (h4 : e.depth ≤ 64) (g k : List Tag) : opR .eq [(d, g), (e, k)] = some (.bool (PyData.eqv d e), .sh []) := by
  have e : (shapedB d && shapedB e) = true := by rw [shaped_plain h h2, shaped_plain h3 h4]; rfl
  simp only [opR, opF, List.map, oEq, e, if_true, nmS_boolD]
section
variable {α : Type} {enc : α → D}
theorem tinys_map (xs : List α) (h : ∀ x ∈ xs, tinyD (enc x) = true) : tinyDs (xs.map enc) = true := by
  induction xs with
  | nil => rfl
  | cons x xs ih =>
    show (tinyD (enc x) && tinyDs (xs.map enc)) = true
    rw [h x (List.mem_cons_self ..), ih fun y hy => h y (List.mem_cons_of_mem _ hy)]
    rfl
theorem plains_map (xs : List α) (h : ∀ x ∈ xs, plainD (enc x) = true) : plainDs (xs.map enc) = true := by
  induction xs with
  | nil => rfl
  | cons x xs ih =>
    show (plainD (enc x) && plainDs (xs.map enc)) = true
    rw [h x (List.mem_cons_self ..), ih fun y hy => h y (List.mem_cons_of_mem _ hy)]
    rfl
theorem nodes_map (c : Nat) (xs : List α) (h : ∀ x ∈ xs, nodes (enc x) ≤ c) : nodesAll (xs.map enc) ≤ c * xs.length := by
  induction xs with
  | nil => exact Nat.le_refl _
  | cons x xs ih =>
    show nodes (enc x) + nodesAll (xs.map enc) ≤ _
    have a := h x (List.mem_cons_self ..)
    have b := ih fun y hy => h y (List.mem_cons_of_mem _ hy)
    rw [List.length_cons, Nat.mul_succ]
    omega
theorem depth_map (c : Nat) (xs : List α) (h : ∀ x ∈ xs, (enc x).depth ≤ c) : PyData.depthAll (xs.map enc) ≤ c := by
  induction xs with
  | nil => show PyData.depthAll [] ≤ c; unfold PyData.depthAll; exact Nat.zero_le _
  | cons x xs ih =>
    rw [List.map_cons]
    unfold PyData.depthAll
    have a := h x (List.mem_cons_self ..)
    have b := ih fun y hy => h y (List.mem_cons_of_mem _ hy)
    exact Nat.max_le.mpr ⟨a, b⟩
theorem eqv_map [DecidableEq α] (hi : ∀ a b, PyData.eqv (enc a) (enc b) = decide (a = b)) : ∀ xs ys : List α, PyData.eqvAll (xs.map enc) (ys.map enc) = decide (xs = ys)
  | [], [] => by rw [List.map_nil]; unfold PyData.eqvAll; simp
  | [], y :: ys => by rw [List.map_nil, List.map_cons]; unfold PyData.eqvAll; simp
  | x :: xs, [] => by rw [List.map_nil, List.map_cons]; unfold PyData.eqvAll; simp
  | x :: xs, y :: ys => by
    rw [List.map_cons, List.map_cons]
    unfold PyData.eqvAll
    rw [hi, eqv_map hi xs ys]
    by_cases a : x = y <;> by_cases b : xs = ys <;> simp [a, b]
theorem eqv_ints (xs ys : List Int) : PyData.eqv (.list (xs.map .int)) (.list (ys.map .int)) = decide (xs = ys) := by
  unfold PyData.eqv
  exact eqv_map (fun a b => eqv_int) xs ys
theorem eqv_pair (a b c d : Int) : PyData.eqv (.tuple [.int a, .int b]) (.tuple [.int c, .int d]) = decide (a = c ∧ b = d) := by
  unfold PyData.eqv PyData.eqvAll PyData.eqvAll PyData.eqvAll
  rw [eqv_int, eqv_int]
  by_cases h : a = c <;> by_cases k : b = d <;> simp [h, k]
end
theorem tiny_int {i : Int} (h1 : -999999999999 ≤ i) (h2 : i ≤ 999999999999) : tinyD (.int i) = true := by
  unfold tinyD
  simp [h1, h2]
theorem tiny_pair {i j : Int} (h1 : -999999999999 ≤ i) (h2 : i ≤ 999999999999) (h3 : -999999999999 ≤ j) (h4 : j ≤ 999999999999) : tinyD (.tuple [.int i, .int j]) = true := by
  unfold tinyD tinyDs tinyDs tinyDs
  rw [tiny_int h1 h2, tiny_int h3 h4]
  rfl
theorem depth_pair {i j : Int} : (PyData.tuple [.int i, .int j]).depth = 1 := by simp [PyData.depth, PyData.depthAll]
theorem depth_int {i : Int} : (PyData.int i).depth = 0 := by simp [PyData.depth]
theorem nodes_int {i : Int} : nodes (.int i) = 1 := rfl
theorem nodes_pair {i j : Int} : nodes (.tuple [.int i, .int j]) = 3 := rfl
end Z
/-! YF: more rules: loops with an early return, enumerations, flat lists. -/
namespace Z
open PySem L2
section
variable {Φ : Fn} {W : Nat} {ρ ρ' : Rho} {k : List Nat} {d : D} {g h : List Tag} {i j : Int} {n : Nat} {ds : List D} {t : Tag}
theorem for_ret {α : Type} (item : α → D) (st : α → Option (D × Nat)) (F : D → Rho → Option Fl) (ρ : Rho) (hk : wipeR k ρ = ρ) : ∀ xs : List α,
    (∀ x ∈ xs, (st x = none → ∃ ρ', F (item x) ρ = some (.nx ρ') ∧ wipeR k ρ' = ρ) ∧ (∀ q, st x = some q → F (item x) ρ = some (.rt q.1 q.2))) →
    forRun F k (xs.map item) ρ = match xs.findSome? st with | none => some (.nx ρ) | some q => some (.rt q.1 q.2)
  | [], _ => by
    show some (Fl.nx (wipeR k ρ)) = _
    rw [hk]
    rfl
  | x :: xs, hs => by
    obtain ⟨h1, h2⟩ := hs x List.mem_cons_self
    rw [List.map_cons, List.findSome?_cons]
    unfold forRun
    cases e : st x with
    | none =>
      obtain ⟨ρ', e1, e2⟩ := h1 e
      rw [e1]
      simp only
      rw [e2]
      exact for_ret item st F ρ hk xs fun y hy => hs y (List.mem_cons_of_mem _ hy)
    | some q =>
      rw [h2 q e]
theorem enum_map {α : Type} (f : α → D) : ∀ (xs : List α) (k : Nat), enumD k (xs.map f) = (xs.zipIdx k).map fun p => .tuple [.int (p.2 : Int), f p.1]
  | [], k => rfl
  | x :: xs, k => by
    rw [List.map_cons, List.zipIdx_cons, List.map_cons, ← enum_map f xs (k + 1)]
    rfl
theorem idx_at {α : Type} {xs : List α} {p : α × Nat} {j : Nat} (h : (xs.zipIdx)[j]? = some p) : xs[j]? = some p.1 ∧ p.2 = j := by
  rw [List.getElem?_zipIdx] at h
  cases e : xs[j]? with
  | none => rw [e] at h; cases h
  | some a =>
    rw [e] at h
    have z : (a, 0 + j) = p := by simpa using h
    rw [← z]
    exact ⟨rfl, Nat.zero_add j⟩
theorem idx_mem {α : Type} {xs : List α} {p : α × Nat} (h : p ∈ xs.zipIdx) : xs[p.2]? = some p.1 := by
  obtain ⟨j, hj⟩ := List.mem_iff_getElem?.mp h
  obtain ⟨a, b⟩ := idx_at hj
  rw [b]
  exact a
theorem to_bools : ∀ bs : List Bool, toBools (bs.map .bool) = some bs
  | [] => rfl
  | b :: bs => by
    rw [List.map_cons]
    unfold toBools
    rw [to_bools bs]
    rfl
theorem to_ints : ∀ bs : List Int, toInts (bs.map .int) = some bs
  | [] => rfl
  | b :: bs => by
    rw [List.map_cons]
    unfold toInts
    rw [to_ints bs]
    rfl
theorem o_all (bs : List Bool) : opR .all [(.list (bs.map .bool), g)] = some (.bool (bs.all id), .sh []) := by
  simp only [opR, opF, List.map, oAll, to_bools, nmS_boolD]
theorem o_any (bs : List Bool) : opR .any [(.list (bs.map .bool), g)] = some (.bool (bs.any id), .sh []) := by
  simp only [opR, opF, List.map, oAny, to_bools, nmS_boolD]
theorem o_sum (bs : List Int) : opR .sum [(.list (bs.map .int), g)] = some (.int bs.sum, .sh []) := by
  simp only [opR, opF, List.map, oSum, to_ints, nmS_int]
theorem o_rev : opR .rev [(.list ds, g)] = some (.list ds.reverse, nmT (.list ds.reverse) g) := by
  simp only [opR, opF, List.map, oRev, List.flatten_cons, List.flatten_nil, List.append_nil]
theorem o_slc1 : opR (.slc true false) [(.list ds, g), (.int i, h)] = some (.list (cutD ds (some i) none), nmT (.list (cutD ds (some i) none)) (g ++ h)) := by
  simp only [opR, opF, List.map, oSlc, List.flatten_cons, List.flatten_nil, List.append_nil]
theorem flats_map {α : Type} {f : α → D} (hf : ∀ x, flat (f x) = true) : ∀ xs : List α, flats (xs.map f) = true
  | [] => rfl
  | x :: xs => by
    rw [List.map_cons]
    unfold flats
    rw [hf x, flats_map hf xs]
    rfl
theorem nmT_map {α : Type} {f : α → D} (hf : ∀ x, flat (f x) = true) (xs : List α) : nmT (.list (xs.map f)) g = .own := by
  show (if flats (xs.map f) = true then Ow.own else .top g) = .own
  rw [flats_map hf xs]
  rfl
theorem nmS_flat (hf : flat d = true) : nmS d g = .sh [] := by
  unfold nmS
  rw [hf]
  split <;> rfl
theorem vr_flat (hf : flat d = true) : varR n (some (some (d, .own))) = some (d, .sh []) := by
  show (if flat d = true then some (d, Ow.sh []) else some (d, .sh [(n, true)])) = _
  rw [hf]
  rfl
theorem t_none : truth .none = some false := rfl
theorem t_list : truth (.list ds) = some (!ds.isEmpty) := rfl
theorem t_tup : truth (.tuple ds) = some (!ds.isEmpty) := rfl
theorem at_get {α : Type} (f : α → D) (xs : List α) (i : Nat) (x : α) (h : xs[i]? = some x) : atD (xs.map f) (i : Int) = some (f x) := by
  have hl : i < xs.length := by
    obtain ⟨a, _⟩ := List.getElem?_eq_some_iff.mp h
    exact a
  obtain ⟨y, _, h2, h3⟩ := atD_map f xs (i : Int) (by omega) (by omega)
  rw [Int.toNat_natCast, h] at h2
  rw [h3, Option.some.inj h2]
theorem eqv_nil_l {xs : List D} : PyData.eqv (.list xs) (.list []) = xs.isEmpty := by
  cases xs with
  | nil => simp [PyData.eqv, PyData.eqvAll]
  | cons x xs => simp [PyData.eqv, PyData.eqvAll]
theorem bq_ft : (false == true) = false := rfl
theorem bq_tf : (true == false) = false := rfl
theorem io_lsh : isOwn (.list ds, .sh g) = false := rfl
theorem io_top : isOwn (d, .top g) = false := rfl
theorem io_none : isOwn (.none, .sh g) = true := rfl
theorem isn_none : isNone .none = true := rfl
theorem isn_int : isNone (.int i) = false := rfl
theorem isn_tup : isNone (.tuple ds) = false := rfl
theorem isn_list : isNone (.list ds) = false := rfl
theorem isn_bool {t : Bool} : isNone (.bool t) = false := rfl
theorem cut_from (ds : List D) (k : Nat) : cutD ds (some (k : Int)) none = ds.drop k := by
  unfold cutD
  rw [HT.sIx_nat, HT.sIx_none]
  by_cases h : k ≤ ds.length
  · rw [Nat.min_eq_left h]
    exact List.take_of_length_le (by rw [List.length_drop]; omega)
  · rw [Nat.min_eq_right (by omega), List.drop_length, List.drop_of_length_le (by omega), List.take_nil]
theorem cut_to (ds : List D) (k : Nat) : cutD ds none (some (k : Int)) = ds.take k := by
  unfold cutD
  rw [HT.sIx_nat, HT.sIx_none, List.drop_zero, Nat.sub_zero]
  by_cases h : k ≤ ds.length
  · rw [Nat.min_eq_left h]
  · rw [Nat.min_eq_right (by omega), List.take_length, List.take_of_length_le (by omega)]
theorem cut_both (ds : List D) (j k : Nat) : cutD ds (some (j : Int)) (some (k : Int)) = (ds.drop j).take (k - j) := by
  unfold cutD
  rw [HT.sIx_nat, HT.sIx_nat]
  by_cases hj : j ≤ ds.length
  · rw [Nat.min_eq_left hj]
    by_cases hk : k ≤ ds.length
    · rw [Nat.min_eq_left hk]
    · rw [Nat.min_eq_right (by omega), List.take_of_length_le (by rw [List.length_drop]; omega), List.take_of_length_le (by rw [List.length_drop]; omega)]
  · rw [Nat.min_eq_right (show ds.length ≤ j by omega), List.drop_length, List.drop_of_length_le (by omega), List.take_nil, List.take_nil]
def killQ : Option (Option R) → List Nat → Option Fl → Option Fl
  | some (some (d, .own)), rs, z => match pathR d rs with
    | some (.list es) => if es.length < 1000000 then z else none
    | _ => none
  | _, _, _ => none
theorem s_appK {u : Nat} {rs : List Nat} {a : E} : ex Φ W (.appK u rs a) ρ = killQ (ρ[u]?) rs ((ev Φ a ρ).map fun _ => .nx (ρ.set u none)) := by
  conv => lhs; unfold ex
  unfold killQ
  cases ρ[u]? with
  | none => rfl
  | some x =>
    cases x with
    | none => rfl
    | some r =>
      obtain ⟨d, o⟩ := r
      cases o with
      | own =>
        simp only
        cases pathR d rs with
        | none => rfl
        | some d' =>
          cases d' with
          | list es =>
            simp only
            split
            · cases ev Φ a ρ <;> rfl
            · rfl
          | _ => rfl
      | top _ => rfl
      | sh _ => rfl
theorem kq_list {rs : List Nat} {es : List D} {z : Option Fl} (h : pathR d rs = some (.list es)) (hl : es.length < 1000000) : killQ (some (some (d, .own))) rs z = z := by
  show (match pathR d rs with
    | some (.list es) => if es.length < 1000000 then z else none
    | _ => none) = z
  rw [h]
  exact if_pos hl
theorem s_par3 {u v w : Nat} {a b c : E} : ex Φ W (.par3 u v w a b c) ρ = (ev Φ a ρ).bind fun x => (ev Φ b ρ).bind fun y => (ev Φ c ρ).bind fun z => if u < ρ.length ∧ v < ρ.length ∧ w < ρ.length then some (.nx ((((frz (x.2.tags ++ (y.2.tags ++ z.2.tags)) ρ).set u (some (x.1, stO x.2))).set v (some (y.1, stO y.2))).set w (some (z.1, stO z.2)))) else none := by
  conv => lhs; unfold ex
  cases ev Φ a ρ with
  | none => rfl
  | some x =>
    cases ev Φ b ρ with
    | none => rfl
    | some y => cases ev Φ c ρ <;> rfl
theorem o_star1 (h1 : ∀ es, d ≠ .list es) (h2 : ∀ es, d ≠ .dict es) : opR .star1 [(.list ds, g), (d, h)] = if ds.length < 1000000 then some (.list (ds ++ [d]), nmT (.list (ds ++ [d])) (g ++ h)) else none := by
  cases d with
  | list es => exact absurd rfl (h1 es)
  | dict es => exact absurd rfl (h2 es)
  | _ =>
    simp only [opR, opF, List.map, oStar1]
    split
    · rename_i q
      split at q <;> cases q
      rename_i z
      rw [if_pos z]
      simp
    · rename_i q
      split at q <;> cases q
    · rename_i q
      split at q
      · cases q
      · rename_i z
        rw [if_neg z]
def ret2Q : Option (Option R) → Option R → Option Fl
  | some (some (d, .own)), some (d2, .own) => some (.rt (.tuple [d, d2]) 2)
  | _, _ => none
theorem s_ret2 {u : Nat} {a : E} : ex Φ W (.ret2 u a) ρ = ret2Q (ρ[u]?) (ev Φ a ρ) := by
  conv => lhs; unfold ex
  unfold ret2Q
  cases ρ[u]? with
  | none => rfl
  | some x =>
    cases x with
    | none => rfl
    | some r =>
      obtain ⟨d, o⟩ := r
      cases o with
      | own =>
        cases ev Φ a ρ with
        | none => rfl
        | some q =>
          obtain ⟨d2, o2⟩ := q
          cases o2 <;> rfl
      | top _ => rfl
      | sh _ => rfl
theorem r2_own {e : D} : ret2Q (some (some (d, .own))) (some (e, .own)) = some (.rt (.tuple [d, e]) 2) := rfl
def appMQ (u v : Nat) (ρ : Rho) : Option (Option R) → Option (Option R) → Option Fl
  | some (some (.list ds, .own)), some (some (d, .own)) => if u ≠ v ∧ ds.length < 1000000 then some (.nx ((ρ.set v none).set u (some (.list (ds ++ [d]), .own)))) else none
  | _, _ => none
theorem s_appM {u v : Nat} : ex Φ W (.appM u v) ρ = appMQ u v ρ (ρ[u]?) (ρ[v]?) := by
  conv => lhs; unfold ex
  unfold appMQ
  cases ρ[u]? with
  | none => rfl
  | some x =>
    cases x with
    | none => rfl
    | some r =>
      obtain ⟨d, o⟩ := r
      cases o with
      | own =>
        cases d with
        | list ds =>
          cases ρ[v]? with
          | none => rfl
          | some y =>
            cases y with
            | none => rfl
            | some q =>
              obtain ⟨e, o2⟩ := q
              cases o2 <;> rfl
        | _ => rfl
      | top _ => cases d <;> rfl
      | sh _ => cases d <;> rfl
theorem am_own {u v : Nat} {e : D} (h : u ≠ v) (hl : ds.length < 1000000) : appMQ u v ρ (some (some (.list ds, .own))) (some (some (e, .own))) = some (.nx ((ρ.set v none).set u (some (.list (ds ++ [e]), .own)))) := by
  show (if u ≠ v ∧ ds.length < 1000000 then _ else none) = _
  rw [if_pos ⟨h, hl⟩]
def forTQ (u : Nat) (f : D → Rho → Option Fl) (k : List Nat) (ρ : Rho) : Option (Option R) → Option Fl
  | some (some (.list ds, .own)) => match forRun f k ds (frz [(u, true)] ρ) with
    | some (.nx ρ2) => if thawFrom u 0 ρ2 = true then some (.nx (ρ2.set u (some (.list ds, .own)))) else none
    | some (.rt d l) => some (.rt d l)
    | _ => none
  | _ => none
theorem s_forT {u : Nat} {p : Pat} {body : Ss} : ex Φ W (.forT u p body k) ρ = forTQ u (forF Φ W p body) k ρ (ρ[u]?) := by
  have e : (fun x ρ' => match setP p x (.sh []) ρ' with
        | some ρ'' => exs Φ W body ρ''
        | none => none : D → Rho → Option Fl) = forF Φ W p body := by
    funext x ρ'
    unfold forF
    cases setP p x (.sh []) ρ' <;> rfl
  conv => lhs; unfold ex
  cases ρ[u]? with
  | none => rfl
  | some x =>
    cases x with
    | none => rfl
    | some r =>
      obtain ⟨d, o⟩ := r
      cases o with
      | own =>
        cases d with
        | list ds => exact congrArg (fun f => forTQ u f k ρ (some (some (.list ds, .own)))) e
        | _ => rfl
      | top _ => cases d <;> rfl
      | sh _ => cases d <;> rfl
theorem ft_own {u : Nat} {f : D → Rho → Option Fl} {ρ2 : Rho} (h : forRun f k ds (frz [(u, true)] ρ) = some (.nx ρ2)) (ht : thawFrom u 0 ρ2 = true) : forTQ u f k ρ (some (some (.list ds, .own))) = some (.nx (ρ2.set u (some (.list ds, .own)))) := by
  show (match forRun f k ds (frz [(u, true)] ρ) with
    | some (.nx ρ2) => if thawFrom u 0 ρ2 = true then some (Fl.nx (ρ2.set u (some (.list ds, .own)))) else none
    | some (.rt d l) => some (Fl.rt d l)
    | _ => none) = _
  rw [h]
  exact if_pos ht
end
end Z
/-! YG: small data with short words shown; places of a list set; cuts from behind; sorted. -/
namespace Z
open PySem L2
mutual
def weeD : D → Bool
  | .none => true
  | .bool _ => true
  | .int i => decide (-99 ≤ i) && decide (i ≤ 99)
  | .str x => PyData.strOk (reprText x) && (decide (x.cps.size ≤ 7) && x.cps.toList.all fun c => decide (c < 16 ^ 8))
  | .list xs => weeDs xs
  | .tuple xs => weeDs xs
  | .dict _ => false
def weeDs : List D → Bool
  | [] => true
  | x :: xs => weeD x && weeDs xs
end
theorem log_wee {i : Int} (h1 : -99 ≤ i) (h2 : i ≤ 99) : i.natAbs.log2 < 7 := by
  have e : i.natAbs < 2 ^ 7 := by omega
  by_cases z : i.natAbs = 0
  · rw [z]; decide
  · exact (Nat.log2_lt z).mpr e
mutual
theorem wee_showable : ∀ d : D, weeD d = true → d.showable = true
  | .none, _ => by unfold PyData.showable; rfl
  | .bool _, _ => by unfold PyData.showable; rfl
  | .int i, h => by
    unfold weeD at h
    rw [Bool.and_eq_true, decide_eq_true_eq, decide_eq_true_eq] at h
    have := log_wee h.1 h.2
    unfold PyData.showable
    simp
    omega
  | .str _, h => by unfold PyData.showable; rfl
  | .list xs, h => by unfold weeD at h; unfold PyData.showable; exact wee_showables xs h
  | .tuple xs, h => by unfold weeD at h; unfold PyData.showable; exact wee_showables xs h
  | .dict _, h => by unfold weeD at h; cases h
theorem wee_showables : ∀ xs : List D, weeDs xs = true → PyData.showableAll xs = true
  | [], _ => by unfold PyData.showableAll; rfl
  | x :: xs, h => by
    unfold weeDs at h
    rw [Bool.and_eq_true] at h
    unfold PyData.showableAll
    rw [Bool.and_eq_true]
    exact ⟨wee_showable x h.1, wee_showables xs h.2⟩
end
mutual
theorem wee_leaves : ∀ d : D, weeD d = true → d.leavesShort 13 = true
  | .none, _ => by unfold PyData.leavesShort; rfl
  | .bool _, _ => by unfold PyData.leavesShort; rfl
  | .int i, h => by
    unfold weeD at h
    rw [Bool.and_eq_true, decide_eq_true_eq, decide_eq_true_eq] at h
    have := PyData.shown_int_le2 (i := i) (by omega) (by omega)
    unfold PyData.leavesShort
    simpa using this
  | .str x, h => by
    unfold weeD at h
    rw [Bool.and_eq_true, Bool.and_eq_true] at h
    unfold PyData.leavesShort
    exact h.2.2
  | .list xs, h => by unfold weeD at h; unfold PyData.leavesShort; exact wee_leavess xs h
  | .tuple xs, h => by unfold weeD at h; unfold PyData.leavesShort; exact wee_leavess xs h
  | .dict _, h => by unfold weeD at h; cases h
theorem wee_leavess : ∀ xs : List D, weeDs xs = true → PyData.leavesShortAll 13 xs = true
  | [], _ => by unfold PyData.leavesShortAll; rfl
  | x :: xs, h => by
    unfold weeDs at h
    rw [Bool.and_eq_true] at h
    unfold PyData.leavesShortAll
    rw [Bool.and_eq_true]
    exact ⟨wee_leaves x h.1, wee_leavess xs h.2⟩
end
mutual
theorem wee_weight : ∀ d : D, weeD d = true → d.weight + 1 ≤ 8 * nodes d
  | .none, _ => by unfold PyData.weight nodes; omega
  | .bool _, _ => by unfold PyData.weight nodes; omega
  | .int i, h => by
    unfold weeD at h
    rw [Bool.and_eq_true, decide_eq_true_eq, decide_eq_true_eq] at h
    have := log_wee h.1 h.2
    unfold PyData.weight nodes
    split <;> omega
  | .str x, h => by
    unfold weeD at h
    rw [Bool.and_eq_true, Bool.and_eq_true, decide_eq_true_eq] at h
    have := h.2.1
    unfold PyData.weight nodes
    omega
  | .list xs, h => by
    unfold weeD at h
    unfold PyData.weight nodes
    have := wee_weights xs h
    omega
  | .tuple xs, h => by
    unfold weeD at h
    unfold PyData.weight nodes
    have := wee_weights xs h
    omega
  | .dict _, h => by unfold weeD at h; cases h
theorem wee_weights : ∀ xs : List D, weeDs xs = true → PyData.weightAll xs ≤ 8 * nodesAll xs
  | [], _ => by unfold PyData.weightAll nodesAll; omega
  | x :: xs, h => by
    unfold weeDs at h
    rw [Bool.and_eq_true] at h
    unfold PyData.weightAll nodesAll
    have a := wee_weight x h.1
    have b := wee_weights xs h.2
    omega
end
mutual
theorem wee_shown : ∀ d : D, weeD d = true → PyData.strOk d.shown = true
  | .none, _ => by rw [PyData.shown_none]; exact ok_str _
  | .bool b, _ => by rw [PyData.shown_bool]; cases b <;> exact ok_str _
  | .int i, _ => by rw [PyData.shown_int]; exact ok_str _
  | .str x, h => by
    unfold weeD at h
    rw [Bool.and_eq_true] at h
    rw [PyData.shown_str]
    exact h.1
  | .list xs, h => by
    unfold weeD at h
    rw [PyData.shown_list]
    exact ok_app (ok_app (ok_str _) (ok_join _ _ (ok_str _) (wee_shownAll xs h))) (ok_str _)
  | .tuple xs, h => by
    unfold weeD at h
    rw [PyData.shown_tuple]
    exact ok_app (ok_app (ok_str _) (ok_join _ _ (ok_str _) (wee_shownAll xs h))) (ok_str _)
  | .dict _, h => by unfold weeD at h; cases h
theorem wee_shownAll : ∀ xs : List D, weeDs xs = true → ∀ t ∈ PyData.shownAll xs, PyData.strOk t = true
  | [], _, t, ht => by simp [PyData.shownAll] at ht
  | x :: xs, h, t, ht => by
    unfold weeDs at h
    rw [Bool.and_eq_true] at h
    simp only [PyData.shownAll, List.mem_cons] at ht
    rcases ht with rfl | ht
    · exact wee_shown x h.1
    · exact wee_shownAll xs h.2 t ht
end
theorem show_wee {d : D} (h : weeD d = true) (h2 : d.depth ≤ 64) (h3 : nodes d ≤ 7500) : showOk d = true := by
  have := wee_weight d h
  exact show_ok (wee_showable d h) h2 (wee_leaves d h) (by omega)
theorem repr_wee {d : D} {g : List Tag} (h : weeD d = true) (h2 : d.depth ≤ 64) (h3 : nodes d ≤ 7500) : opR .repr [(d, g)] = some (.str d.shown, .sh []) := o_repr_ok (show_wee h h2 h3)
theorem ne_wee {d : D} {g k : List Tag} (h : weeD d = true) : opR .ne [(.str d.shown, g), (.str d.shown, k)] = some (.bool false, .sh []) := o_ne_str (wee_shown d h)
theorem o_eq_str {x : Str} {g k : List Tag} (hk : PyData.strOk x = true) : opR .eq [(.str x, g), (.str x, k)] = some (.bool true, .sh []) := by
  have e0 : shapedB (.str x) = true := by
    unfold shapedB
    simp [SeqAt.shaped, PyData.canLay0, PyData.depth, hk]
  have e : (shapedB (.str x) && shapedB (.str x)) = true := by rw [e0]; rfl
  simp only [opR, opF, List.map, oEq, e, if_true, eqv_str, nmS_boolD]
theorem eq_wee {d : D} {g k : List Tag} (h : weeD d = true) : opR .eq [(.str d.shown, g), (.str d.shown, k)] = some (.bool true, .sh []) := o_eq_str (wee_shown d h)
theorem wee_int {i : Int} (h1 : -99 ≤ i) (h2 : i ≤ 99) : weeD (.int i) = true := by
  unfold weeD
  simp [h1, h2]
theorem wees_map {α : Type} {enc : α → D} (xs : List α) (h : ∀ x ∈ xs, weeD (enc x) = true) : weeDs (xs.map enc) = true := by
  induction xs with
  | nil => rfl
  | cons x xs ih =>
    show (weeD (enc x) && weeDs (xs.map enc)) = true
    rw [h x (List.mem_cons_self ..), ih fun y hy => h y (List.mem_cons_of_mem _ hy)]
    rfl
section
variable {Φ : Fn} {W : Nat} {ρ : Rho} {k : List Nat}
def setQ (u : Nat) (ρ : Rho) (x : R) (m : R) : Option Fl :=
  match m with
  | (.int n, _) => (ownL (frz x.2.tags ρ) u).bind fun q => (ixN q.1.length n).map fun m => .nx (putL (frz ((if isOwn x then [] else [(u, false)]) ++ x.2.tags) ρ) u (q.1.set m x.1) (q.2 && isOwn x))
  | _ => none
theorem s_setI {u : Nat} {a e : E} : ex Φ W (.setI u a e) ρ = (ev Φ e ρ).bind fun x => (ev Φ a ρ).bind fun m => setQ u ρ x m := by
  conv => lhs; unfold ex
  cases ev Φ e ρ with
  | none => rfl
  | some x =>
    obtain ⟨d, o⟩ := x
    simp only [Option.bind_some]
    cases ev Φ a ρ with
    | none => rfl
    | some m =>
      obtain ⟨m, om⟩ := m
      simp only [Option.bind_some]
      unfold setQ
      cases m <;> first | rfl | skip
      rename_i n
      dsimp only
      cases ownL (frz o.tags ρ) u with
      | none => rfl
      | some q =>
        obtain ⟨ds, deep⟩ := q
        simp only [Option.bind_some]
        cases ixN ds.length n <;> rfl
theorem ix_nat {n j : Nat} (h : j < n) : ixN n (j : Int) = some j := by
  unfold ixN
  rw [if_pos (by omega), if_pos (by omega), Int.toNat_natCast]
theorem set_own {u : Nat} {ds : List D} {d : D} {j : Nat} {o : Ow} (hu : (ρ[u]? : Option (Option R)) = some (some (.list ds, .own))) (h : j < ds.length) : setQ u ρ (d, .own) (.int (j : Int), o) = some (.nx (ρ.set u (some (.list (ds.set j d), .own)))) := by
  unfold setQ
  have e : frz (Ow.tags .own) ρ = ρ := by
    show frz [] ρ = ρ
    simp only [frz_n]
  dsimp only
  rw [e]
  unfold ownL
  rw [hu]
  dsimp only
  rw [Option.bind_some, ix_nat h]
  show some (Fl.nx (putL (frz ((if isOwn (d, .own) = true then [] else [(u, false)]) ++ []) ρ) u (ds.set j d) (true && isOwn (d, .own)))) = _
  simp only [io_own, if_true, List.append_nil, Bool.and_true]
  show some (Fl.nx (putL (frz [] ρ) u (ds.set j d) true)) = _
  simp only [frz_n]
  rfl
theorem cut_fromN (ds : List D) (d : Nat) (h : 1 ≤ d ∧ d ≤ ds.length) : cutD ds (some (-(d : Int))) none = ds.drop (ds.length - d) := by
  unfold cutD
  have e : HT.sIx ds.length 0 (some (-(d : Int))) = ds.length - d := by
    show (if -(d : Int) < 0 then (-(d : Int) + (ds.length : Int)).toNat else min (-(d : Int)).toNat ds.length) = _
    rw [if_pos (by omega)]
    omega
  rw [e, HT.sIx_none]
  exact List.take_of_length_le (by rw [List.length_drop]; omega)
theorem cut_toN (ds : List D) (d : Nat) (h : 1 ≤ d ∧ d ≤ ds.length) : cutD ds none (some (-(d : Int))) = ds.take (ds.length - d) := by
  unfold cutD
  have e : HT.sIx ds.length ds.length (some (-(d : Int))) = ds.length - d := by
    show (if -(d : Int) < 0 then (-(d : Int) + (ds.length : Int)).toNat else min (-(d : Int)).toNat ds.length) = _
    rw [if_pos (by omega)]
    omega
  rw [e, HT.sIx_none, List.drop_zero, Nat.sub_zero]
theorem for_invw {α : Type} (item : α → D) (Inv : Nat → Rho → Prop) (F : D → Rho → Option Fl) : ∀ (xs : List α) (i : Nat) (ρ : Rho), Inv i ρ →
    (∀ j x ρ, xs[j]? = some x → Inv (i + j) ρ → ∃ ρ', F (item x) ρ = some (.nx ρ') ∧ Inv (i + j + 1) (wipeR k ρ')) → ∃ ρ', forRun F k (xs.map item) ρ = some (.nx (wipeR k ρ')) ∧ Inv (i + xs.length) ρ'
  | [], i, ρ, hi, hs => ⟨ρ, rfl, hi⟩
  | x :: xs, i, ρ, hi, hs => by
    obtain ⟨ρ', h1, h2⟩ := hs 0 x ρ rfl hi
    rw [List.map_cons]
    unfold forRun
    rw [h1]
    obtain ⟨ρ2, e1, e2⟩ := for_invw item Inv F xs (i + 1) (wipeR k ρ') h2 (fun j y ρ hy hI => by
      have e : i + 1 + j = i + (j + 1) := by omega
      rw [e] at hI ⊢
      exact hs (j + 1) y ρ hy hI)
    refine ⟨ρ2, e1, ?_⟩
    have e : i + (x :: xs).length = i + 1 + xs.length := by rw [List.length_cons]; omega
    rw [e]
    exact e2
end
theorem insI_comm (x y : Int) : ∀ l : List Int, insI x (insI y l) = insI y (insI x l)
  | [] => by
    by_cases e : x = y
    · rw [e]
    · by_cases a : x ≤ y
      · have b : ¬ y ≤ x := by omega
        simp [insI, a, b]
      · have b : y ≤ x := by omega
        simp [insI, a, b]
  | z :: l => by
    by_cases e : x = y
    · rw [e]
    · by_cases a : y ≤ z
      · by_cases b : x ≤ z
        · by_cases c : x ≤ y
          · have d : ¬ y ≤ x := by omega
            simp [insI, a, b, c, d]
          · have d : y ≤ x := by omega
            simp [insI, a, b, c, d]
        · have c : ¬ x ≤ y := by omega
          simp [insI, a, b, c]
      · by_cases b : x ≤ z
        · have c : ¬ y ≤ x := by omega
          simp [insI, a, b, c]
        · simp [insI, a, b, insI_comm x y l]
theorem sortI_same {a b : List Int} (h : a.Perm b) : sortI a = sortI b := by
  induction h with
  | nil => rfl
  | cons x _ ih => show insI x (sortI _) = insI x (sortI _); rw [ih]
  | swap x y l => exact insI_comm _ _ _
  | trans _ _ i1 i2 => exact i1.trans i2
theorem o_sorted (bs : List Int) {g : List Tag} : opR .sorted [(.list (bs.map .int), g)] = some (.list ((sortI bs).map .int), .own) := by
  simp only [opR, opF, List.map, oSorted, to_ints]
  congr 2
  exact nmT_map (fun _ => rfl) _
theorem ne_ints_self (bs : List Int) {g k : List Tag} : opR .ne [(.list (bs.map .int), g), (.list (bs.map .int), k)] = some (.bool false, .sh []) := o_ne_self (by unfold plainD; exact plains_map _ fun _ _ => rfl) (by
  unfold PyData.depth
  have := depth_map (enc := PyData.int) 0 bs (fun _ _ => by rw [depth_int]; exact Nat.le_refl _)
  omega) g k
end Z
namespace Cl
open PySem L2 PySem.Spec PyProof.Rows Z
/-! ### the text -/
def topS (i : Nat) : Stmt := PySem.Challenge.pw_dugtold_k10_whole_deeds_and_sections.main.body.getD i (.Pass ⟨0, 0, 0, 0⟩)
def fd_is_deed : Fd := ⟨2, 2, (.cons (.iff (.op .eq (.cons (.op .len (.cons (.var 1) .nil)) (.cons (.lit (.int 2)) .nil))) (.cons (.ret (.and_ (.op .eq (.cons (.op .idx (.cons (.var 1) (.cons (.lit (.int 0)) .nil))) (.cons (.lit (.str "lay")) .nil))) (.chain (.lit (.int 1)) .le (.op .idx (.cons (.var 1) (.cons (.lit (.int 1)) .nil))) (.one .le (.con "MOST_MARK" (.int 9)))))) .nil) .nil) (.cons (.ret (.and_ (.op .eq (.cons (.op .len (.cons (.var 1) .nil)) (.cons (.lit (.int 4)) .nil))) (.and_ (.op .eq (.cons (.op .idx (.cons (.var 1) (.cons (.lit (.int 0)) .nil))) (.cons (.lit (.str "cut")) .nil))) (.and_ (.chain (.lit (.int 0)) .le (.op .idx (.cons (.var 1) (.cons (.lit (.int 1)) .nil))) (.more .le (.op .idx (.cons (.var 1) (.cons (.lit (.int 2)) .nil))) (.one .lt (.var 0)))) (.op .ge (.cons (.op .idx (.cons (.var 1) (.cons (.lit (.int 3)) .nil))) (.cons (.lit (.int 1)) .nil))))))) .nil))⟩
def df_is_deed : Df := ⟨"is_deed", ["width", "deed"], ["width", "deed"], defArgs (topS 11), defBody (topS 11), defScope (topS 11), fd_is_deed, fun _ _ _ _ _ _ us hl => match us, hl with | [_, _], _ => rfl⟩
def b0_done : Ss := (.cons (.app 3 (.ife (.chain (.var 5) .le (.var 8) (.one .le (.var 6))) (.op (.slc false true) (.cons (.var 9) (.cons (.op .sub (.cons (.op .len (.cons (.var 9) .nil)) (.cons (.var 7) .nil))) .nil))) (.var 9))) .nil)
def fd_done : Fd := ⟨3, 10, (.cons (.iff (.op .eq (.cons (.op .idx (.cons (.var 1) (.cons (.lit (.int 0)) .nil))) (.cons (.lit (.str "lay")) .nil))) (.cons (.ret (.lc [9] (.op .star1 (.cons (.var 9) (.cons (.tup (.cons (.op .idx (.cons (.var 1) (.cons (.lit (.int 1)) .nil))) (.cons (.var 2) .nil))) .nil))) (.nm 9) (.ex (.var 0)) .nil)) .nil) .nil) (.cons (.asg (.tp (.cons (.nm 4) (.cons (.nm 5) (.cons (.nm 6) (.cons (.nm 7) .nil))))) (.var 1)) (.cons (.iff (.op .not_ (.cons (.op .all (.cons (.lc [9] (.op .ge (.cons (.op .len (.cons (.var 9) .nil)) (.cons (.var 7) .nil))) (.nm 9) (.ex (.op (.slc true true) (.cons (.var 0) (.cons (.var 5) (.cons (.op .add (.cons (.var 6) (.cons (.lit (.int 1)) .nil))) .nil))))) .nil) .nil)) .nil)) (.cons (.ret (.lit .none)) .nil) .nil) (.cons (.asg (.nm 3) (.lst .nil)) (.cons (.for_ (.tp (.cons (.nm 8) (.cons (.nm 9) .nil))) (.enum (.var 0)) b0_done [8, 9]) (.cons (.ret (.var 3)) .nil))))))⟩
def df_done : Df := ⟨"done", ["columns", "deed", "number"], ["columns", "deed", "number", "found", "_", "first", "last", "depth", "c", "column"], defArgs (topS 12), defBody (topS 12), defScope (topS 12), fd_done, fun _ _ _ _ _ _ us hl => match us, hl with | [_, _, _], _ => rfl⟩
def b0_all_behind : Ss := (.cons (.asg (.nm 6) (.ife (.call 0 (.cons (.var 0) (.cons (.var 5) .nil))) (.call 1 (.cons (.op .idx (.cons (.var 2) (.cons (.op .neg (.cons (.lit (.int 1)) .nil)) .nil))) (.cons (.var 5) (.cons (.var 3) .nil)))) (.lit .none))) (.cons (.iff (.op .isn (.cons (.var 6) .nil)) (.cons .nev .nil) .nil) (.cons (.app 2 (.var 6)) (.cons (.asg (.nm 3) (.op .add (.cons (.var 3) (.cons (.op .int (.cons (.op .eq (.cons (.op .idx (.cons (.var 5) (.cons (.lit (.int 0)) .nil))) (.cons (.lit (.str "lay")) .nil))) .nil)) .nil)))) .nil))))
def fd_all_behind : Fd := ⟨2, 8, (.cons (.iff (.op .not_ (.cons (.chain (.lit (.int 1)) .le (.var 0) (.one .le (.con "MOST_COLUMNS" (.int 4)))) .nil)) (.cons .nev .nil) .nil) (.cons (.iff (.op .gt (.cons (.op .len (.cons (.var 1) .nil)) (.cons (.con "MOST_DEEDS" (.int 40)) .nil))) (.cons .nev .nil) .nil) (.cons (.asg (.nm 2) (.lst (.cons (.lc [7] (.lst .nil) (.nm 7) (.rng1 (.var 0)) .nil) .nil))) (.cons (.asg (.nm 3) (.lit (.int 0))) (.cons (.for_ (.tp (.cons (.nm 4) (.cons (.nm 5) .nil))) (.enum (.var 1)) b0_all_behind [4, 5, 6]) (.cons (.ret (.var 2)) .nil))))))⟩
def df_all_behind : Df := ⟨"all_behind", ["width", "deeds"], ["width", "deeds", "found", "number", "k", "deed", "columns", "_"], defArgs (topS 13), defBody (topS 13), defScope (topS 13), fd_all_behind, fun _ _ _ _ _ _ us hl => match us, hl with | [_, _], _ => rfl⟩
def fd_run : Fd := ⟨2, 5, (.cons (.ret (.lc [2] (.lc [3, 4] (.var 3) (.tp (.cons (.nm 3) (.cons (.nm 4) .nil))) (.ex (.var 2)) .nil) (.nm 2) (.ex (.op .idx (.cons (.call 2 (.cons (.var 0) (.cons (.var 1) .nil))) (.cons (.op .neg (.cons (.lit (.int 1)) .nil)) .nil)))) .nil)) .nil)⟩
def df_run : Df := ⟨"run", ["width", "deeds"], ["width", "deeds", "column", "mark", "_"], defArgs (topS 14), defBody (topS 14), defScope (topS 14), fd_run, fun _ _ _ _ _ _ us hl => match us, hl with | [_, _], _ => rfl⟩
def b0_taken : Ss := (.cons (.iff (.op .eq (.cons (.op .idx (.cons (.var 5) (.cons (.lit (.int 0)) .nil))) (.cons (.lit (.str "cut")) .nil))) (.cons (.asg (.nm 6) (.op .idx (.cons (.var 2) (.cons (.var 4) .nil)))) (.cons (.asg (.nm 7) (.lc [8] (.tup (.cons (.var 8) (.cons (.lc [9, 10] (.var 9) (.tp (.cons (.nm 9) (.cons (.nm 10) .nil))) (.ex (.op (.slc true false) (.cons (.op .idx (.cons (.var 6) (.cons (.var 8) .nil))) (.cons (.op .sub (.cons (.op .len (.cons (.op .idx (.cons (.var 6) (.cons (.var 8) .nil))) .nil)) (.cons (.op .idx (.cons (.var 5) (.cons (.lit (.int 3)) .nil))) .nil))) .nil)))) .nil) .nil))) (.nm 8) (.rng2 (.op .idx (.cons (.var 5) (.cons (.lit (.int 1)) .nil))) (.op .add (.cons (.op .idx (.cons (.var 5) (.cons (.lit (.int 2)) .nil))) (.cons (.lit (.int 1)) .nil)))) .nil)) (.cons (.appM 3 7) (.cons (.kill [6, 7]) .nil)))) (.cons (.kill [6, 7]) .nil)) .nil)
def fd_taken : Fd := ⟨2, 11, (.cons (.asg (.nm 2) (.call 2 (.cons (.var 0) (.cons (.var 1) .nil)))) (.cons (.asg (.nm 3) (.lst .nil)) (.cons (.for_ (.tp (.cons (.nm 4) (.cons (.nm 5) .nil))) (.enum (.var 1)) b0_taken [4, 5, 6, 7]) (.cons (.ret (.var 3)) .nil))))⟩
def df_taken : Df := ⟨"taken", ["width", "deeds"], ["width", "deeds", "rows", "found", "k", "deed", "ahead", "part", "c", "mark", "_"], defArgs (topS 15), defBody (topS 15), defScope (topS 15), fd_taken, fun _ _ _ _ _ _ us hl => match us, hl with | [_, _], _ => rfl⟩
def fd_account_of : Fd := ⟨2, 8, (.cons (.asg (.nm 2) (.op .idx (.cons (.call 2 (.cons (.var 0) (.cons (.var 1) .nil))) (.cons (.op .neg (.cons (.lit (.int 1)) .nil)) .nil)))) (.cons (.asg (.nm 3) (.lc [4] (.op .idx (.cons (.var 4) (.cons (.lit (.int 1)) .nil))) (.nm 4) (.ex (.var 1)) (.cons (.op .eq (.cons (.op .idx (.cons (.var 4) (.cons (.lit (.int 0)) .nil))) (.cons (.lit (.str "lay")) .nil))) .nil))) (.cons (.ret2 3 (.lc [5] (.lc [6, 7] (.var 7) (.tp (.cons (.nm 6) (.cons (.nm 7) .nil))) (.ex (.var 5)) .nil) (.nm 5) (.ex (.var 2)) .nil)) .nil)))⟩
def df_account_of : Df := ⟨"account_of", ["width", "deeds"], ["width", "deeds", "columns", "lays", "deed", "column", "_", "number"], defArgs (topS 16), defBody (topS 16), defScope (topS 16), fd_account_of, fun _ _ _ _ _ _ us hl => match us, hl with | [_, _], _ => rfl⟩
def b0_check_section : Ss := (.cons (.iff (.or_ (.op .gt (.cons (.op .len (.cons (.var 2) .nil)) (.cons (.con "MOST_MARKS" (.int 6)) .nil))) (.op .not_ (.cons (.op .all (.cons (.lc [3] (.chain (.lit (.int 1)) .le (.var 3) (.one .le (.con "MOST_MARK" (.int 9)))) (.nm 3) (.ex (.var 2)) .nil) .nil)) .nil))) (.cons .nev .nil) .nil) .nil)
def fd_check_section : Fd := ⟨1, 4, (.cons (.iff (.op .not_ (.cons (.chain (.lit (.int 1)) .le (.op .len (.cons (.var 0) .nil)) (.one .le (.con "MOST_COLUMNS" (.int 4)))) .nil)) (.cons .nev .nil) .nil) (.cons (.for_ (.tp (.cons (.nm 1) (.cons (.nm 2) .nil))) (.enum (.var 0)) b0_check_section [1, 2]) .nil))⟩
def df_check_section : Df := ⟨"check_section", ["section"], ["section", "c", "column", "mark"], defArgs (topS 19), defBody (topS 19), defScope (topS 19), fd_check_section, fun _ _ _ _ _ _ us hl => match us, hl with | [_], _ => rfl⟩
def b0_is_right : Ss := (.cons (.iff (.or_ (.op .ne (.cons (.op .len (.cons (.var 4) .nil)) (.cons (.op .len (.cons (.var 3) .nil)) .nil))) (.op .not_ (.cons (.op .all (.cons (.lc [6] (.chain (.lit (.int 0)) .le (.var 6) (.one .lt (.op .len (.cons (.var 1) .nil)))) (.nm 6) (.ex (.var 4)) .nil) .nil)) .nil))) (.cons (.ret (.lit (.bool false))) .nil) .nil) (.cons (.iff (.or_ (.op .not_ (.cons (.op .all (.cons (.lc [7, 8] (.op .lt (.cons (.var 7) (.cons (.var 8) .nil))) (.tp (.cons (.nm 7) (.cons (.nm 8) .nil))) (.zip (.var 4) (.op (.slc true false) (.cons (.var 4) (.cons (.lit (.int 1)) .nil)))) .nil) .nil)) .nil)) (.op .ne (.cons (.lc [6] (.op .idx (.cons (.var 1) (.cons (.var 6) .nil))) (.nm 6) (.ex (.var 4)) .nil) (.cons (.var 3) .nil)))) (.cons (.ret (.lit (.bool false))) .nil) .nil) .nil))
def fd_is_right : Fd := ⟨3, 9, (.cons (.iff (.or_ (.op .ne (.cons (.op .len (.cons (.var 2) .nil)) (.cons (.op .len (.cons (.var 0) .nil)) .nil))) (.op .not_ (.cons (.op .all (.cons (.lc [5] (.chain (.lit (.int 1)) .le (.var 5) (.one .le (.con "MOST_MARK" (.int 9)))) (.nm 5) (.ex (.var 1)) .nil) .nil)) .nil))) (.cons (.ret (.lit (.bool false))) .nil) .nil) (.cons (.for_ (.tp (.cons (.nm 3) (.cons (.nm 4) .nil))) (.zip (.var 0) (.var 2)) b0_is_right [3, 4]) (.cons (.ret (.lit (.bool true))) .nil)))⟩
def df_is_right : Df := ⟨"is_right", ["section", "lays", "places"], ["section", "lays", "places", "column", "row", "mark", "k", "one", "two"], defArgs (topS 20), defBody (topS 20), defScope (topS 20), fd_is_right, fun _ _ _ _ _ _ us hl => match us, hl with | [_, _, _], _ => rfl⟩
def fd_is_account : Fd := ⟨3, 3, (.cons (.drop (.call 6 (.cons (.var 0) .nil))) (.cons (.ret (.call 7 (.cons (.var 0) (.cons (.var 1) (.cons (.var 2) .nil))))) .nil))⟩
def df_is_account : Df := ⟨"is_account", ["section", "lays", "places"], ["section", "lays", "places"], defArgs (topS 21), defBody (topS 21), defScope (topS 21), fd_is_account, fun _ _ _ _ _ _ us hl => match us, hl with | [_, _, _], _ => rfl⟩
def b0_law_draws : Ss := (.cons (.iff (.op .gt (.cons (.var 3) (.cons (.lit (.int 0)) .nil))) (.cons (.app 1 (.op .mod (.cons (.op .int (.cons (.var 3) .nil)) (.cons (.lit (.int 65536)) .nil)))) (.cons (.asg (.nm 3) (.op .fdiv (.cons (.var 3) (.cons (.lit (.int 65536)) .nil)))) .nil)) .nil) .nil)
def b1_law_draws : Ss := (.cons (.asg (.nm 3) (.op .abs (.cons (.op .idx (.cons (.var 0) (.cons (.var 2) .nil))) .nil))) (.cons (.iff (.op .ge (.cons (.var 3) (.cons (.op .pow (.cons (.lit (.int 10)) (.cons (.lit (.int 18)) .nil))) .nil))) (.cons (.for_ (.nm 4) (.rng1 (.lit (.int 60))) b0_law_draws [4]) (.cons (.kill [3, 4, 5]) .nil)) (.cons (.asg (.nm 5) (.op .mod (.cons (.op .int (.cons (.op .add (.cons (.op .mul (.cons (.var 3) (.cons (.lit (.int 48271)) .nil))) (.cons (.op .mul (.cons (.op .add (.cons (.var 2) (.cons (.lit (.int 1)) .nil))) (.cons (.lit (.int 69621)) .nil))) .nil))) .nil)) (.cons (.lit (.int 2147483647)) .nil)))) (.cons (.asg (.nm 5) (.op .mod (.cons (.op .int (.cons (.op .add (.cons (.op .add (.cons (.op .mul (.cons (.var 5) (.cons (.lit (.int 16807)) .nil))) (.cons (.op .mul (.cons (.lit (.int 11)) (.cons (.var 2) .nil))) .nil))) (.cons (.lit (.int 5)) .nil))) .nil)) (.cons (.lit (.int 2147483629)) .nil)))) (.cons (.app 1 (.op .mod (.cons (.op .int (.cons (.var 5) .nil)) (.cons (.lit (.int 65536)) .nil)))) (.cons (.app 1 (.op .mod (.cons (.op .int (.cons (.op .fdiv (.cons (.var 5) (.cons (.lit (.int 65536)) .nil))) .nil)) (.cons (.lit (.int 32768)) .nil)))) (.cons (.kill [3, 4, 5]) .nil)))))) .nil))
def fd_law_draws : Fd := ⟨1, 6, (.cons (.asg (.nm 1) (.lst .nil)) (.cons (.for_ (.nm 2) (.rng1 (.op .min2 (.cons (.lit (.int 63)) (.cons (.op .len (.cons (.var 0) .nil)) .nil)))) b1_law_draws [2, 3, 4, 5]) (.cons (.ret (.var 1)) .nil)))⟩
def df_law_draws : Df := ⟨"_law_draws", ["script"], ["script", "draws", "k", "rest", "turn", "mixed"], defArgs (topS 23), defBody (topS 23), defScope (topS 23), fd_law_draws, fun _ _ _ _ _ _ us hl => match us, hl with | [_], _ => rfl⟩
def fd_law_mix : Fd := ⟨3, 4, (.cons (.asg (.nm 3) (.lit (.int 0))) (.cons (.iff (.op .gt (.cons (.op .len (.cons (.var 0) .nil)) (.cons (.lit (.int 0)) .nil))) (.cons (.asg (.nm 3) (.op .idx (.cons (.var 0) (.cons (.op .mod (.cons (.op .int (.cons (.var 1) .nil)) (.cons (.op .len (.cons (.var 0) .nil)) .nil))) .nil)))) .nil) .nil) (.cons (.iff (.op .lt (.cons (.var 1) (.cons (.op .len (.cons (.var 0) .nil)) .nil))) (.cons (.ret (.op .mod (.cons (.op .int (.cons (.var 3) .nil)) (.cons (.var 2) .nil)))) .nil) .nil) (.cons (.ret (.op .mod (.cons (.op .int (.cons (.op .fdiv (.cons (.op .int (.cons (.op .add (.cons (.op .mul (.cons (.var 3) (.cons (.lit (.int 7919)) .nil))) (.cons (.op .mul (.cons (.var 1) (.cons (.lit (.int 104729)) .nil))) .nil))) .nil)) (.cons (.lit (.int 3)) .nil))) .nil)) (.cons (.var 2) .nil)))) .nil))))⟩
def df_law_mix : Df := ⟨"_law_mix", ["draws", "k", "many"], ["draws", "k", "many", "value"], defArgs (topS 24), defBody (topS 24), defScope (topS 24), fd_law_mix, fun _ _ _ _ _ _ us hl => match us, hl with | [_, _, _], _ => rfl⟩
def b0_law_deeds : Ss := (.cons (.asg (.nm 6) (.op .add (.cons (.op .add (.cons (.var 1) (.cons (.lit (.int 1)) .nil))) (.cons (.op .mul (.cons (.lit (.int 4)) (.cons (.var 3) .nil))) .nil)))) (.cons (.asg (.nm 7) (.call 10 (.cons (.var 0) (.cons (.var 6) (.cons (.var 2) .nil))))) (.cons (.asg (.nm 8) (.op .add (.cons (.var 7) (.cons (.call 10 (.cons (.var 0) (.cons (.op .add (.cons (.var 6) (.cons (.lit (.int 1)) .nil))) (.cons (.op .sub (.cons (.var 2) (.cons (.var 7) .nil))) .nil)))) .nil)))) (.cons (.asg (.nm 9) (.op .min1 (.cons (.op (.slc true true) (.cons (.var 5) (.cons (.var 7) (.cons (.op .add (.cons (.var 8) (.cons (.lit (.int 1)) .nil))) .nil)))) .nil))) (.cons (.iff (.or_ (.op .eq (.cons (.var 9) (.cons (.lit (.int 0)) .nil))) (.op .lt (.cons (.call 10 (.cons (.var 0) (.cons (.op .add (.cons (.var 6) (.cons (.lit (.int 2)) .nil))) (.cons (.lit (.int 5)) .nil)))) (.cons (.lit (.int 3)) .nil)))) (.cons (.app 4 (.tup (.cons (.lit (.str "lay")) (.cons (.op .add (.cons (.lit (.int 1)) (.cons (.call 10 (.cons (.var 0) (.cons (.op .add (.cons (.var 6) (.cons (.lit (.int 3)) .nil))) (.cons (.op .idx (.cons (.lst (.cons (.lit (.int 2)) (.cons (.lit (.int 9)) .nil))) (.cons (.call 10 (.cons (.var 0) (.cons (.lit (.int 1)) (.cons (.lit (.int 2)) .nil)))) .nil))) .nil)))) .nil))) .nil)))) (.cons (.asg (.nm 5) (.lc [11] (.op .add (.cons (.var 11) (.cons (.lit (.int 1)) .nil))) (.nm 11) (.ex (.var 5)) .nil)) (.cons (.kill [10]) .nil))) (.cons (.asg (.nm 10) (.op .add (.cons (.lit (.int 1)) (.cons (.call 10 (.cons (.var 0) (.cons (.op .add (.cons (.var 6) (.cons (.lit (.int 3)) .nil))) (.cons (.var 9) .nil)))) .nil)))) (.cons (.app 4 (.tup (.cons (.lit (.str "cut")) (.cons (.var 7) (.cons (.var 8) (.cons (.var 10) .nil)))))) (.cons (.asg (.nm 5) (.lc [12] (.op .sub (.cons (.op .idx (.cons (.var 5) (.cons (.var 12) .nil))) (.cons (.op .mul (.cons (.var 10) (.cons (.op .int (.cons (.chain (.var 7) .le (.var 12) (.one .le (.var 8))) .nil)) .nil))) .nil))) (.nm 12) (.rng1 (.var 2)) .nil)) (.cons (.kill [10]) .nil))))) .nil)))))
def fd_law_deeds : Fd := ⟨3, 13, (.cons (.asg (.tp (.cons (.nm 4) (.cons (.nm 5) .nil))) (.tup (.cons (.lst .nil) (.cons (.op .mul (.cons (.lst (.cons (.lit (.int 0)) .nil)) (.cons (.var 2) .nil))) .nil)))) (.cons (.for_ (.nm 3) (.rng1 (.call 10 (.cons (.var 0) (.cons (.var 1) (.cons (.lit (.int 41)) .nil))))) b0_law_deeds [3, 6, 7, 8, 9, 10]) (.cons (.ret (.var 4)) .nil)))⟩
def df_law_deeds : Df := ⟨"_law_deeds", ["draws", "k", "width"], ["draws", "k", "width", "t", "found", "high", "at", "first", "last", "low", "depth", "one", "c"], defArgs (topS 25), defBody (topS 25), defScope (topS 25), fd_law_deeds, fun _ _ _ _ _ _ us hl => match us, hl with | [_, _, _], _ => rfl⟩
def b0_law : Ss := (.cons (.iff (.op .eq (.cons (.var 17) (.cons (.var 7) .nil))) (.cons (.asg (.nm 14) (.op .add (.cons (.var 14) (.cons (.var 18) .nil)))) .nil) .nil) .nil)
def b1_law : Ss := (.cons (.for_ (.tp (.cons (.nm 17) (.cons (.nm 18) .nil))) (.ex (.var 15)) b0_law [17, 18]) .nil)
def b2_law : Ss := (.cons (.asg (.nm 14) (.op .list (.cons (.op .idx (.cons (.var 6) (.cons (.var 7) .nil))) .nil))) (.cons (.forT 12 (.nm 15) b1_law [0, 15, 17, 18]) (.cons (.iff (.op .ne (.cons (.op .sorted (.cons (.var 14) .nil)) (.cons (.op .sorted (.cons (.var 9) .nil)) .nil))) (.cons (.ret (.lit (.bool false))) .nil) .nil) .nil)))
def b3_law : Ss := (.cons (.app 15 (.tup (.cons (.var 7) (.cons (.lc [19, 20] (.var 19) (.tp (.cons (.nm 19) (.cons (.nm 20) .nil))) (.ex (.op (.slc true false) (.cons (.op .idx (.cons (.var 8) (.cons (.var 7) .nil))) (.cons (.op .neg (.cons (.op .idx (.cons (.var 5) (.cons (.lit (.int 3)) .nil))) .nil)) .nil)))) .nil) .nil)))) (.cons (.setI 8 (.var 7) (.op (.slc false true) (.cons (.op .idx (.cons (.var 8) (.cons (.var 7) .nil))) (.cons (.op .neg (.cons (.op .idx (.cons (.var 5) (.cons (.lit (.int 3)) .nil))) .nil)) .nil)))) .nil))
def b4_law : Ss := (.cons (.iff (.op .eq (.cons (.op .idx (.cons (.var 5) (.cons (.lit (.int 0)) .nil))) (.cons (.lit (.str "lay")) .nil))) (.cons (.asg (.nm 8) (.lc [16] (.op .add (.cons (.var 16) (.cons (.lst (.cons (.tup (.cons (.op .idx (.cons (.var 5) (.cons (.lit (.int 1)) .nil))) (.cons (.op .len (.cons (.var 9) .nil)) .nil))) .nil)) .nil))) (.nm 16) (.ex (.var 8)) .nil)) (.cons (.app 9 (.op .idx (.cons (.var 5) (.cons (.lit (.int 1)) .nil)))) (.cons (.kill [7, 15]) .nil))) (.cons (.asg (.nm 15) (.lst .nil)) (.cons (.for_ (.nm 7) (.rng2 (.op .idx (.cons (.var 5) (.cons (.lit (.int 1)) .nil))) (.op .add (.cons (.op .idx (.cons (.var 5) (.cons (.lit (.int 2)) .nil))) (.cons (.lit (.int 1)) .nil)))) b3_law [7]) (.cons (.appM 10 15) (.cons (.kill [7, 15]) .nil))))) .nil)
def fd_law : Fd := ⟨1, 21, (.cons (.asg (.nm 1) (.call 9 (.cons (.var 0) .nil))) (.cons (.asg (.nm 2) (.op .add (.cons (.lit (.int 1)) (.cons (.call 10 (.cons (.var 1) (.cons (.lit (.int 0)) (.cons (.lit (.int 4)) .nil)))) .nil)))) (.cons (.asg (.nm 3) (.call 11 (.cons (.var 1) (.cons (.lit (.int 10)) (.cons (.var 2) .nil))))) (.cons (.asg (.nm 4) (.op .repr (.cons (.var 3) .nil))) (.cons (.asg (.tp (.cons (.nm 8) (.cons (.nm 9) (.cons (.nm 10) .nil)))) (.tup (.cons (.lc [7] (.lst .nil) (.nm 7) (.rng1 (.var 2)) .nil) (.cons (.lst .nil) (.cons (.lst .nil) .nil))))) (.cons (.forT 3 (.nm 5) b4_law [0, 5, 7, 15]) (.cons (.asg (.nm 6) (.lc [16] (.lc [19, 20] (.var 19) (.tp (.cons (.nm 19) (.cons (.nm 20) .nil))) (.ex (.var 16)) .nil) (.nm 16) (.ex (.var 8)) .nil)) (.cons (.par3 11 12 13 (.call 3 (.cons (.var 2) (.cons (.var 3) .nil))) (.call 4 (.cons (.var 2) (.cons (.var 3) .nil))) (.call 5 (.cons (.var 2) (.cons (.var 3) .nil)))) (.cons (.iff (.or_ (.op .ne (.cons (.op .repr (.cons (.var 11) .nil)) (.cons (.op .repr (.cons (.var 6) .nil)) .nil))) (.or_ (.op .ne (.cons (.op .repr (.cons (.var 12) .nil)) (.cons (.op .repr (.cons (.var 10) .nil)) .nil))) (.op .ne (.cons (.op .repr (.cons (.var 13) .nil)) (.cons (.op .repr (.cons (.tup (.cons (.var 9) (.cons (.lc [16] (.lc [19, 20] (.var 20) (.tp (.cons (.nm 19) (.cons (.nm 20) .nil))) (.ex (.var 16)) .nil) (.nm 16) (.ex (.var 8)) .nil) .nil))) .nil)) .nil))))) (.cons (.ret (.lit (.bool false))) .nil) .nil) (.cons (.iff (.and_ (.op .le (.cons (.op .max1 (.cons (.lc [16] (.op .len (.cons (.var 16) .nil)) (.nm 16) (.ex (.var 6)) .nil) .nil)) (.cons (.lit (.int 6)) .nil))) (.op .isnt (.cons (.call 8 (.cons (.var 6) (.cons (.op .idx (.cons (.var 13) (.cons (.lit (.int 0)) .nil))) (.cons (.op .idx (.cons (.var 13) (.cons (.lit (.int 1)) .nil))) .nil)))) (.cons (.lit (.bool true)) .nil)))) (.cons (.ret (.lit (.bool false))) .nil) .nil) (.cons (.for_ (.nm 7) (.rng1 (.var 2)) b2_law [7, 14, 15, 17, 18]) (.cons (.iff (.op .ne (.cons (.op (.slc false true) (.cons (.op .idx (.cons (.call 3 (.cons (.var 2) (.cons (.op .add (.cons (.var 3) (.cons (.op .mul (.cons (.lst (.cons (.tup (.cons (.lit (.str "lay")) (.cons (.lit (.int 9)) .nil))) .nil)) (.cons (.op .int (.cons (.op .lt (.cons (.op .len (.cons (.var 3) .nil)) (.cons (.lit (.int 40)) .nil))) .nil)) .nil))) .nil))) .nil))) (.cons (.lit (.int 0)) .nil))) (.cons (.op .len (.cons (.op .idx (.cons (.var 6) (.cons (.lit (.int 0)) .nil))) .nil)) .nil))) (.cons (.op .idx (.cons (.var 6) (.cons (.lit (.int 0)) .nil))) .nil))) (.cons (.ret (.lit (.bool false))) .nil) .nil) (.cons (.appK 11 [0] (.lit (.int 0))) (.cons (.appK 13 [0, 1] (.lit (.int 0))) (.cons (.app 12 (.lst .nil)) (.cons (.ret (.and_ (.op .eq (.cons (.call 3 (.cons (.var 2) (.cons (.var 3) .nil))) (.cons (.var 6) .nil))) (.and_ (.op .eq (.cons (.op .idx (.cons (.call 5 (.cons (.var 2) (.cons (.var 3) .nil))) (.cons (.lit (.int 0)) .nil))) (.cons (.var 9) .nil))) (.and_ (.op .eq (.cons (.call 4 (.cons (.var 2) (.cons (.var 3) .nil))) (.cons (.var 10) .nil))) (.op .eq (.cons (.op .repr (.cons (.var 3) .nil)) (.cons (.var 4) .nil))))))) .nil))))))))))))))))⟩
def df_law : Df := ⟨"law", ["script"], ["script", "draws", "width", "deeds", "kept", "deed", "section", "c", "columns", "lays", "rows", "told", "some", "account", "every", "part", "column", "there", "marks", "mark", "number"], defArgs (topS 26), defBody (topS 26), defScope (topS 26), fd_law, fun _ _ _ _ _ _ us hl => match us, hl with | [_], _ => rfl⟩
def tx : Tx := ⟨[df_is_deed, df_done, df_all_behind, df_run, df_taken, df_account_of, df_check_section, df_is_right, df_is_account, df_law_draws, df_law_mix, df_law_deeds, df_law], ["len", "abs", "int", "sorted", "list", "repr", "all", "min", "max", "range", "enumerate", "zip"], false, [("MOST_COLUMNS", (.int 4)), ("MOST_DEEDS", (.int 40)), ("MOST_MARK", (.int 9)), ("MOST_MARKS", (.int 6))]⟩
def T : Nat → Option Fd
  | 0 => some fd_is_deed
  | 1 => some fd_done
  | 2 => some fd_all_behind
  | 3 => some fd_run
  | 4 => some fd_taken
  | 5 => some fd_account_of
  | 6 => some fd_check_section
  | 7 => some fd_is_right
  | 8 => some fd_is_account
  | 9 => some fd_law_draws
  | 10 => some fd_law_mix
  | 11 => some fd_law_deeds
  | 12 => some fd_law
  | _ => none
theorem tT : tx.T = T := by
  funext j
  match j with
  | 0 => rfl
  | 1 => rfl
  | 2 => rfl
  | 3 => rfl
  | 4 => rfl
  | 5 => rfl
  | 6 => rfl
  | 7 => rfl
  | 8 => rfl
  | 9 => rfl
  | 10 => rfl
  | 11 => rfl
  | 12 => rfl
  | j + 13 => rfl
theorem tx_ok : tx.ds.all (chkDf tx) = true := by decide +kernel
/-! ### the head -/
abbrev rowZ : PySem.W.OpenRow := PySem.W.OpenLaw.row PySem.Challenge.rw_dugtold_k10_whole_deeds_and_sections
abbrev hkZ : PySem.W.Hook := hookZ 4 tx
def obz (s : PySem.W.SharedT) : He.AlD × Bool := obZ 4 tx (HandSHeadRun.getT s)
theorem obz_eq (s : PySem.W.SharedT) : obz s = hkZ.obs s.abs := obZ_eq (HandSHeadRun.getT_eq s)
def nm0 : List PySem.Str := ["DigError", "OutOfRange", "TooMany", "WrongSize", "BadDeed", "BadColumn", "MOST_COLUMNS", "MOST_DEEDS", "MOST_MARK", "is_deed", "done", "all_behind", "run", "taken", "account_of", "MOST_MARKS", "check_section", "is_right", "is_account", "_law_draws", "_law_mix", "_law_deeds"]
abbrev names : List PySem.Str := nm0
theorem headRun (w : World) : HandSHeadRun.RunEq rowZ (PySem.W.view rowZ.prog [26]) hkZ obz 6000 names w := by
  intro os
  kernel_rfl
end Cl
/-! KM10: deeds on columns. -/
namespace Cl
inductive Deed where
  | lay (m : Nat)
  | cut (f l d : Nat)
  deriving DecidableEq
abbrev Mk := Nat × Nat
abbrev Col := List Mk
def inC (f l c : Nat) : Bool := decide (f ≤ c) && decide (c ≤ l)
def cutC (f l d : Nat) (c : Nat) (col : Col) : Col := if inC f l c = true then col.take (col.length - d) else col
def stepD (cs : List Col) (n : Nat) : Deed → List Col
  | .lay m => cs.map fun col => col ++ [(m, n)]
  | .cut f l d => cs.mapIdx (cutC f l d)
def lays : List Deed → List Nat
  | [] => []
  | .lay m :: r => m :: lays r
  | .cut _ _ _ :: r => lays r
def St (w : Nat) (ds : List Deed) : List Col × Nat := ds.foldl (fun s d => (stepD s.1 s.2 d, s.2 + (match d with | .lay _ => 1 | _ => 0))) (List.replicate w [], 0)
theorem lays_app : ∀ a b : List Deed, lays (a ++ b) = lays a ++ lays b
  | [], _ => rfl
  | .lay m :: a, b => by show m :: lays (a ++ b) = _; rw [lays_app a b]; rfl
  | .cut _ _ _ :: a, b => by show lays (a ++ b) = _; rw [lays_app a b]; rfl
theorem St_snoc (w : Nat) (ds : List Deed) (d : Deed) : St w (ds ++ [d]) = (stepD (St w ds).1 (St w ds).2 d, (St w ds).2 + (match d with | .lay _ => 1 | _ => 0)) := by
  unfold St
  rw [List.foldl_append]
  rfl
theorem snoc_ind {α : Type} (P : List α → Prop) (h0 : P []) (hs : ∀ l a, P l → P (l ++ [a])) : ∀ l, P l := by
  intro l
  rw [← List.reverse_reverse l]
  induction l.reverse with
  | nil => exact h0
  | cons a r ih => rw [List.reverse_cons]; exact hs _ _ ih
theorem St_num (w : Nat) : ∀ ds : List Deed, (St w ds).2 = (lays ds).length := by
  refine snoc_ind _ rfl fun l a ih => ?_
  rw [St_snoc, lays_app, List.length_append, ih]
  cases a <;> rfl
theorem step_len (cs : List Col) (n : Nat) (d : Deed) : (stepD cs n d).length = cs.length := by
  cases d with
  | lay m => exact List.length_map _
  | cut f l d => exact List.length_mapIdx
theorem St_len (w : Nat) : ∀ ds : List Deed, (St w ds).1.length = w := by
  refine snoc_ind _ (List.length_replicate) fun l a ih => ?_
  rw [St_snoc, step_len]
  exact ih
/-- a deed that can be done -/
def okD (w : Nat) (cs : List Col) : Deed → Prop
  | .lay m => 1 ≤ m ∧ m ≤ 9
  | .cut f l d => f ≤ l ∧ l < w ∧ 1 ≤ d ∧ ∀ c col, cs[c]? = some col → inC f l c = true → d ≤ col.length
def okAll (w : Nat) (ds : List Deed) : Prop := ∀ i d, ds[i]? = some d → okD w (St w (ds.take i)).1 d
theorem okAll_snoc {w : Nat} {ds : List Deed} {d : Deed} (h : okAll w ds) (hd : okD w (St w ds).1 d) : okAll w (ds ++ [d]) := by
  intro i e he
  rcases Nat.lt_or_ge i ds.length with q | q
  · rw [List.getElem?_append_left q] at he
    rw [List.take_append_of_le_length (by omega)]
    exact h i e he
  · rw [List.getElem?_append_right q] at he
    have : i - ds.length = 0 := by
      rcases Nat.eq_zero_or_pos (i - ds.length) with z | z
      · exact z
      · rw [List.getElem?_eq_none (by simp; omega)] at he
        cases he
    have ei : i = ds.length := by omega
    rw [this] at he
    have : d = e := by simpa using he
    rw [← this, ei, List.take_left]
    exact hd
/-- what the columns keep: the numbers rise, and tell the lays -/
def colOk (ls : List Nat) (col : Col) : Prop := col.Pairwise (fun a b => a.2 < b.2) ∧ ∀ m ∈ col, ls[m.2]? = some m.1
theorem colOk_take {ls : List Nat} {col : Col} (h : colOk ls col) (n : Nat) : colOk ls (col.take n) := ⟨h.1.sublist (List.take_sublist n col), fun m hm => h.2 m (List.mem_of_mem_take hm)⟩
theorem colOk_lay {ls : List Nat} {col : Col} (h : colOk ls col) (m : Nat) : colOk (ls ++ [m]) (col ++ [(m, ls.length)]) := by
  have lt : ∀ a ∈ col, a.2 < ls.length := fun a ha => (List.getElem?_eq_some_iff.mp (h.2 a ha)).1
  constructor
  · rw [List.pairwise_append]
    refine ⟨h.1, by simp, fun a ha b hb => ?_⟩
    have : b = (m, ls.length) := by simpa using hb
    rw [this]
    exact lt a ha
  · intro a ha
    rcases List.mem_append.mp ha with z | z
    · rw [List.getElem?_append_left (lt a z)]
      exact h.2 a z
    · have : a = (m, ls.length) := by simpa using z
      rw [this]
      show (ls ++ [m])[ls.length]? = some m
      rw [List.getElem?_append_right (Nat.le_refl _), Nat.sub_self]
      rfl
theorem St_colOk (w : Nat) : ∀ ds : List Deed, ∀ col ∈ (St w ds).1, colOk (lays ds) col := by
  refine snoc_ind _ (fun col h => ?_) fun l a ih col h => ?_
  · have : col = [] := by
      have := List.eq_of_mem_replicate h
      exact this
    rw [this]
    exact ⟨List.Pairwise.nil, fun m hm => by cases hm⟩
  · rw [St_snoc] at h
    cases a with
    | lay m =>
      obtain ⟨c0, h0, rfl⟩ := List.mem_map.mp h
      rw [lays_app, St_num]
      exact colOk_lay (ih c0 h0) m
    | cut f l2 d =>
      rw [lays_app]
      show colOk (lays l ++ []) col
      rw [List.append_nil]
      obtain ⟨i, hi, rfl⟩ := List.mem_mapIdx.mp h
      unfold cutC
      split
      · exact colOk_take (ih _ (List.getElem_mem hi)) _
      · exact ih _ (List.getElem_mem hi)
def marks (col : Col) : List Nat := col.map (·.1)
def partOf (cs : List Col) (f l d : Nat) : List (Nat × List Nat) := (List.range (l + 1 - f)).map fun i => (f + i, marks ((cs.getD (f + i) []).drop ((cs.getD (f + i) []).length - d)))
def tkD (cs : List Col) : Deed → List (List (Nat × List Nat))
  | .lay _ => []
  | .cut f l d => [partOf cs f l d]
def tk (w : Nat) (ds : List Deed) : List (List (Nat × List Nat)) := (List.range ds.length).flatMap fun i => match ds[i]? with
  | some d => tkD (St w (ds.take i)).1 d
  | none => []
theorem tk_snoc (w : Nat) (ds : List Deed) (d : Deed) : tk w (ds ++ [d]) = tk w ds ++ tkD (St w ds).1 d := by
  unfold tk
  rw [List.length_append, List.length_singleton, List.range_succ, List.flatMap_append]
  congr 1
  · rw [List.flatMap_def, List.flatMap_def]
    congr 1
    apply List.map_congr_left
    intro i hi
    have hi' := List.mem_range.mp hi
    rw [List.getElem?_append_left hi', List.take_append_of_le_length (by omega)]
  · rw [List.flatMap_cons, List.flatMap_nil, List.append_nil, List.getElem?_append_right (Nat.le_refl _), Nat.sub_self, List.take_left]
    rfl
def atC (c : Nat) (q : Nat × List Nat) : List Nat := if q.1 = c then q.2 else []
def everyC (w : Nat) (ds : List Deed) (c : Nat) : List Nat := marks ((St w ds).1.getD c []) ++ (tk w ds).flatMap fun part => part.flatMap (atC c)
theorem part_at (cs : List Col) (f l d c : Nat) (h : f ≤ l) : (partOf cs f l d).flatMap (atC c) = if inC f l c = true then marks ((cs.getD c []).drop ((cs.getD c []).length - d)) else [] := by
  unfold partOf
  rw [List.flatMap_map]
  have gen : ∀ n, (List.range n).flatMap (fun i => atC c (f + i, marks ((cs.getD (f + i) []).drop ((cs.getD (f + i) []).length - d)))) = if f ≤ c ∧ c < f + n then marks ((cs.getD c []).drop ((cs.getD c []).length - d)) else [] := by
    intro n
    induction n with
    | zero => rw [if_neg (by omega)]; rfl
    | succ n ih =>
      rw [List.range_succ, List.flatMap_append, ih, List.flatMap_cons, List.flatMap_nil, List.append_nil]
      unfold atC
      dsimp only
      by_cases q : f + n = c
      · rw [if_neg (by omega), if_pos q, if_pos (by omega), q, List.nil_append]
      · rw [if_neg q, List.append_nil]
        by_cases r : f ≤ c ∧ c < f + n
        · rw [if_pos r, if_pos (by omega)]
        · rw [if_neg r, if_neg (by omega)]
  rw [gen]
  unfold inC
  by_cases q : f ≤ c ∧ c ≤ l
  · rw [if_pos (by omega), if_pos (by simp [q])]
  · rw [if_neg (by omega), if_neg (by simp; omega)]
theorem every_perm (w c : Nat) (hc : c < w) : ∀ ds : List Deed, okAll w ds → List.Perm (everyC w ds c) (lays ds) := by
  refine snoc_ind _ (fun _ => ?_) fun l a ih ho => ?_
  · unfold everyC tk St
    have : (List.replicate w ([] : Col)).getD c [] = [] := by
      rw [List.getD_eq_getElem?_getD, List.getElem?_replicate]
      split <;> rfl
    show List.Perm (marks ((List.replicate w ([] : Col)).getD c []) ++ []) []
    rw [this]
    exact List.Perm.refl _
  · have hol : okAll w l := fun i d hd => by
      have hi := (List.getElem?_eq_some_iff.mp hd).1
      have := ho i d (by rw [List.getElem?_append_left hi]; exact hd)
      rwa [List.take_append_of_le_length (by omega)] at this
    have hoa : okD w (St w l).1 a := by
      have := ho l.length a (by rw [List.getElem?_append_right (Nat.le_refl _), Nat.sub_self]; rfl)
      rwa [List.take_left] at this
    have ih := ih hol
    have hl := St_len w l
    unfold everyC at ih ⊢
    rw [tk_snoc, List.flatMap_append, lays_app, St_snoc]
    have gc : (St w l).1[c]? = some ((St w l).1.getD c []) := by
      rw [List.getD_eq_getElem?_getD, List.getElem?_eq_getElem (by omega)]
      rfl
    generalize (tk w l).flatMap (fun part => part.flatMap (atC c)) = T at *
    generalize (St w l).2 = n at *
    generalize (St w l).1 = cs at *
    generalize hcol : cs.getD c [] = col at *
    cases a with
    | lay m =>
      have e : (stepD cs n (.lay m)).getD c [] = col ++ [(m, n)] := by
        unfold stepD
        rw [List.getD_eq_getElem?_getD, List.getElem?_map, gc]
        rfl
      rw [e]
      show List.Perm (marks (col ++ [(m, n)]) ++ (T ++ [])) (lays l ++ [m])
      unfold marks at ih ⊢
      rw [List.map_append, List.append_nil, List.append_assoc]
      refine List.Perm.trans (List.Perm.append_left _ (List.perm_append_comm)) ?_
      rw [← List.append_assoc]
      exact List.Perm.append_right _ ih
    | cut f l2 d =>
      obtain ⟨o1, o2, o3, o4⟩ := hoa
      have e : (stepD cs n (.cut f l2 d)).getD c [] = cutC f l2 d c col := by
        unfold stepD
        rw [List.getD_eq_getElem?_getD, List.getElem?_mapIdx, gc]
        rfl
      rw [e]
      show List.Perm (marks (cutC f l2 d c col) ++ (T ++ ((partOf cs f l2 d).flatMap (atC c) ++ []))) (lays l ++ [])
      rw [List.append_nil, List.append_nil, part_at _ _ _ _ _ o1, hcol]
      unfold cutC
      by_cases q : inC f l2 c = true
      · rw [if_pos q, if_pos q]
        unfold marks at ih ⊢
        refine List.Perm.trans (List.Perm.append_left _ (List.perm_append_comm)) ?_
        rw [← List.append_assoc, ← List.map_append, List.take_append_drop]
        exact ih
      · rw [if_neg q, if_neg q, List.append_nil]
        exact ih
end Cl
namespace Cl
open PySem L2 Z
/-! ### k10: the plain law -/
section
variable {Φ : Fn} {W : Nat}
def encM (m : Mk) : D := .tuple [.int (m.1 : Int), .int (m.2 : Int)]
def encCol (c : Col) : D := .list (c.map encM)
def encCols (cs : List Col) : D := .list (cs.map encCol)
def encD : Deed → D
  | .lay m => .tuple [.str "lay", .int (m : Int)]
  | .cut f l d => .tuple [.str "cut", .int (f : Int), .int (l : Int), .int (d : Int)]
def encDs (ds : List Deed) : D := .list (ds.map encD)
theorem flatD (d : Deed) : flat (encD d) = true := by cases d <;> rfl
theorem flatM (m : Mk) : flat (encM m) = true := rfl
theorem shS (s : String) : shapedB (.str (Str.ofString s)) = true := by
  unfold shapedB
  simp [SeqAt.shaped, PyData.canLay0, PyData.depth, ok_str]
theorem eq_lay (g h : List Tag) : opR .eq [(.str "lay", g), (.str "lay", h)] = some (.bool true, .sh []) := by
  have e : (shapedB (.str "lay") && shapedB (.str "lay")) = true := by simp only [shS, Bool.and_self]
  have e2 : PyData.eqv (.str "lay") (.str "lay") = true := eqv_str
  simp only [opR, opF, List.map, oEq, e, if_true, e2, nmS_boolD]
theorem eq_cutlay (g h : List Tag) : opR .eq [(.str "cut", g), (.str "lay", h)] = some (.bool false, .sh []) := by
  have e : (shapedB (.str "cut") && shapedB (.str "lay")) = true := by simp only [shS, Bool.and_self]
  have e2 : PyData.eqv (.str "cut") (.str "lay") = false := by unfold PyData.eqv; decide
  simp only [opR, opF, List.map, oEq, e, if_true, e2, nmS_boolD]
theorem eq_laycut (g h : List Tag) : opR .eq [(.str "lay", g), (.str "cut", h)] = some (.bool false, .sh []) := by
  have e : (shapedB (.str "lay") && shapedB (.str "cut")) = true := by simp only [shS, Bool.and_self]
  have e2 : PyData.eqv (.str "lay") (.str "cut") = false := by unfold PyData.eqv; decide
  simp only [opR, opF, List.map, oEq, e, if_true, e2, nmS_boolD]
theorem eq_cut (g h : List Tag) : opR .eq [(.str "cut", g), (.str "cut", h)] = some (.bool true, .sh []) := by
  have e : (shapedB (.str "cut") && shapedB (.str "cut")) = true := by simp only [shS, Bool.and_self]
  have e2 : PyData.eqv (.str "cut") (.str "cut") = true := eqv_str
  simp only [opR, opF, List.map, oEq, e, if_true, e2, nmS_boolD]
theorem a4_0 {a b c d : D} : atD [a, b, c, d] 0 = some a := rfl
theorem a4_1 {a b c d : D} : atD [a, b, c, d] 1 = some b := rfl
theorem a4_2 {a b c d : D} : atD [a, b, c, d] 2 = some c := rfl
theorem a4_3 {a b c d : D} : atD [a, b, c, d] 3 = some d := rfl
def okS (w : Nat) : Deed → Prop
  | .lay m => 1 ≤ m ∧ m ≤ 9
  | .cut f l d => f ≤ l ∧ l < w ∧ 1 ≤ d
theorem okS_of {w : Nat} {cs : List Col} {d : Deed} (h : okD w cs d) : okS w d := by
  cases d with
  | lay m => exact h
  | cut f l d => exact ⟨h.1, h.2.1, h.2.2.1⟩
theorem is_deed_ok (w : Nat) (d : Deed) (h : okS w d) : runFd Φ W fd_is_deed [.int (w : Int), encD d] = some (.bool true, 0) := by
  unfold fd_is_deed
  refine (run_fd (by rfl)).trans ?_
  cases d with
  | lay m =>
    obtain ⟨h1, h2⟩ := h
    have c1 : (1 : Int) ≤ (m : Int) := by omega
    have c2 : (m : Int) ≤ 9 := by omega
    unfold encD
    simp -implicitDefEqProofs only [List.map, param, List.length_cons, List.length_nil, s_cons, s_nil, s_iff, s_asg, s_par, s_drop, s_app, s_for, s_whl, s_kill, s_brk, s_cnt, s_pass, s_nev, s_retv, s_retN, r_lit, r_con, r_op, r_call, r_and, r_or, r_ife, r_chain, r_lst, r_tup, r_lc, rv, y_op, y_call, y_and, y_or, y_ife, y_chain, y_one, y_more, y_lst, y_tup, y_nil, y_cons, y_pnil, y_pcons, y_var, y_lit, y_con, y_ex, y_rng1, y_rng2, y_enum, y_zip, Nat.sub_self, List.replicate, List.cons_append, List.nil_append, List.append_nil, List.getElem?_cons_zero, List.getElem?_cons_succ, vr_sh, vr_own, vr_top, Option.bind_some, Option.map_some, Option.bind_none, Option.map_none, f_le, f_lt, f_gt, f_ge, boolD_some, cho_some, nmS_boolD, nmS_int, nmS_str, nmS_none, nmS_nil, Nat.reduceSub, Nat.reduceAdd, Nat.reduceLT, Nat.reduceLeDiff, ite_b, ite_true, ite_false, if_true, if_false, Bool.false_eq_true, o_neg', o_not', o_add', o_sub', o_mul', o_div', o_mod', o_abs', o_int', o_intb', o_min', o_max', o_gcd', o_lt', o_le', o_gt', o_ge', o_eq', o_ne', o_lenl, o_lent, o_idxl, o_idxt, o_isn', o_isnn', t_bool, t_int, nxt_nx, nxt_rt, nxt_bk, nxt_ct, nxt_if, rb_rt, rb_nx, rb_if, p_nm, p_tup, p_lst, p_nil, p_cons, cmO, c_nm, c_tup, c_lst, c_nil, c_cons, stO, Ow.tags, frz_n, frz_c, ff_nil, ff_cons, f1_none, f1_sh, f1_top, f1_own, w_nil, w_cons, List.set_cons_zero, List.set_cons_succ, intD, lstD, lvl, forF, whlC, lcF, and_self, Bool.not_eq_true', decide_eq_true_eq, decide_eq_false_iff_not, Bool.and_eq_true, Bool.and_eq_false_imp, and_true, true_and, own_q, oq_own, oq_top, put_o, put_t, io_int, io_bool, io_str, io_own, hasT_n, hasT_c, Nat.reduceBEq, Bool.false_and, Bool.and_false, Bool.true_and, Bool.and_true, Bool.or_false, Bool.false_or, Bool.or_true, Bool.true_or, beq_self_eq_true, not_true_eq_false, not_false_eq_true, List.append_assoc, dl_e, dt_e, ta_n, ta_c, List.all_cons, List.all_nil, Nat.zero_le, call_q, cq_0, cq_1, cq_2, atD_0, atD_1, vr_pair, nmS_pair, si_list, si_tup, y_lc, reduceCtorEq, y_tcons, y_tnil, ite_sb, pk_var, pq_sh, pq_top, pq_own, pk_op, pk_call, pk_lit, pk_con, pk_lst, pk_tup, pk_lc, pk_ife, pk_or, pk_and, nmS_list, nmT_ints, nmT_snoc, vr_int, vr_bool, vr_str, vr_none, o_rev, o_slc1, t_none, t_list, t_tup, isn_none, isn_int, isn_tup, isn_list, isn_bool, io_none, o_addl, List.isEmpty_cons, List.isEmpty_nil, s_par3, s_appK, s_ret2, r2_own, s_appM, s_forT, io_lsh, io_top, bq_ft, bq_tf, eq_lay, c1, c2]
    rfl
  | cut f l d =>
    obtain ⟨h1, h2, h3⟩ := h
    have c1 : (0 : Int) ≤ (f : Int) := by omega
    have c2 : (f : Int) ≤ (l : Int) := by omega
    have c3 : (l : Int) < (w : Int) := by omega
    have c4 : (1 : Int) ≤ (d : Int) := by omega
    unfold encD
    have n42 : ¬ ((4 : Nat) : Int) = 2 := by decide
    have n44 : (((4 : Nat) : Int) = 4) = True := eq_true rfl
    simp -implicitDefEqProofs only [List.map, param, List.length_cons, List.length_nil, s_cons, s_nil, s_iff, s_asg, s_par, s_drop, s_app, s_for, s_whl, s_kill, s_brk, s_cnt, s_pass, s_nev, s_retv, s_retN, r_lit, r_con, r_op, r_call, r_and, r_or, r_ife, r_chain, r_lst, r_tup, r_lc, rv, y_op, y_call, y_and, y_or, y_ife, y_chain, y_one, y_more, y_lst, y_tup, y_nil, y_cons, y_pnil, y_pcons, y_var, y_lit, y_con, y_ex, y_rng1, y_rng2, y_enum, y_zip, Nat.sub_self, List.replicate, List.cons_append, List.nil_append, List.append_nil, List.getElem?_cons_zero, List.getElem?_cons_succ, vr_sh, vr_own, vr_top, Option.bind_some, Option.map_some, Option.bind_none, Option.map_none, f_le, f_lt, f_gt, f_ge, boolD_some, cho_some, nmS_boolD, nmS_int, nmS_str, nmS_none, nmS_nil, Nat.reduceSub, Nat.reduceAdd, Nat.reduceLT, Nat.reduceLeDiff, ite_b, ite_true, ite_false, if_true, if_false, Bool.false_eq_true, o_neg', o_not', o_add', o_sub', o_mul', o_div', o_mod', o_abs', o_int', o_intb', o_min', o_max', o_gcd', o_lt', o_le', o_gt', o_ge', o_eq', o_ne', o_lenl, o_lent, o_idxl, o_idxt, o_isn', o_isnn', t_bool, t_int, nxt_nx, nxt_rt, nxt_bk, nxt_ct, nxt_if, rb_rt, rb_nx, rb_if, p_nm, p_tup, p_lst, p_nil, p_cons, cmO, c_nm, c_tup, c_lst, c_nil, c_cons, stO, Ow.tags, frz_n, frz_c, ff_nil, ff_cons, f1_none, f1_sh, f1_top, f1_own, w_nil, w_cons, List.set_cons_zero, List.set_cons_succ, intD, lstD, lvl, forF, whlC, lcF, and_self, Bool.not_eq_true', decide_eq_true_eq, decide_eq_false_iff_not, Bool.and_eq_true, Bool.and_eq_false_imp, and_true, true_and, own_q, oq_own, oq_top, put_o, put_t, io_int, io_bool, io_str, io_own, hasT_n, hasT_c, Nat.reduceBEq, Bool.false_and, Bool.and_false, Bool.true_and, Bool.and_true, Bool.or_false, Bool.false_or, Bool.or_true, Bool.true_or, beq_self_eq_true, not_true_eq_false, not_false_eq_true, List.append_assoc, dl_e, dt_e, ta_n, ta_c, List.all_cons, List.all_nil, Nat.zero_le, call_q, cq_0, cq_1, cq_2, atD_0, atD_1, vr_pair, nmS_pair, si_list, si_tup, y_lc, reduceCtorEq, y_tcons, y_tnil, ite_sb, pk_var, pq_sh, pq_top, pq_own, pk_op, pk_call, pk_lit, pk_con, pk_lst, pk_tup, pk_lc, pk_ife, pk_or, pk_and, nmS_list, nmT_ints, nmT_snoc, vr_int, vr_bool, vr_str, vr_none, o_rev, o_slc1, t_none, t_list, t_tup, isn_none, isn_int, isn_tup, isn_list, isn_bool, io_none, o_addl, List.isEmpty_cons, List.isEmpty_nil, s_par3, s_appK, s_ret2, r2_own, s_appM, s_forT, io_lsh, io_top, bq_ft, bq_tf, eq_cut, a4_0, a4_1, a4_2, a4_3, c1, c2, c3, c4, n42, n44, decide_true]
theorem star_t {ds es : List D} (g h : List Tag) : opR .star1 [(.list ds, g), (.tuple es, h)] = if ds.length < 1000000 then some (.list (ds ++ [.tuple es]), nmT (.list (ds ++ [.tuple es])) (g ++ h)) else none := o_star1 (fun _ z => by cases z) (fun _ z => by cases z)
theorem nTc (c : Col) (a b : Int) (g : List Tag) : nmT (.list (c.map encM ++ [.tuple [.int a, .int b]])) g = .own := by
  have e : flats (c.map encM ++ [.tuple [.int a, .int b]]) = true := by
    have gen : ∀ c : Col, flats (c.map encM ++ [.tuple [.int a, .int b]]) = true := fun c => by
      induction c with
      | nil => rfl
      | cons m c ih =>
        show (flat (encM m) && flats (c.map encM ++ [.tuple [.int a, .int b]])) = true
        rw [ih]
        rfl
    exact gen c
  show (if flats (c.map encM ++ [.tuple [.int a, .int b]]) = true then Ow.own else .top g) = .own
  rw [e]
  rfl
theorem nTcol (c : Col) (g : List Tag) : nmT (.list (c.map encM)) g = .own := nmT_map flatM c
theorem doneL_ok (cs : List Col) (m n : Nat) (hb : ∀ c ∈ cs, c.length ≤ 1000) (hl : cs.length ≤ 1000) : runFd Φ W fd_done [encCols cs, encD (.lay m), .int (n : Int)] = some (encCols (stepD cs n (.lay m)), 2) := by
  have lc : ∀ g, g = [] → lcRun (lcF Φ [9] (.op .star1 (.cons (.var 9) (.cons (.tup (.cons (.op .idx (.cons (.var 1) (.cons (.lit (.int 1)) .nil))) (.cons (.var 2) .nil))) .nil))) (.nm 9) .nil g [some (encCols cs, .sh []), some (encD (.lay m), .sh []), some (.int (n : Int), .sh []), none, none, none, none, none, none, none]) (cs.map encCol) =
      some (cs.map fun c => ((encCol (c ++ [(m, n)]), Ow.own) : R)) := fun g hg => by
    subst hg
    refine lc_map encCol _ _ cs fun c hc => ?_
    have q : c.length < 1000000 := by have := hb c hc; omega
    unfold encCol encD
    rw [List.map_append]
    simp -implicitDefEqProofs only [List.map, param, List.length_cons, List.length_nil, s_cons, s_nil, s_iff, s_asg, s_par, s_drop, s_app, s_for, s_whl, s_kill, s_brk, s_cnt, s_pass, s_nev, s_retv, s_retN, r_lit, r_con, r_op, r_call, r_and, r_or, r_ife, r_chain, r_lst, r_tup, r_lc, rv, y_op, y_call, y_and, y_or, y_ife, y_chain, y_one, y_more, y_lst, y_tup, y_nil, y_cons, y_pnil, y_pcons, y_var, y_lit, y_con, y_ex, y_rng1, y_rng2, y_enum, y_zip, Nat.sub_self, List.replicate, List.cons_append, List.nil_append, List.append_nil, List.getElem?_cons_zero, List.getElem?_cons_succ, vr_sh, vr_own, vr_top, Option.bind_some, Option.map_some, Option.bind_none, Option.map_none, f_le, f_lt, f_gt, f_ge, boolD_some, cho_some, nmS_boolD, nmS_int, nmS_str, nmS_none, nmS_nil, Nat.reduceSub, Nat.reduceAdd, Nat.reduceLT, Nat.reduceLeDiff, ite_b, ite_true, ite_false, if_true, if_false, Bool.false_eq_true, o_neg', o_not', o_add', o_sub', o_mul', o_div', o_mod', o_abs', o_int', o_intb', o_min', o_max', o_gcd', o_lt', o_le', o_gt', o_ge', o_eq', o_ne', o_lenl, o_lent, o_idxl, o_idxt, o_isn', o_isnn', t_bool, t_int, nxt_nx, nxt_rt, nxt_bk, nxt_ct, nxt_if, rb_rt, rb_nx, rb_if, p_nm, p_tup, p_lst, p_nil, p_cons, cmO, c_nm, c_tup, c_lst, c_nil, c_cons, stO, Ow.tags, frz_n, frz_c, ff_nil, ff_cons, f1_none, f1_sh, f1_top, f1_own, w_nil, w_cons, List.set_cons_zero, List.set_cons_succ, intD, lstD, lvl, forF, whlC, lcF, and_self, Bool.not_eq_true', decide_eq_true_eq, decide_eq_false_iff_not, Bool.and_eq_true, Bool.and_eq_false_imp, and_true, true_and, own_q, oq_own, oq_top, put_o, put_t, io_int, io_bool, io_str, io_own, hasT_n, hasT_c, Nat.reduceBEq, Bool.false_and, Bool.and_false, Bool.true_and, Bool.and_true, Bool.or_false, Bool.false_or, Bool.or_true, Bool.true_or, beq_self_eq_true, not_true_eq_false, not_false_eq_true, List.append_assoc, dl_e, dt_e, ta_n, ta_c, List.all_cons, List.all_nil, Nat.zero_le, call_q, cq_0, cq_1, cq_2, atD_0, atD_1, vr_pair, nmS_pair, si_list, si_tup, y_lc, reduceCtorEq, y_tcons, y_tnil, ite_sb, pk_var, pq_sh, pq_top, pq_own, pk_op, pk_call, pk_lit, pk_con, pk_lst, pk_tup, pk_lc, pk_ife, pk_or, pk_and, nmS_list, nmT_ints, nmT_snoc, vr_int, vr_bool, vr_str, vr_none, o_rev, o_slc1, t_none, t_list, t_tup, isn_none, isn_int, isn_tup, isn_list, isn_bool, io_none, o_addl, List.isEmpty_cons, List.isEmpty_nil, s_par3, s_appK, s_ret2, r2_own, s_appM, s_forT, io_lsh, io_top, bq_ft, bq_tf, star_t, List.length_map, q, nTc, encM]
  have e1 : (cs.map fun c => ((encCol (c ++ [(m, n)]), Ow.own) : R)).map (fun x => x.1) = (stepD cs n (.lay m)).map encCol := by unfold stepD; rw [List.map_map, List.map_map]; rfl
  have o1 : (cs.map fun c => ((encCol (c ++ [(m, n)]), Ow.own) : R)).all isOwn = true := by
    rw [List.all_map]
    exact List.all_eq_true.mpr fun x _ => rfl
  have hl' : cs.length ≤ 1000000 := by omega
  have lc' := lc [] rfl
  unfold encCols at *
  unfold encD at *
  unfold fd_done
  refine (run_fd (by rfl)).trans ?_
  simp -implicitDefEqProofs only [List.map, param, List.length_cons, List.length_nil, s_cons, s_nil, s_iff, s_asg, s_par, s_drop, s_app, s_for, s_whl, s_kill, s_brk, s_cnt, s_pass, s_nev, s_retv, s_retN, r_lit, r_con, r_op, r_call, r_and, r_or, r_ife, r_chain, r_lst, r_tup, r_lc, rv, y_op, y_call, y_and, y_or, y_ife, y_chain, y_one, y_more, y_lst, y_tup, y_nil, y_cons, y_pnil, y_pcons, y_var, y_lit, y_con, y_ex, y_rng1, y_rng2, y_enum, y_zip, Nat.sub_self, List.replicate, List.cons_append, List.nil_append, List.append_nil, List.getElem?_cons_zero, List.getElem?_cons_succ, vr_sh, vr_own, vr_top, Option.bind_some, Option.map_some, Option.bind_none, Option.map_none, f_le, f_lt, f_gt, f_ge, boolD_some, cho_some, nmS_boolD, nmS_int, nmS_str, nmS_none, nmS_nil, Nat.reduceSub, Nat.reduceAdd, Nat.reduceLT, Nat.reduceLeDiff, ite_b, ite_true, ite_false, if_true, if_false, Bool.false_eq_true, o_neg', o_not', o_add', o_sub', o_mul', o_div', o_mod', o_abs', o_int', o_intb', o_min', o_max', o_gcd', o_lt', o_le', o_gt', o_ge', o_eq', o_ne', o_lenl, o_lent, o_idxl, o_idxt, o_isn', o_isnn', t_bool, t_int, nxt_nx, nxt_rt, nxt_bk, nxt_ct, nxt_if, rb_rt, rb_nx, rb_if, p_nm, p_tup, p_lst, p_nil, p_cons, cmO, c_nm, c_tup, c_lst, c_nil, c_cons, stO, Ow.tags, frz_n, frz_c, ff_nil, ff_cons, f1_none, f1_sh, f1_top, f1_own, w_nil, w_cons, List.set_cons_zero, List.set_cons_succ, intD, lstD, lvl, forF, whlC, lcF, and_self, Bool.not_eq_true', decide_eq_true_eq, decide_eq_false_iff_not, Bool.and_eq_true, Bool.and_eq_false_imp, and_true, true_and, own_q, oq_own, oq_top, put_o, put_t, io_int, io_bool, io_str, io_own, hasT_n, hasT_c, Nat.reduceBEq, Bool.false_and, Bool.and_false, Bool.true_and, Bool.and_true, Bool.or_false, Bool.false_or, Bool.or_true, Bool.true_or, beq_self_eq_true, not_true_eq_false, not_false_eq_true, List.append_assoc, dl_e, dt_e, ta_n, ta_c, List.all_cons, List.all_nil, Nat.zero_le, call_q, cq_0, cq_1, cq_2, atD_0, atD_1, vr_pair, nmS_pair, si_list, si_tup, y_lc, reduceCtorEq, y_tcons, y_tnil, ite_sb, pk_var, pq_sh, pq_top, pq_own, pk_op, pk_call, pk_lit, pk_con, pk_lst, pk_tup, pk_lc, pk_ife, pk_or, pk_and, nmS_list, nmT_ints, nmT_snoc, vr_int, vr_bool, vr_str, vr_none, o_rev, o_slc1, t_none, t_list, t_tup, isn_none, isn_int, isn_tup, isn_list, isn_bool, io_none, o_addl, List.isEmpty_cons, List.isEmpty_nil, s_par3, s_appK, s_ret2, r2_own, s_appM, s_forT, io_lsh, io_top, bq_ft, bq_tf, eq_lay, List.length_map, hl', lc', e1, o1]
theorem done1_ok (a0 a1 a2 a4 : Option R) (f l d i : Nat) (col : Col) (xs : List Col) (ow : Ow) (how : ow = .own ∨ ow = .top []) (hd : inC f l i = true → d ≤ col.length) (hl : xs.length ≤ 1000)
    (h0 : frz1 [(3, false)] 0 a0 = a0) (h1 : frz1 [(3, false)] 1 a1 = a1) (h2 : frz1 [(3, false)] 2 a2 = a2) (h4 : frz1 [(3, false)] 4 a4 = a4) :
    ∃ ow', (ow' = .own ∨ ow' = .top []) ∧ ∃ ρ', forF Φ W (.tp (.cons (.nm 8) (.cons (.nm 9) .nil))) b0_done (.tuple [.int (i : Int), encCol col]) [a0, a1, a2, some (.list (xs.map encCol), ow), a4, some (.int (f : Int), .sh []), some (.int (l : Int), .sh []), some (.int (d : Int), .sh []), none, none] = some (.nx ρ') ∧
      wipeR [8, 9] ρ' = [a0, a1, a2, some (.list ((xs ++ [cutC f l d i col]).map encCol), ow'), a4, some (.int (f : Int), .sh []), some (.int (l : Int), .sh []), some (.int (d : Int), .sh []), none, none] := by
  have lx : xs.length < 1000000 := by omega
  unfold b0_done cutC
  by_cases c1 : (f : Int) ≤ (i : Int)
  · by_cases c2 : (i : Int) ≤ (l : Int)
    · have q : inC f l i = true := by unfold inC; simp; omega
      have hd' := hd q
      rw [if_pos q]
      have en : (col.length : Int) - (d : Int) = ((col.length - d : Nat) : Int) := by omega
      have ct : cutD (col.map encM) none (some ((col.length - d : Nat) : Int)) = (col.take (col.length - d)).map encM := by
        rw [List.map_take]
        exact cut_to _ _
      have sl : ∀ g h, opR (.slc false true) [(.list (col.map encM), g), (.int ((col.length - d : Nat) : Int), h)] = some (.list ((col.take (col.length - d)).map encM), .own) := fun g h => by
        simp only [opR, opF, List.map, oSlc, ct, nTcol]
      have em : ((xs ++ [col.take (col.length - d)]).map encCol) = xs.map encCol ++ [.list ((col.take (col.length - d)).map encM)] := by rw [List.map_append]; rfl
      rw [em]
      unfold encCol
      refine ⟨ow, how, ?_⟩
      rcases how with rfl | rfl
      · apply Exists.intro
        apply And.intro
        · simp -implicitDefEqProofs only [List.map, param, List.length_cons, List.length_nil, s_cons, s_nil, s_iff, s_asg, s_par, s_drop, s_app, s_for, s_whl, s_kill, s_brk, s_cnt, s_pass, s_nev, s_retv, s_retN, r_lit, r_con, r_op, r_call, r_and, r_or, r_ife, r_chain, r_lst, r_tup, r_lc, rv, y_op, y_call, y_and, y_or, y_ife, y_chain, y_one, y_more, y_lst, y_tup, y_nil, y_cons, y_pnil, y_pcons, y_var, y_lit, y_con, y_ex, y_rng1, y_rng2, y_enum, y_zip, Nat.sub_self, List.replicate, List.cons_append, List.nil_append, List.append_nil, List.getElem?_cons_zero, List.getElem?_cons_succ, vr_sh, vr_own, vr_top, Option.bind_some, Option.map_some, Option.bind_none, Option.map_none, f_le, f_lt, f_gt, f_ge, boolD_some, cho_some, nmS_boolD, nmS_int, nmS_str, nmS_none, nmS_nil, Nat.reduceSub, Nat.reduceAdd, Nat.reduceLT, Nat.reduceLeDiff, ite_b, ite_true, ite_false, if_true, if_false, Bool.false_eq_true, o_neg', o_not', o_add', o_sub', o_mul', o_div', o_mod', o_abs', o_int', o_intb', o_min', o_max', o_gcd', o_lt', o_le', o_gt', o_ge', o_eq', o_ne', o_lenl, o_lent, o_idxl, o_idxt, o_isn', o_isnn', t_bool, t_int, nxt_nx, nxt_rt, nxt_bk, nxt_ct, nxt_if, rb_rt, rb_nx, rb_if, p_nm, p_tup, p_lst, p_nil, p_cons, cmO, c_nm, c_tup, c_lst, c_nil, c_cons, stO, Ow.tags, frz_n, frz_c, ff_nil, ff_cons, f1_none, f1_sh, f1_top, f1_own, w_nil, w_cons, List.set_cons_zero, List.set_cons_succ, intD, lstD, lvl, forF, whlC, lcF, and_self, Bool.not_eq_true', decide_eq_true_eq, decide_eq_false_iff_not, Bool.and_eq_true, Bool.and_eq_false_imp, and_true, true_and, own_q, oq_own, oq_top, put_o, put_t, io_int, io_bool, io_str, io_own, hasT_n, hasT_c, Nat.reduceBEq, Bool.false_and, Bool.and_false, Bool.true_and, Bool.and_true, Bool.or_false, Bool.false_or, Bool.or_true, Bool.true_or, beq_self_eq_true, not_true_eq_false, not_false_eq_true, List.append_assoc, dl_e, dt_e, ta_n, ta_c, List.all_cons, List.all_nil, Nat.zero_le, call_q, cq_0, cq_1, cq_2, atD_0, atD_1, vr_pair, nmS_pair, si_list, si_tup, y_lc, reduceCtorEq, y_tcons, y_tnil, ite_sb, pk_var, pq_sh, pq_top, pq_own, pk_op, pk_call, pk_lit, pk_con, pk_lst, pk_tup, pk_lc, pk_ife, pk_or, pk_and, nmS_list, nmT_ints, nmT_snoc, vr_int, vr_bool, vr_str, vr_none, o_rev, o_slc1, t_none, t_list, t_tup, isn_none, isn_int, isn_tup, isn_list, isn_bool, io_none, o_addl, List.isEmpty_cons, List.isEmpty_nil, s_par3, s_appK, s_ret2, r2_own, s_appM, s_forT, io_lsh, io_top, bq_ft, bq_tf, c1, c2, en, sl, List.length_map, lx]
          rfl
        · simp -implicitDefEqProofs only [List.map, param, List.length_cons, List.length_nil, s_cons, s_nil, s_iff, s_asg, s_par, s_drop, s_app, s_for, s_whl, s_kill, s_brk, s_cnt, s_pass, s_nev, s_retv, s_retN, r_lit, r_con, r_op, r_call, r_and, r_or, r_ife, r_chain, r_lst, r_tup, r_lc, rv, y_op, y_call, y_and, y_or, y_ife, y_chain, y_one, y_more, y_lst, y_tup, y_nil, y_cons, y_pnil, y_pcons, y_var, y_lit, y_con, y_ex, y_rng1, y_rng2, y_enum, y_zip, Nat.sub_self, List.replicate, List.cons_append, List.nil_append, List.append_nil, List.getElem?_cons_zero, List.getElem?_cons_succ, vr_sh, vr_own, vr_top, Option.bind_some, Option.map_some, Option.bind_none, Option.map_none, f_le, f_lt, f_gt, f_ge, boolD_some, cho_some, nmS_boolD, nmS_int, nmS_str, nmS_none, nmS_nil, Nat.reduceSub, Nat.reduceAdd, Nat.reduceLT, Nat.reduceLeDiff, ite_b, ite_true, ite_false, if_true, if_false, Bool.false_eq_true, o_neg', o_not', o_add', o_sub', o_mul', o_div', o_mod', o_abs', o_int', o_intb', o_min', o_max', o_gcd', o_lt', o_le', o_gt', o_ge', o_eq', o_ne', o_lenl, o_lent, o_idxl, o_idxt, o_isn', o_isnn', t_bool, t_int, nxt_nx, nxt_rt, nxt_bk, nxt_ct, nxt_if, rb_rt, rb_nx, rb_if, p_nm, p_tup, p_lst, p_nil, p_cons, cmO, c_nm, c_tup, c_lst, c_nil, c_cons, stO, Ow.tags, frz_n, frz_c, ff_nil, ff_cons, f1_none, f1_sh, f1_top, f1_own, w_nil, w_cons, List.set_cons_zero, List.set_cons_succ, intD, lstD, lvl, forF, whlC, lcF, and_self, Bool.not_eq_true', decide_eq_true_eq, decide_eq_false_iff_not, Bool.and_eq_true, Bool.and_eq_false_imp, and_true, true_and, own_q, oq_own, oq_top, put_o, put_t, io_int, io_bool, io_str, io_own, hasT_n, hasT_c, Nat.reduceBEq, Bool.false_and, Bool.and_false, Bool.true_and, Bool.and_true, Bool.or_false, Bool.false_or, Bool.or_true, Bool.true_or, beq_self_eq_true, not_true_eq_false, not_false_eq_true, List.append_assoc, dl_e, dt_e, ta_n, ta_c, List.all_cons, List.all_nil, Nat.zero_le, call_q, cq_0, cq_1, cq_2, atD_0, atD_1, vr_pair, nmS_pair, si_list, si_tup, y_lc, reduceCtorEq, y_tcons, y_tnil, ite_sb, pk_var, pq_sh, pq_top, pq_own, pk_op, pk_call, pk_lit, pk_con, pk_lst, pk_tup, pk_lc, pk_ife, pk_or, pk_and, nmS_list, nmT_ints, nmT_snoc, vr_int, vr_bool, vr_str, vr_none, o_rev, o_slc1, t_none, t_list, t_tup, isn_none, isn_int, isn_tup, isn_list, isn_bool, io_none, o_addl, List.isEmpty_cons, List.isEmpty_nil, s_par3, s_appK, s_ret2, r2_own, s_appM, s_forT, io_lsh, io_top, bq_ft, bq_tf]
      · apply Exists.intro
        apply And.intro
        · simp -implicitDefEqProofs only [List.map, param, List.length_cons, List.length_nil, s_cons, s_nil, s_iff, s_asg, s_par, s_drop, s_app, s_for, s_whl, s_kill, s_brk, s_cnt, s_pass, s_nev, s_retv, s_retN, r_lit, r_con, r_op, r_call, r_and, r_or, r_ife, r_chain, r_lst, r_tup, r_lc, rv, y_op, y_call, y_and, y_or, y_ife, y_chain, y_one, y_more, y_lst, y_tup, y_nil, y_cons, y_pnil, y_pcons, y_var, y_lit, y_con, y_ex, y_rng1, y_rng2, y_enum, y_zip, Nat.sub_self, List.replicate, List.cons_append, List.nil_append, List.append_nil, List.getElem?_cons_zero, List.getElem?_cons_succ, vr_sh, vr_own, vr_top, Option.bind_some, Option.map_some, Option.bind_none, Option.map_none, f_le, f_lt, f_gt, f_ge, boolD_some, cho_some, nmS_boolD, nmS_int, nmS_str, nmS_none, nmS_nil, Nat.reduceSub, Nat.reduceAdd, Nat.reduceLT, Nat.reduceLeDiff, ite_b, ite_true, ite_false, if_true, if_false, Bool.false_eq_true, o_neg', o_not', o_add', o_sub', o_mul', o_div', o_mod', o_abs', o_int', o_intb', o_min', o_max', o_gcd', o_lt', o_le', o_gt', o_ge', o_eq', o_ne', o_lenl, o_lent, o_idxl, o_idxt, o_isn', o_isnn', t_bool, t_int, nxt_nx, nxt_rt, nxt_bk, nxt_ct, nxt_if, rb_rt, rb_nx, rb_if, p_nm, p_tup, p_lst, p_nil, p_cons, cmO, c_nm, c_tup, c_lst, c_nil, c_cons, stO, Ow.tags, frz_n, frz_c, ff_nil, ff_cons, f1_none, f1_sh, f1_top, f1_own, w_nil, w_cons, List.set_cons_zero, List.set_cons_succ, intD, lstD, lvl, forF, whlC, lcF, and_self, Bool.not_eq_true', decide_eq_true_eq, decide_eq_false_iff_not, Bool.and_eq_true, Bool.and_eq_false_imp, and_true, true_and, own_q, oq_own, oq_top, put_o, put_t, io_int, io_bool, io_str, io_own, hasT_n, hasT_c, Nat.reduceBEq, Bool.false_and, Bool.and_false, Bool.true_and, Bool.and_true, Bool.or_false, Bool.false_or, Bool.or_true, Bool.true_or, beq_self_eq_true, not_true_eq_false, not_false_eq_true, List.append_assoc, dl_e, dt_e, ta_n, ta_c, List.all_cons, List.all_nil, Nat.zero_le, call_q, cq_0, cq_1, cq_2, atD_0, atD_1, vr_pair, nmS_pair, si_list, si_tup, y_lc, reduceCtorEq, y_tcons, y_tnil, ite_sb, pk_var, pq_sh, pq_top, pq_own, pk_op, pk_call, pk_lit, pk_con, pk_lst, pk_tup, pk_lc, pk_ife, pk_or, pk_and, nmS_list, nmT_ints, nmT_snoc, vr_int, vr_bool, vr_str, vr_none, o_rev, o_slc1, t_none, t_list, t_tup, isn_none, isn_int, isn_tup, isn_list, isn_bool, io_none, o_addl, List.isEmpty_cons, List.isEmpty_nil, s_par3, s_appK, s_ret2, r2_own, s_appM, s_forT, io_lsh, io_top, bq_ft, bq_tf, c1, c2, en, sl, List.length_map, lx]
          rfl
        · simp -implicitDefEqProofs only [List.map, param, List.length_cons, List.length_nil, s_cons, s_nil, s_iff, s_asg, s_par, s_drop, s_app, s_for, s_whl, s_kill, s_brk, s_cnt, s_pass, s_nev, s_retv, s_retN, r_lit, r_con, r_op, r_call, r_and, r_or, r_ife, r_chain, r_lst, r_tup, r_lc, rv, y_op, y_call, y_and, y_or, y_ife, y_chain, y_one, y_more, y_lst, y_tup, y_nil, y_cons, y_pnil, y_pcons, y_var, y_lit, y_con, y_ex, y_rng1, y_rng2, y_enum, y_zip, Nat.sub_self, List.replicate, List.cons_append, List.nil_append, List.append_nil, List.getElem?_cons_zero, List.getElem?_cons_succ, vr_sh, vr_own, vr_top, Option.bind_some, Option.map_some, Option.bind_none, Option.map_none, f_le, f_lt, f_gt, f_ge, boolD_some, cho_some, nmS_boolD, nmS_int, nmS_str, nmS_none, nmS_nil, Nat.reduceSub, Nat.reduceAdd, Nat.reduceLT, Nat.reduceLeDiff, ite_b, ite_true, ite_false, if_true, if_false, Bool.false_eq_true, o_neg', o_not', o_add', o_sub', o_mul', o_div', o_mod', o_abs', o_int', o_intb', o_min', o_max', o_gcd', o_lt', o_le', o_gt', o_ge', o_eq', o_ne', o_lenl, o_lent, o_idxl, o_idxt, o_isn', o_isnn', t_bool, t_int, nxt_nx, nxt_rt, nxt_bk, nxt_ct, nxt_if, rb_rt, rb_nx, rb_if, p_nm, p_tup, p_lst, p_nil, p_cons, cmO, c_nm, c_tup, c_lst, c_nil, c_cons, stO, Ow.tags, frz_n, frz_c, ff_nil, ff_cons, f1_none, f1_sh, f1_top, f1_own, w_nil, w_cons, List.set_cons_zero, List.set_cons_succ, intD, lstD, lvl, forF, whlC, lcF, and_self, Bool.not_eq_true', decide_eq_true_eq, decide_eq_false_iff_not, Bool.and_eq_true, Bool.and_eq_false_imp, and_true, true_and, own_q, oq_own, oq_top, put_o, put_t, io_int, io_bool, io_str, io_own, hasT_n, hasT_c, Nat.reduceBEq, Bool.false_and, Bool.and_false, Bool.true_and, Bool.and_true, Bool.or_false, Bool.false_or, Bool.or_true, Bool.true_or, beq_self_eq_true, not_true_eq_false, not_false_eq_true, List.append_assoc, dl_e, dt_e, ta_n, ta_c, List.all_cons, List.all_nil, Nat.zero_le, call_q, cq_0, cq_1, cq_2, atD_0, atD_1, vr_pair, nmS_pair, si_list, si_tup, y_lc, reduceCtorEq, y_tcons, y_tnil, ite_sb, pk_var, pq_sh, pq_top, pq_own, pk_op, pk_call, pk_lit, pk_con, pk_lst, pk_tup, pk_lc, pk_ife, pk_or, pk_and, nmS_list, nmT_ints, nmT_snoc, vr_int, vr_bool, vr_str, vr_none, o_rev, o_slc1, t_none, t_list, t_tup, isn_none, isn_int, isn_tup, isn_list, isn_bool, io_none, o_addl, List.isEmpty_cons, List.isEmpty_nil, s_par3, s_appK, s_ret2, r2_own, s_appM, s_forT, io_lsh, io_top, bq_ft, bq_tf]
    · have q : ¬ inC f l i = true := by unfold inC; simp; omega
      rw [if_neg q]
      have em : ((xs ++ [col]).map encCol) = xs.map encCol ++ [.list (col.map encM)] := by rw [List.map_append]; rfl
      rw [em]
      unfold encCol
      refine ⟨.top [], .inr rfl, ?_⟩
      rcases how with rfl | rfl
      · apply Exists.intro
        apply And.intro
        · simp -implicitDefEqProofs only [List.map, param, List.length_cons, List.length_nil, s_cons, s_nil, s_iff, s_asg, s_par, s_drop, s_app, s_for, s_whl, s_kill, s_brk, s_cnt, s_pass, s_nev, s_retv, s_retN, r_lit, r_con, r_op, r_call, r_and, r_or, r_ife, r_chain, r_lst, r_tup, r_lc, rv, y_op, y_call, y_and, y_or, y_ife, y_chain, y_one, y_more, y_lst, y_tup, y_nil, y_cons, y_pnil, y_pcons, y_var, y_lit, y_con, y_ex, y_rng1, y_rng2, y_enum, y_zip, Nat.sub_self, List.replicate, List.cons_append, List.nil_append, List.append_nil, List.getElem?_cons_zero, List.getElem?_cons_succ, vr_sh, vr_own, vr_top, Option.bind_some, Option.map_some, Option.bind_none, Option.map_none, f_le, f_lt, f_gt, f_ge, boolD_some, cho_some, nmS_boolD, nmS_int, nmS_str, nmS_none, nmS_nil, Nat.reduceSub, Nat.reduceAdd, Nat.reduceLT, Nat.reduceLeDiff, ite_b, ite_true, ite_false, if_true, if_false, Bool.false_eq_true, o_neg', o_not', o_add', o_sub', o_mul', o_div', o_mod', o_abs', o_int', o_intb', o_min', o_max', o_gcd', o_lt', o_le', o_gt', o_ge', o_eq', o_ne', o_lenl, o_lent, o_idxl, o_idxt, o_isn', o_isnn', t_bool, t_int, nxt_nx, nxt_rt, nxt_bk, nxt_ct, nxt_if, rb_rt, rb_nx, rb_if, p_nm, p_tup, p_lst, p_nil, p_cons, cmO, c_nm, c_tup, c_lst, c_nil, c_cons, stO, Ow.tags, frz_n, frz_c, ff_nil, ff_cons, f1_none, f1_sh, f1_top, f1_own, w_nil, w_cons, List.set_cons_zero, List.set_cons_succ, intD, lstD, lvl, forF, whlC, lcF, and_self, Bool.not_eq_true', decide_eq_true_eq, decide_eq_false_iff_not, Bool.and_eq_true, Bool.and_eq_false_imp, and_true, true_and, own_q, oq_own, oq_top, put_o, put_t, io_int, io_bool, io_str, io_own, hasT_n, hasT_c, Nat.reduceBEq, Bool.false_and, Bool.and_false, Bool.true_and, Bool.and_true, Bool.or_false, Bool.false_or, Bool.or_true, Bool.true_or, beq_self_eq_true, not_true_eq_false, not_false_eq_true, List.append_assoc, dl_e, dt_e, ta_n, ta_c, List.all_cons, List.all_nil, Nat.zero_le, call_q, cq_0, cq_1, cq_2, atD_0, atD_1, vr_pair, nmS_pair, si_list, si_tup, y_lc, reduceCtorEq, y_tcons, y_tnil, ite_sb, pk_var, pq_sh, pq_top, pq_own, pk_op, pk_call, pk_lit, pk_con, pk_lst, pk_tup, pk_lc, pk_ife, pk_or, pk_and, nmS_list, nmT_ints, nmT_snoc, vr_int, vr_bool, vr_str, vr_none, o_rev, o_slc1, t_none, t_list, t_tup, isn_none, isn_int, isn_tup, isn_list, isn_bool, io_none, o_addl, List.isEmpty_cons, List.isEmpty_nil, s_par3, s_appK, s_ret2, r2_own, s_appM, s_forT, io_lsh, io_top, bq_ft, bq_tf, c1, c2, List.length_map, lx, h0, h1, h2, h4]
          rfl
        · simp -implicitDefEqProofs only [List.map, param, List.length_cons, List.length_nil, s_cons, s_nil, s_iff, s_asg, s_par, s_drop, s_app, s_for, s_whl, s_kill, s_brk, s_cnt, s_pass, s_nev, s_retv, s_retN, r_lit, r_con, r_op, r_call, r_and, r_or, r_ife, r_chain, r_lst, r_tup, r_lc, rv, y_op, y_call, y_and, y_or, y_ife, y_chain, y_one, y_more, y_lst, y_tup, y_nil, y_cons, y_pnil, y_pcons, y_var, y_lit, y_con, y_ex, y_rng1, y_rng2, y_enum, y_zip, Nat.sub_self, List.replicate, List.cons_append, List.nil_append, List.append_nil, List.getElem?_cons_zero, List.getElem?_cons_succ, vr_sh, vr_own, vr_top, Option.bind_some, Option.map_some, Option.bind_none, Option.map_none, f_le, f_lt, f_gt, f_ge, boolD_some, cho_some, nmS_boolD, nmS_int, nmS_str, nmS_none, nmS_nil, Nat.reduceSub, Nat.reduceAdd, Nat.reduceLT, Nat.reduceLeDiff, ite_b, ite_true, ite_false, if_true, if_false, Bool.false_eq_true, o_neg', o_not', o_add', o_sub', o_mul', o_div', o_mod', o_abs', o_int', o_intb', o_min', o_max', o_gcd', o_lt', o_le', o_gt', o_ge', o_eq', o_ne', o_lenl, o_lent, o_idxl, o_idxt, o_isn', o_isnn', t_bool, t_int, nxt_nx, nxt_rt, nxt_bk, nxt_ct, nxt_if, rb_rt, rb_nx, rb_if, p_nm, p_tup, p_lst, p_nil, p_cons, cmO, c_nm, c_tup, c_lst, c_nil, c_cons, stO, Ow.tags, frz_n, frz_c, ff_nil, ff_cons, f1_none, f1_sh, f1_top, f1_own, w_nil, w_cons, List.set_cons_zero, List.set_cons_succ, intD, lstD, lvl, forF, whlC, lcF, and_self, Bool.not_eq_true', decide_eq_true_eq, decide_eq_false_iff_not, Bool.and_eq_true, Bool.and_eq_false_imp, and_true, true_and, own_q, oq_own, oq_top, put_o, put_t, io_int, io_bool, io_str, io_own, hasT_n, hasT_c, Nat.reduceBEq, Bool.false_and, Bool.and_false, Bool.true_and, Bool.and_true, Bool.or_false, Bool.false_or, Bool.or_true, Bool.true_or, beq_self_eq_true, not_true_eq_false, not_false_eq_true, List.append_assoc, dl_e, dt_e, ta_n, ta_c, List.all_cons, List.all_nil, Nat.zero_le, call_q, cq_0, cq_1, cq_2, atD_0, atD_1, vr_pair, nmS_pair, si_list, si_tup, y_lc, reduceCtorEq, y_tcons, y_tnil, ite_sb, pk_var, pq_sh, pq_top, pq_own, pk_op, pk_call, pk_lit, pk_con, pk_lst, pk_tup, pk_lc, pk_ife, pk_or, pk_and, nmS_list, nmT_ints, nmT_snoc, vr_int, vr_bool, vr_str, vr_none, o_rev, o_slc1, t_none, t_list, t_tup, isn_none, isn_int, isn_tup, isn_list, isn_bool, io_none, o_addl, List.isEmpty_cons, List.isEmpty_nil, s_par3, s_appK, s_ret2, r2_own, s_appM, s_forT, io_lsh, io_top, bq_ft, bq_tf]
      · apply Exists.intro
        apply And.intro
        · simp -implicitDefEqProofs only [List.map, param, List.length_cons, List.length_nil, s_cons, s_nil, s_iff, s_asg, s_par, s_drop, s_app, s_for, s_whl, s_kill, s_brk, s_cnt, s_pass, s_nev, s_retv, s_retN, r_lit, r_con, r_op, r_call, r_and, r_or, r_ife, r_chain, r_lst, r_tup, r_lc, rv, y_op, y_call, y_and, y_or, y_ife, y_chain, y_one, y_more, y_lst, y_tup, y_nil, y_cons, y_pnil, y_pcons, y_var, y_lit, y_con, y_ex, y_rng1, y_rng2, y_enum, y_zip, Nat.sub_self, List.replicate, List.cons_append, List.nil_append, List.append_nil, List.getElem?_cons_zero, List.getElem?_cons_succ, vr_sh, vr_own, vr_top, Option.bind_some, Option.map_some, Option.bind_none, Option.map_none, f_le, f_lt, f_gt, f_ge, boolD_some, cho_some, nmS_boolD, nmS_int, nmS_str, nmS_none, nmS_nil, Nat.reduceSub, Nat.reduceAdd, Nat.reduceLT, Nat.reduceLeDiff, ite_b, ite_true, ite_false, if_true, if_false, Bool.false_eq_true, o_neg', o_not', o_add', o_sub', o_mul', o_div', o_mod', o_abs', o_int', o_intb', o_min', o_max', o_gcd', o_lt', o_le', o_gt', o_ge', o_eq', o_ne', o_lenl, o_lent, o_idxl, o_idxt, o_isn', o_isnn', t_bool, t_int, nxt_nx, nxt_rt, nxt_bk, nxt_ct, nxt_if, rb_rt, rb_nx, rb_if, p_nm, p_tup, p_lst, p_nil, p_cons, cmO, c_nm, c_tup, c_lst, c_nil, c_cons, stO, Ow.tags, frz_n, frz_c, ff_nil, ff_cons, f1_none, f1_sh, f1_top, f1_own, w_nil, w_cons, List.set_cons_zero, List.set_cons_succ, intD, lstD, lvl, forF, whlC, lcF, and_self, Bool.not_eq_true', decide_eq_true_eq, decide_eq_false_iff_not, Bool.and_eq_true, Bool.and_eq_false_imp, and_true, true_and, own_q, oq_own, oq_top, put_o, put_t, io_int, io_bool, io_str, io_own, hasT_n, hasT_c, Nat.reduceBEq, Bool.false_and, Bool.and_false, Bool.true_and, Bool.and_true, Bool.or_false, Bool.false_or, Bool.or_true, Bool.true_or, beq_self_eq_true, not_true_eq_false, not_false_eq_true, List.append_assoc, dl_e, dt_e, ta_n, ta_c, List.all_cons, List.all_nil, Nat.zero_le, call_q, cq_0, cq_1, cq_2, atD_0, atD_1, vr_pair, nmS_pair, si_list, si_tup, y_lc, reduceCtorEq, y_tcons, y_tnil, ite_sb, pk_var, pq_sh, pq_top, pq_own, pk_op, pk_call, pk_lit, pk_con, pk_lst, pk_tup, pk_lc, pk_ife, pk_or, pk_and, nmS_list, nmT_ints, nmT_snoc, vr_int, vr_bool, vr_str, vr_none, o_rev, o_slc1, t_none, t_list, t_tup, isn_none, isn_int, isn_tup, isn_list, isn_bool, io_none, o_addl, List.isEmpty_cons, List.isEmpty_nil, s_par3, s_appK, s_ret2, r2_own, s_appM, s_forT, io_lsh, io_top, bq_ft, bq_tf, c1, c2, List.length_map, lx, h0, h1, h2, h4]
          rfl
        · simp -implicitDefEqProofs only [List.map, param, List.length_cons, List.length_nil, s_cons, s_nil, s_iff, s_asg, s_par, s_drop, s_app, s_for, s_whl, s_kill, s_brk, s_cnt, s_pass, s_nev, s_retv, s_retN, r_lit, r_con, r_op, r_call, r_and, r_or, r_ife, r_chain, r_lst, r_tup, r_lc, rv, y_op, y_call, y_and, y_or, y_ife, y_chain, y_one, y_more, y_lst, y_tup, y_nil, y_cons, y_pnil, y_pcons, y_var, y_lit, y_con, y_ex, y_rng1, y_rng2, y_enum, y_zip, Nat.sub_self, List.replicate, List.cons_append, List.nil_append, List.append_nil, List.getElem?_cons_zero, List.getElem?_cons_succ, vr_sh, vr_own, vr_top, Option.bind_some, Option.map_some, Option.bind_none, Option.map_none, f_le, f_lt, f_gt, f_ge, boolD_some, cho_some, nmS_boolD, nmS_int, nmS_str, nmS_none, nmS_nil, Nat.reduceSub, Nat.reduceAdd, Nat.reduceLT, Nat.reduceLeDiff, ite_b, ite_true, ite_false, if_true, if_false, Bool.false_eq_true, o_neg', o_not', o_add', o_sub', o_mul', o_div', o_mod', o_abs', o_int', o_intb', o_min', o_max', o_gcd', o_lt', o_le', o_gt', o_ge', o_eq', o_ne', o_lenl, o_lent, o_idxl, o_idxt, o_isn', o_isnn', t_bool, t_int, nxt_nx, nxt_rt, nxt_bk, nxt_ct, nxt_if, rb_rt, rb_nx, rb_if, p_nm, p_tup, p_lst, p_nil, p_cons, cmO, c_nm, c_tup, c_lst, c_nil, c_cons, stO, Ow.tags, frz_n, frz_c, ff_nil, ff_cons, f1_none, f1_sh, f1_top, f1_own, w_nil, w_cons, List.set_cons_zero, List.set_cons_succ, intD, lstD, lvl, forF, whlC, lcF, and_self, Bool.not_eq_true', decide_eq_true_eq, decide_eq_false_iff_not, Bool.and_eq_true, Bool.and_eq_false_imp, and_true, true_and, own_q, oq_own, oq_top, put_o, put_t, io_int, io_bool, io_str, io_own, hasT_n, hasT_c, Nat.reduceBEq, Bool.false_and, Bool.and_false, Bool.true_and, Bool.and_true, Bool.or_false, Bool.false_or, Bool.or_true, Bool.true_or, beq_self_eq_true, not_true_eq_false, not_false_eq_true, List.append_assoc, dl_e, dt_e, ta_n, ta_c, List.all_cons, List.all_nil, Nat.zero_le, call_q, cq_0, cq_1, cq_2, atD_0, atD_1, vr_pair, nmS_pair, si_list, si_tup, y_lc, reduceCtorEq, y_tcons, y_tnil, ite_sb, pk_var, pq_sh, pq_top, pq_own, pk_op, pk_call, pk_lit, pk_con, pk_lst, pk_tup, pk_lc, pk_ife, pk_or, pk_and, nmS_list, nmT_ints, nmT_snoc, vr_int, vr_bool, vr_str, vr_none, o_rev, o_slc1, t_none, t_list, t_tup, isn_none, isn_int, isn_tup, isn_list, isn_bool, io_none, o_addl, List.isEmpty_cons, List.isEmpty_nil, s_par3, s_appK, s_ret2, r2_own, s_appM, s_forT, io_lsh, io_top, bq_ft, bq_tf]
  · have q : ¬ inC f l i = true := by unfold inC; simp; omega
    rw [if_neg q]
    have em : ((xs ++ [col]).map encCol) = xs.map encCol ++ [.list (col.map encM)] := by rw [List.map_append]; rfl
    rw [em]
    unfold encCol
    refine ⟨.top [], .inr rfl, ?_⟩
    rcases how with rfl | rfl
    · apply Exists.intro
      apply And.intro
      · simp -implicitDefEqProofs only [List.map, param, List.length_cons, List.length_nil, s_cons, s_nil, s_iff, s_asg, s_par, s_drop, s_app, s_for, s_whl, s_kill, s_brk, s_cnt, s_pass, s_nev, s_retv, s_retN, r_lit, r_con, r_op, r_call, r_and, r_or, r_ife, r_chain, r_lst, r_tup, r_lc, rv, y_op, y_call, y_and, y_or, y_ife, y_chain, y_one, y_more, y_lst, y_tup, y_nil, y_cons, y_pnil, y_pcons, y_var, y_lit, y_con, y_ex, y_rng1, y_rng2, y_enum, y_zip, Nat.sub_self, List.replicate, List.cons_append, List.nil_append, List.append_nil, List.getElem?_cons_zero, List.getElem?_cons_succ, vr_sh, vr_own, vr_top, Option.bind_some, Option.map_some, Option.bind_none, Option.map_none, f_le, f_lt, f_gt, f_ge, boolD_some, cho_some, nmS_boolD, nmS_int, nmS_str, nmS_none, nmS_nil, Nat.reduceSub, Nat.reduceAdd, Nat.reduceLT, Nat.reduceLeDiff, ite_b, ite_true, ite_false, if_true, if_false, Bool.false_eq_true, o_neg', o_not', o_add', o_sub', o_mul', o_div', o_mod', o_abs', o_int', o_intb', o_min', o_max', o_gcd', o_lt', o_le', o_gt', o_ge', o_eq', o_ne', o_lenl, o_lent, o_idxl, o_idxt, o_isn', o_isnn', t_bool, t_int, nxt_nx, nxt_rt, nxt_bk, nxt_ct, nxt_if, rb_rt, rb_nx, rb_if, p_nm, p_tup, p_lst, p_nil, p_cons, cmO, c_nm, c_tup, c_lst, c_nil, c_cons, stO, Ow.tags, frz_n, frz_c, ff_nil, ff_cons, f1_none, f1_sh, f1_top, f1_own, w_nil, w_cons, List.set_cons_zero, List.set_cons_succ, intD, lstD, lvl, forF, whlC, lcF, and_self, Bool.not_eq_true', decide_eq_true_eq, decide_eq_false_iff_not, Bool.and_eq_true, Bool.and_eq_false_imp, and_true, true_and, own_q, oq_own, oq_top, put_o, put_t, io_int, io_bool, io_str, io_own, hasT_n, hasT_c, Nat.reduceBEq, Bool.false_and, Bool.and_false, Bool.true_and, Bool.and_true, Bool.or_false, Bool.false_or, Bool.or_true, Bool.true_or, beq_self_eq_true, not_true_eq_false, not_false_eq_true, List.append_assoc, dl_e, dt_e, ta_n, ta_c, List.all_cons, List.all_nil, Nat.zero_le, call_q, cq_0, cq_1, cq_2, atD_0, atD_1, vr_pair, nmS_pair, si_list, si_tup, y_lc, reduceCtorEq, y_tcons, y_tnil, ite_sb, pk_var, pq_sh, pq_top, pq_own, pk_op, pk_call, pk_lit, pk_con, pk_lst, pk_tup, pk_lc, pk_ife, pk_or, pk_and, nmS_list, nmT_ints, nmT_snoc, vr_int, vr_bool, vr_str, vr_none, o_rev, o_slc1, t_none, t_list, t_tup, isn_none, isn_int, isn_tup, isn_list, isn_bool, io_none, o_addl, List.isEmpty_cons, List.isEmpty_nil, s_par3, s_appK, s_ret2, r2_own, s_appM, s_forT, io_lsh, io_top, bq_ft, bq_tf, c1, List.length_map, lx, h0, h1, h2, h4]
        rfl
      · simp -implicitDefEqProofs only [List.map, param, List.length_cons, List.length_nil, s_cons, s_nil, s_iff, s_asg, s_par, s_drop, s_app, s_for, s_whl, s_kill, s_brk, s_cnt, s_pass, s_nev, s_retv, s_retN, r_lit, r_con, r_op, r_call, r_and, r_or, r_ife, r_chain, r_lst, r_tup, r_lc, rv, y_op, y_call, y_and, y_or, y_ife, y_chain, y_one, y_more, y_lst, y_tup, y_nil, y_cons, y_pnil, y_pcons, y_var, y_lit, y_con, y_ex, y_rng1, y_rng2, y_enum, y_zip, Nat.sub_self, List.replicate, List.cons_append, List.nil_append, List.append_nil, List.getElem?_cons_zero, List.getElem?_cons_succ, vr_sh, vr_own, vr_top, Option.bind_some, Option.map_some, Option.bind_none, Option.map_none, f_le, f_lt, f_gt, f_ge, boolD_some, cho_some, nmS_boolD, nmS_int, nmS_str, nmS_none, nmS_nil, Nat.reduceSub, Nat.reduceAdd, Nat.reduceLT, Nat.reduceLeDiff, ite_b, ite_true, ite_false, if_true, if_false, Bool.false_eq_true, o_neg', o_not', o_add', o_sub', o_mul', o_div', o_mod', o_abs', o_int', o_intb', o_min', o_max', o_gcd', o_lt', o_le', o_gt', o_ge', o_eq', o_ne', o_lenl, o_lent, o_idxl, o_idxt, o_isn', o_isnn', t_bool, t_int, nxt_nx, nxt_rt, nxt_bk, nxt_ct, nxt_if, rb_rt, rb_nx, rb_if, p_nm, p_tup, p_lst, p_nil, p_cons, cmO, c_nm, c_tup, c_lst, c_nil, c_cons, stO, Ow.tags, frz_n, frz_c, ff_nil, ff_cons, f1_none, f1_sh, f1_top, f1_own, w_nil, w_cons, List.set_cons_zero, List.set_cons_succ, intD, lstD, lvl, forF, whlC, lcF, and_self, Bool.not_eq_true', decide_eq_true_eq, decide_eq_false_iff_not, Bool.and_eq_true, Bool.and_eq_false_imp, and_true, true_and, own_q, oq_own, oq_top, put_o, put_t, io_int, io_bool, io_str, io_own, hasT_n, hasT_c, Nat.reduceBEq, Bool.false_and, Bool.and_false, Bool.true_and, Bool.and_true, Bool.or_false, Bool.false_or, Bool.or_true, Bool.true_or, beq_self_eq_true, not_true_eq_false, not_false_eq_true, List.append_assoc, dl_e, dt_e, ta_n, ta_c, List.all_cons, List.all_nil, Nat.zero_le, call_q, cq_0, cq_1, cq_2, atD_0, atD_1, vr_pair, nmS_pair, si_list, si_tup, y_lc, reduceCtorEq, y_tcons, y_tnil, ite_sb, pk_var, pq_sh, pq_top, pq_own, pk_op, pk_call, pk_lit, pk_con, pk_lst, pk_tup, pk_lc, pk_ife, pk_or, pk_and, nmS_list, nmT_ints, nmT_snoc, vr_int, vr_bool, vr_str, vr_none, o_rev, o_slc1, t_none, t_list, t_tup, isn_none, isn_int, isn_tup, isn_list, isn_bool, io_none, o_addl, List.isEmpty_cons, List.isEmpty_nil, s_par3, s_appK, s_ret2, r2_own, s_appM, s_forT, io_lsh, io_top, bq_ft, bq_tf]
    · apply Exists.intro
      apply And.intro
      · simp -implicitDefEqProofs only [List.map, param, List.length_cons, List.length_nil, s_cons, s_nil, s_iff, s_asg, s_par, s_drop, s_app, s_for, s_whl, s_kill, s_brk, s_cnt, s_pass, s_nev, s_retv, s_retN, r_lit, r_con, r_op, r_call, r_and, r_or, r_ife, r_chain, r_lst, r_tup, r_lc, rv, y_op, y_call, y_and, y_or, y_ife, y_chain, y_one, y_more, y_lst, y_tup, y_nil, y_cons, y_pnil, y_pcons, y_var, y_lit, y_con, y_ex, y_rng1, y_rng2, y_enum, y_zip, Nat.sub_self, List.replicate, List.cons_append, List.nil_append, List.append_nil, List.getElem?_cons_zero, List.getElem?_cons_succ, vr_sh, vr_own, vr_top, Option.bind_some, Option.map_some, Option.bind_none, Option.map_none, f_le, f_lt, f_gt, f_ge, boolD_some, cho_some, nmS_boolD, nmS_int, nmS_str, nmS_none, nmS_nil, Nat.reduceSub, Nat.reduceAdd, Nat.reduceLT, Nat.reduceLeDiff, ite_b, ite_true, ite_false, if_true, if_false, Bool.false_eq_true, o_neg', o_not', o_add', o_sub', o_mul', o_div', o_mod', o_abs', o_int', o_intb', o_min', o_max', o_gcd', o_lt', o_le', o_gt', o_ge', o_eq', o_ne', o_lenl, o_lent, o_idxl, o_idxt, o_isn', o_isnn', t_bool, t_int, nxt_nx, nxt_rt, nxt_bk, nxt_ct, nxt_if, rb_rt, rb_nx, rb_if, p_nm, p_tup, p_lst, p_nil, p_cons, cmO, c_nm, c_tup, c_lst, c_nil, c_cons, stO, Ow.tags, frz_n, frz_c, ff_nil, ff_cons, f1_none, f1_sh, f1_top, f1_own, w_nil, w_cons, List.set_cons_zero, List.set_cons_succ, intD, lstD, lvl, forF, whlC, lcF, and_self, Bool.not_eq_true', decide_eq_true_eq, decide_eq_false_iff_not, Bool.and_eq_true, Bool.and_eq_false_imp, and_true, true_and, own_q, oq_own, oq_top, put_o, put_t, io_int, io_bool, io_str, io_own, hasT_n, hasT_c, Nat.reduceBEq, Bool.false_and, Bool.and_false, Bool.true_and, Bool.and_true, Bool.or_false, Bool.false_or, Bool.or_true, Bool.true_or, beq_self_eq_true, not_true_eq_false, not_false_eq_true, List.append_assoc, dl_e, dt_e, ta_n, ta_c, List.all_cons, List.all_nil, Nat.zero_le, call_q, cq_0, cq_1, cq_2, atD_0, atD_1, vr_pair, nmS_pair, si_list, si_tup, y_lc, reduceCtorEq, y_tcons, y_tnil, ite_sb, pk_var, pq_sh, pq_top, pq_own, pk_op, pk_call, pk_lit, pk_con, pk_lst, pk_tup, pk_lc, pk_ife, pk_or, pk_and, nmS_list, nmT_ints, nmT_snoc, vr_int, vr_bool, vr_str, vr_none, o_rev, o_slc1, t_none, t_list, t_tup, isn_none, isn_int, isn_tup, isn_list, isn_bool, io_none, o_addl, List.isEmpty_cons, List.isEmpty_nil, s_par3, s_appK, s_ret2, r2_own, s_appM, s_forT, io_lsh, io_top, bq_ft, bq_tf, c1, List.length_map, lx, h0, h1, h2, h4]
        rfl
      · simp -implicitDefEqProofs only [List.map, param, List.length_cons, List.length_nil, s_cons, s_nil, s_iff, s_asg, s_par, s_drop, s_app, s_for, s_whl, s_kill, s_brk, s_cnt, s_pass, s_nev, s_retv, s_retN, r_lit, r_con, r_op, r_call, r_and, r_or, r_ife, r_chain, r_lst, r_tup, r_lc, rv, y_op, y_call, y_and, y_or, y_ife, y_chain, y_one, y_more, y_lst, y_tup, y_nil, y_cons, y_pnil, y_pcons, y_var, y_lit, y_con, y_ex, y_rng1, y_rng2, y_enum, y_zip, Nat.sub_self, List.replicate, List.cons_append, List.nil_append, List.append_nil, List.getElem?_cons_zero, List.getElem?_cons_succ, vr_sh, vr_own, vr_top, Option.bind_some, Option.map_some, Option.bind_none, Option.map_none, f_le, f_lt, f_gt, f_ge, boolD_some, cho_some, nmS_boolD, nmS_int, nmS_str, nmS_none, nmS_nil, Nat.reduceSub, Nat.reduceAdd, Nat.reduceLT, Nat.reduceLeDiff, ite_b, ite_true, ite_false, if_true, if_false, Bool.false_eq_true, o_neg', o_not', o_add', o_sub', o_mul', o_div', o_mod', o_abs', o_int', o_intb', o_min', o_max', o_gcd', o_lt', o_le', o_gt', o_ge', o_eq', o_ne', o_lenl, o_lent, o_idxl, o_idxt, o_isn', o_isnn', t_bool, t_int, nxt_nx, nxt_rt, nxt_bk, nxt_ct, nxt_if, rb_rt, rb_nx, rb_if, p_nm, p_tup, p_lst, p_nil, p_cons, cmO, c_nm, c_tup, c_lst, c_nil, c_cons, stO, Ow.tags, frz_n, frz_c, ff_nil, ff_cons, f1_none, f1_sh, f1_top, f1_own, w_nil, w_cons, List.set_cons_zero, List.set_cons_succ, intD, lstD, lvl, forF, whlC, lcF, and_self, Bool.not_eq_true', decide_eq_true_eq, decide_eq_false_iff_not, Bool.and_eq_true, Bool.and_eq_false_imp, and_true, true_and, own_q, oq_own, oq_top, put_o, put_t, io_int, io_bool, io_str, io_own, hasT_n, hasT_c, Nat.reduceBEq, Bool.false_and, Bool.and_false, Bool.true_and, Bool.and_true, Bool.or_false, Bool.false_or, Bool.or_true, Bool.true_or, beq_self_eq_true, not_true_eq_false, not_false_eq_true, List.append_assoc, dl_e, dt_e, ta_n, ta_c, List.all_cons, List.all_nil, Nat.zero_le, call_q, cq_0, cq_1, cq_2, atD_0, atD_1, vr_pair, nmS_pair, si_list, si_tup, y_lc, reduceCtorEq, y_tcons, y_tnil, ite_sb, pk_var, pq_sh, pq_top, pq_own, pk_op, pk_call, pk_lit, pk_con, pk_lst, pk_tup, pk_lc, pk_ife, pk_or, pk_and, nmS_list, nmT_ints, nmT_snoc, vr_int, vr_bool, vr_str, vr_none, o_rev, o_slc1, t_none, t_list, t_tup, isn_none, isn_int, isn_tup, isn_list, isn_bool, io_none, o_addl, List.isEmpty_cons, List.isEmpty_nil, s_par3, s_appK, s_ret2, r2_own, s_appM, s_forT, io_lsh, io_top, bq_ft, bq_tf]
theorem at_last (X : List D) (Y : D) : atD (X ++ [Y]) (-1) = some Y := by
  unfold atD
  have hl : (X ++ [Y]).length = X.length + 1 := by simp
  have e : ixN (X ++ [Y]).length (-1) = some X.length := by
    unfold ixN
    rw [hl, if_neg (by decide), if_pos (by omega)]
    congr 1
    omega
  rw [e]
  simp
theorem doneC_ok (cs : List Col) (f l d n : Nat) (h : okD cs.length cs (.cut f l d)) (hl : cs.length ≤ 900) : ∃ lv, (lv = 1 ∨ lv = 2) ∧ runFd Φ W fd_done [encCols cs, encD (.cut f l d), .int (n : Int)] = some (encCols (stepD cs n (.cut f l d)), lv) := by
  obtain ⟨o1, o2, o3, o4⟩ := h
  have key := for_inv (k := [8, 9]) (fun (p : Col × Nat) => PyData.tuple [.int (p.2 : Int), encCol p.1]) (fun i ρ => ∃ (ow : Ow), (ow = .own ∨ ow = .top []) ∧ ρ = [some (encCols cs, .sh []), some (encD (.cut f l d), .sh []), some (.int (n : Int), .sh []), some (.list (((cs.take i).mapIdx (cutC f l d)).map encCol), ow), some (.str "cut", .sh []), some (.int (f : Int), .sh []), some (.int (l : Int), .sh []), some (.int (d : Int), .sh []), none, none])
    (forF Φ W (.tp (.cons (.nm 8) (.cons (.nm 9) .nil))) b0_done) (fun i ρ ⟨ow, h, e⟩ => ⟨ow, h, by rw [e]; simp -implicitDefEqProofs only [List.map, param, List.length_cons, List.length_nil, s_cons, s_nil, s_iff, s_asg, s_par, s_drop, s_app, s_for, s_whl, s_kill, s_brk, s_cnt, s_pass, s_nev, s_retv, s_retN, r_lit, r_con, r_op, r_call, r_and, r_or, r_ife, r_chain, r_lst, r_tup, r_lc, rv, y_op, y_call, y_and, y_or, y_ife, y_chain, y_one, y_more, y_lst, y_tup, y_nil, y_cons, y_pnil, y_pcons, y_var, y_lit, y_con, y_ex, y_rng1, y_rng2, y_enum, y_zip, Nat.sub_self, List.replicate, List.cons_append, List.nil_append, List.append_nil, List.getElem?_cons_zero, List.getElem?_cons_succ, vr_sh, vr_own, vr_top, Option.bind_some, Option.map_some, Option.bind_none, Option.map_none, f_le, f_lt, f_gt, f_ge, boolD_some, cho_some, nmS_boolD, nmS_int, nmS_str, nmS_none, nmS_nil, Nat.reduceSub, Nat.reduceAdd, Nat.reduceLT, Nat.reduceLeDiff, ite_b, ite_true, ite_false, if_true, if_false, Bool.false_eq_true, o_neg', o_not', o_add', o_sub', o_mul', o_div', o_mod', o_abs', o_int', o_intb', o_min', o_max', o_gcd', o_lt', o_le', o_gt', o_ge', o_eq', o_ne', o_lenl, o_lent, o_idxl, o_idxt, o_isn', o_isnn', t_bool, t_int, nxt_nx, nxt_rt, nxt_bk, nxt_ct, nxt_if, rb_rt, rb_nx, rb_if, p_nm, p_tup, p_lst, p_nil, p_cons, cmO, c_nm, c_tup, c_lst, c_nil, c_cons, stO, Ow.tags, frz_n, frz_c, ff_nil, ff_cons, f1_none, f1_sh, f1_top, f1_own, w_nil, w_cons, List.set_cons_zero, List.set_cons_succ, intD, lstD, lvl, forF, whlC, lcF, and_self, Bool.not_eq_true', decide_eq_true_eq, decide_eq_false_iff_not, Bool.and_eq_true, Bool.and_eq_false_imp, and_true, true_and, own_q, oq_own, oq_top, put_o, put_t, io_int, io_bool, io_str, io_own, hasT_n, hasT_c, Nat.reduceBEq, Bool.false_and, Bool.and_false, Bool.true_and, Bool.and_true, Bool.or_false, Bool.false_or, Bool.or_true, Bool.true_or, beq_self_eq_true, not_true_eq_false, not_false_eq_true, List.append_assoc, dl_e, dt_e, ta_n, ta_c, List.all_cons, List.all_nil, Nat.zero_le, call_q, cq_0, cq_1, cq_2, atD_0, atD_1, vr_pair, nmS_pair, si_list, si_tup, y_lc, reduceCtorEq, y_tcons, y_tnil, ite_sb, pk_var, pq_sh, pq_top, pq_own, pk_op, pk_call, pk_lit, pk_con, pk_lst, pk_tup, pk_lc, pk_ife, pk_or, pk_and, nmS_list, nmT_ints, nmT_snoc, vr_int, vr_bool, vr_str, vr_none, o_rev, o_slc1, t_none, t_list, t_tup, isn_none, isn_int, isn_tup, isn_list, isn_bool, io_none, o_addl, List.isEmpty_cons, List.isEmpty_nil, s_par3, s_appK, s_ret2, r2_own, s_appM, s_forT, io_lsh, io_top, bq_ft, bq_tf]⟩) cs.zipIdx 0 [some (encCols cs, .sh []), some (encD (.cut f l d), .sh []), some (.int (n : Int), .sh []), some (.list [], .own), some (.str "cut", .sh []), some (.int (f : Int), .sh []), some (.int (l : Int), .sh []), some (.int (d : Int), .sh []), none, none] ⟨.own, .inl rfl, rfl⟩ (fun j x ρ hx hI => ?_)
  · obtain ⟨ρ', e, ow, how, e2⟩ := key
    rw [e2, List.length_zipIdx, Nat.zero_add, List.take_length] at e
    have er : stepD cs n (.cut f l d) = cs.mapIdx (cutC f l d) := rfl
    rw [er]
    obtain ⟨sub, hsub⟩ : ∃ sub, sub = (cs.drop f).take (l + 1 - f) := ⟨_, rfl⟩
    have ct : cutD (cs.map encCol) (some (f : Int)) (some ((l : Int) + 1)) = sub.map encCol := by
      have e : (l : Int) + 1 = ((l + 1 : Nat) : Int) := by omega
      rw [e, cut_both, hsub, List.map_take, List.map_drop]
    have sl : ∀ g h k, opR (.slc true true) [(.list (cs.map encCol), g), (.int (f : Int), h), (.int ((l : Int) + 1), k)] = some (.list (sub.map encCol), nmT (.list (sub.map encCol)) (g ++ (h ++ k))) := fun g h k => by
      simp only [opR, opF, List.map, oSlc, ct, List.flatten_cons, List.flatten_nil, List.append_nil]
    have lc : ∀ g, lcRun (lcF Φ [9] (.op .ge (.cons (.op .len (.cons (.var 9) .nil)) (.cons (.var 7) .nil))) (.nm 9) .nil g [some (encCols cs, .sh []), some (encD (.cut f l d), .sh []), some (.int (n : Int), .sh []), none, some (.str "cut", .sh []), some (.int (f : Int), .sh []), some (.int (l : Int), .sh []), some (.int (d : Int), .sh []), none, none]) (sub.map encCol) =
        some (sub.map fun c => ((PyData.bool (decide ((d : Int) ≤ (c.length : Int))), Ow.sh []) : R)) := fun g => by
      refine lc_map encCol _ _ sub fun c hc => ?_
      unfold encCol
      cases g with
      | nil => simp -implicitDefEqProofs only [List.map, param, List.length_cons, List.length_nil, s_cons, s_nil, s_iff, s_asg, s_par, s_drop, s_app, s_for, s_whl, s_kill, s_brk, s_cnt, s_pass, s_nev, s_retv, s_retN, r_lit, r_con, r_op, r_call, r_and, r_or, r_ife, r_chain, r_lst, r_tup, r_lc, rv, y_op, y_call, y_and, y_or, y_ife, y_chain, y_one, y_more, y_lst, y_tup, y_nil, y_cons, y_pnil, y_pcons, y_var, y_lit, y_con, y_ex, y_rng1, y_rng2, y_enum, y_zip, Nat.sub_self, List.replicate, List.cons_append, List.nil_append, List.append_nil, List.getElem?_cons_zero, List.getElem?_cons_succ, vr_sh, vr_own, vr_top, Option.bind_some, Option.map_some, Option.bind_none, Option.map_none, f_le, f_lt, f_gt, f_ge, boolD_some, cho_some, nmS_boolD, nmS_int, nmS_str, nmS_none, nmS_nil, Nat.reduceSub, Nat.reduceAdd, Nat.reduceLT, Nat.reduceLeDiff, ite_b, ite_true, ite_false, if_true, if_false, Bool.false_eq_true, o_neg', o_not', o_add', o_sub', o_mul', o_div', o_mod', o_abs', o_int', o_intb', o_min', o_max', o_gcd', o_lt', o_le', o_gt', o_ge', o_eq', o_ne', o_lenl, o_lent, o_idxl, o_idxt, o_isn', o_isnn', t_bool, t_int, nxt_nx, nxt_rt, nxt_bk, nxt_ct, nxt_if, rb_rt, rb_nx, rb_if, p_nm, p_tup, p_lst, p_nil, p_cons, cmO, c_nm, c_tup, c_lst, c_nil, c_cons, stO, Ow.tags, frz_n, frz_c, ff_nil, ff_cons, f1_none, f1_sh, f1_top, f1_own, w_nil, w_cons, List.set_cons_zero, List.set_cons_succ, intD, lstD, lvl, forF, whlC, lcF, and_self, Bool.not_eq_true', decide_eq_true_eq, decide_eq_false_iff_not, Bool.and_eq_true, Bool.and_eq_false_imp, and_true, true_and, own_q, oq_own, oq_top, put_o, put_t, io_int, io_bool, io_str, io_own, hasT_n, hasT_c, Nat.reduceBEq, Bool.false_and, Bool.and_false, Bool.true_and, Bool.and_true, Bool.or_false, Bool.false_or, Bool.or_true, Bool.true_or, beq_self_eq_true, not_true_eq_false, not_false_eq_true, List.append_assoc, dl_e, dt_e, ta_n, ta_c, List.all_cons, List.all_nil, Nat.zero_le, call_q, cq_0, cq_1, cq_2, atD_0, atD_1, vr_pair, nmS_pair, si_list, si_tup, y_lc, reduceCtorEq, y_tcons, y_tnil, ite_sb, pk_var, pq_sh, pq_top, pq_own, pk_op, pk_call, pk_lit, pk_con, pk_lst, pk_tup, pk_lc, pk_ife, pk_or, pk_and, nmS_list, nmT_ints, nmT_snoc, vr_int, vr_bool, vr_str, vr_none, o_rev, o_slc1, t_none, t_list, t_tup, isn_none, isn_int, isn_tup, isn_list, isn_bool, io_none, o_addl, List.isEmpty_cons, List.isEmpty_nil, s_par3, s_appK, s_ret2, r2_own, s_appM, s_forT, io_lsh, io_top, bq_ft, bq_tf, List.length_map]
      | cons t g => simp -implicitDefEqProofs only [List.map, param, List.length_cons, List.length_nil, s_cons, s_nil, s_iff, s_asg, s_par, s_drop, s_app, s_for, s_whl, s_kill, s_brk, s_cnt, s_pass, s_nev, s_retv, s_retN, r_lit, r_con, r_op, r_call, r_and, r_or, r_ife, r_chain, r_lst, r_tup, r_lc, rv, y_op, y_call, y_and, y_or, y_ife, y_chain, y_one, y_more, y_lst, y_tup, y_nil, y_cons, y_pnil, y_pcons, y_var, y_lit, y_con, y_ex, y_rng1, y_rng2, y_enum, y_zip, Nat.sub_self, List.replicate, List.cons_append, List.nil_append, List.append_nil, List.getElem?_cons_zero, List.getElem?_cons_succ, vr_sh, vr_own, vr_top, Option.bind_some, Option.map_some, Option.bind_none, Option.map_none, f_le, f_lt, f_gt, f_ge, boolD_some, cho_some, nmS_boolD, nmS_int, nmS_str, nmS_none, nmS_nil, Nat.reduceSub, Nat.reduceAdd, Nat.reduceLT, Nat.reduceLeDiff, ite_b, ite_true, ite_false, if_true, if_false, Bool.false_eq_true, o_neg', o_not', o_add', o_sub', o_mul', o_div', o_mod', o_abs', o_int', o_intb', o_min', o_max', o_gcd', o_lt', o_le', o_gt', o_ge', o_eq', o_ne', o_lenl, o_lent, o_idxl, o_idxt, o_isn', o_isnn', t_bool, t_int, nxt_nx, nxt_rt, nxt_bk, nxt_ct, nxt_if, rb_rt, rb_nx, rb_if, p_nm, p_tup, p_lst, p_nil, p_cons, cmO, c_nm, c_tup, c_lst, c_nil, c_cons, stO, Ow.tags, frz_n, frz_c, ff_nil, ff_cons, f1_none, f1_sh, f1_top, f1_own, w_nil, w_cons, List.set_cons_zero, List.set_cons_succ, intD, lstD, lvl, forF, whlC, lcF, and_self, Bool.not_eq_true', decide_eq_true_eq, decide_eq_false_iff_not, Bool.and_eq_true, Bool.and_eq_false_imp, and_true, true_and, own_q, oq_own, oq_top, put_o, put_t, io_int, io_bool, io_str, io_own, hasT_n, hasT_c, Nat.reduceBEq, Bool.false_and, Bool.and_false, Bool.true_and, Bool.and_true, Bool.or_false, Bool.false_or, Bool.or_true, Bool.true_or, beq_self_eq_true, not_true_eq_false, not_false_eq_true, List.append_assoc, dl_e, dt_e, ta_n, ta_c, List.all_cons, List.all_nil, Nat.zero_le, call_q, cq_0, cq_1, cq_2, atD_0, atD_1, vr_pair, nmS_pair, si_list, si_tup, y_lc, reduceCtorEq, y_tcons, y_tnil, ite_sb, pk_var, pq_sh, pq_top, pq_own, pk_op, pk_call, pk_lit, pk_con, pk_lst, pk_tup, pk_lc, pk_ife, pk_or, pk_and, nmS_list, nmT_ints, nmT_snoc, vr_int, vr_bool, vr_str, vr_none, o_rev, o_slc1, t_none, t_list, t_tup, isn_none, isn_int, isn_tup, isn_list, isn_bool, io_none, o_addl, List.isEmpty_cons, List.isEmpty_nil, s_par3, s_appK, s_ret2, r2_own, s_appM, s_forT, io_lsh, io_top, bq_ft, bq_tf, List.length_map]
    have al : ∀ g, opR .all [(.list ((sub.map fun c => ((PyData.bool (decide ((d : Int) ≤ (c.length : Int))), Ow.sh []) : R)).map (fun x => x.1)), g)] = some (.bool true, .sh []) := fun g => by
      have e : (sub.map fun c => ((PyData.bool (decide ((d : Int) ≤ (c.length : Int))), Ow.sh []) : R)).map (fun x => x.1) = (sub.map fun c => decide ((d : Int) ≤ (c.length : Int))).map .bool := by rw [List.map_map, List.map_map]; rfl
      rw [e, o_all, List.all_map]
      congr 3
      rw [List.all_eq_true]
      intro c hc
      rw [hsub] at hc
      obtain ⟨i, hi⟩ := List.mem_iff_getElem?.mp hc
      have il := (List.getElem?_eq_some_iff.mp hi).1
      rw [List.length_take, List.length_drop] at il
      rw [List.getElem?_take, if_pos (by omega), List.getElem?_drop] at hi
      have := o4 (f + i) c hi (by unfold inC; simp; omega)
      show decide ((d : Int) ≤ (c.length : Int)) = true
      simp
      omega
    have ls : sub.length ≤ 1000000 := by rw [hsub, List.length_take, List.length_drop]; omega
    unfold encCols at *
    unfold encD at *
    unfold fd_done
    refine Exists.imp (fun lv (h : (lv = 1 ∨ lv = 2) ∧ _) => ⟨h.1, (run_fd (by rfl)).trans h.2⟩) ?_
    rcases how with rfl | rfl
    · refine ⟨2, .inr rfl, ?_⟩
      simp -implicitDefEqProofs only [List.map, param, List.length_cons, List.length_nil, s_cons, s_nil, s_iff, s_asg, s_par, s_drop, s_app, s_for, s_whl, s_kill, s_brk, s_cnt, s_pass, s_nev, s_retv, s_retN, r_lit, r_con, r_op, r_call, r_and, r_or, r_ife, r_chain, r_lst, r_tup, r_lc, rv, y_op, y_call, y_and, y_or, y_ife, y_chain, y_one, y_more, y_lst, y_tup, y_nil, y_cons, y_pnil, y_pcons, y_var, y_lit, y_con, y_ex, y_rng1, y_rng2, y_enum, y_zip, Nat.sub_self, List.replicate, List.cons_append, List.nil_append, List.append_nil, List.getElem?_cons_zero, List.getElem?_cons_succ, vr_sh, vr_own, vr_top, Option.bind_some, Option.map_some, Option.bind_none, Option.map_none, f_le, f_lt, f_gt, f_ge, boolD_some, cho_some, nmS_boolD, nmS_int, nmS_str, nmS_none, nmS_nil, Nat.reduceSub, Nat.reduceAdd, Nat.reduceLT, Nat.reduceLeDiff, ite_b, ite_true, ite_false, if_true, if_false, Bool.false_eq_true, o_neg', o_not', o_add', o_sub', o_mul', o_div', o_mod', o_abs', o_int', o_intb', o_min', o_max', o_gcd', o_lt', o_le', o_gt', o_ge', o_eq', o_ne', o_lenl, o_lent, o_idxl, o_idxt, o_isn', o_isnn', t_bool, t_int, nxt_nx, nxt_rt, nxt_bk, nxt_ct, nxt_if, rb_rt, rb_nx, rb_if, p_nm, p_tup, p_lst, p_nil, p_cons, cmO, c_nm, c_tup, c_lst, c_nil, c_cons, stO, Ow.tags, frz_n, frz_c, ff_nil, ff_cons, f1_none, f1_sh, f1_top, f1_own, w_nil, w_cons, List.set_cons_zero, List.set_cons_succ, intD, lstD, lvl, forF, whlC, lcF, and_self, Bool.not_eq_true', decide_eq_true_eq, decide_eq_false_iff_not, Bool.and_eq_true, Bool.and_eq_false_imp, and_true, true_and, own_q, oq_own, oq_top, put_o, put_t, io_int, io_bool, io_str, io_own, hasT_n, hasT_c, Nat.reduceBEq, Bool.false_and, Bool.and_false, Bool.true_and, Bool.and_true, Bool.or_false, Bool.false_or, Bool.or_true, Bool.true_or, beq_self_eq_true, not_true_eq_false, not_false_eq_true, List.append_assoc, dl_e, dt_e, ta_n, ta_c, List.all_cons, List.all_nil, Nat.zero_le, call_q, cq_0, cq_1, cq_2, atD_0, atD_1, vr_pair, nmS_pair, si_list, si_tup, y_lc, reduceCtorEq, y_tcons, y_tnil, ite_sb, pk_var, pq_sh, pq_top, pq_own, pk_op, pk_call, pk_lit, pk_con, pk_lst, pk_tup, pk_lc, pk_ife, pk_or, pk_and, nmS_list, nmT_ints, nmT_snoc, vr_int, vr_bool, vr_str, vr_none, o_rev, o_slc1, t_none, t_list, t_tup, isn_none, isn_int, isn_tup, isn_list, isn_bool, io_none, o_addl, List.isEmpty_cons, List.isEmpty_nil, s_par3, s_appK, s_ret2, r2_own, s_appM, s_forT, io_lsh, io_top, bq_ft, bq_tf, eq_cutlay, a4_0, sl, List.length_map, ls, lc, al, enum_map, e]
    · refine ⟨1, .inl rfl, ?_⟩
      simp -implicitDefEqProofs only [List.map, param, List.length_cons, List.length_nil, s_cons, s_nil, s_iff, s_asg, s_par, s_drop, s_app, s_for, s_whl, s_kill, s_brk, s_cnt, s_pass, s_nev, s_retv, s_retN, r_lit, r_con, r_op, r_call, r_and, r_or, r_ife, r_chain, r_lst, r_tup, r_lc, rv, y_op, y_call, y_and, y_or, y_ife, y_chain, y_one, y_more, y_lst, y_tup, y_nil, y_cons, y_pnil, y_pcons, y_var, y_lit, y_con, y_ex, y_rng1, y_rng2, y_enum, y_zip, Nat.sub_self, List.replicate, List.cons_append, List.nil_append, List.append_nil, List.getElem?_cons_zero, List.getElem?_cons_succ, vr_sh, vr_own, vr_top, Option.bind_some, Option.map_some, Option.bind_none, Option.map_none, f_le, f_lt, f_gt, f_ge, boolD_some, cho_some, nmS_boolD, nmS_int, nmS_str, nmS_none, nmS_nil, Nat.reduceSub, Nat.reduceAdd, Nat.reduceLT, Nat.reduceLeDiff, ite_b, ite_true, ite_false, if_true, if_false, Bool.false_eq_true, o_neg', o_not', o_add', o_sub', o_mul', o_div', o_mod', o_abs', o_int', o_intb', o_min', o_max', o_gcd', o_lt', o_le', o_gt', o_ge', o_eq', o_ne', o_lenl, o_lent, o_idxl, o_idxt, o_isn', o_isnn', t_bool, t_int, nxt_nx, nxt_rt, nxt_bk, nxt_ct, nxt_if, rb_rt, rb_nx, rb_if, p_nm, p_tup, p_lst, p_nil, p_cons, cmO, c_nm, c_tup, c_lst, c_nil, c_cons, stO, Ow.tags, frz_n, frz_c, ff_nil, ff_cons, f1_none, f1_sh, f1_top, f1_own, w_nil, w_cons, List.set_cons_zero, List.set_cons_succ, intD, lstD, lvl, forF, whlC, lcF, and_self, Bool.not_eq_true', decide_eq_true_eq, decide_eq_false_iff_not, Bool.and_eq_true, Bool.and_eq_false_imp, and_true, true_and, own_q, oq_own, oq_top, put_o, put_t, io_int, io_bool, io_str, io_own, hasT_n, hasT_c, Nat.reduceBEq, Bool.false_and, Bool.and_false, Bool.true_and, Bool.and_true, Bool.or_false, Bool.false_or, Bool.or_true, Bool.true_or, beq_self_eq_true, not_true_eq_false, not_false_eq_true, List.append_assoc, dl_e, dt_e, ta_n, ta_c, List.all_cons, List.all_nil, Nat.zero_le, call_q, cq_0, cq_1, cq_2, atD_0, atD_1, vr_pair, nmS_pair, si_list, si_tup, y_lc, reduceCtorEq, y_tcons, y_tnil, ite_sb, pk_var, pq_sh, pq_top, pq_own, pk_op, pk_call, pk_lit, pk_con, pk_lst, pk_tup, pk_lc, pk_ife, pk_or, pk_and, nmS_list, nmT_ints, nmT_snoc, vr_int, vr_bool, vr_str, vr_none, o_rev, o_slc1, t_none, t_list, t_tup, isn_none, isn_int, isn_tup, isn_list, isn_bool, io_none, o_addl, List.isEmpty_cons, List.isEmpty_nil, s_par3, s_appK, s_ret2, r2_own, s_appM, s_forT, io_lsh, io_top, bq_ft, bq_tf, eq_cutlay, a4_0, sl, List.length_map, ls, lc, al, enum_map, e]
  · obtain ⟨ow, how, rfl⟩ := hI
    obtain ⟨hx1, hx2⟩ := idx_at hx
    rw [Nat.zero_add, hx2]
    obtain ⟨ow', how', ρ', c1, c2⟩ := done1_ok (Φ := Φ) (W := W) (some (encCols cs, .sh [])) (some (encD (.cut f l d), .sh [])) (some (.int (n : Int), .sh [])) (some (.str "cut", .sh [])) f l d j x.1 ((cs.take j).mapIdx (cutC f l d)) ow how (fun q => o4 j x.1 hx1 q) (by rw [List.length_mapIdx, List.length_take]; omega) rfl rfl rfl rfl
    refine ⟨ρ', .inl c1, ow', how', ?_⟩
    rw [c2]
    have et : cs.take (j + 1) = cs.take j ++ [x.1] := by rw [List.take_add_one, hx1]; rfl
    have jl := (List.getElem?_eq_some_iff.mp hx1).1
    have el : (cs.take j).length = j := by rw [List.length_take]; omega
    rw [et, List.mapIdx_append]
    congr 4
    show _ = some (PyData.list _, ow')
    simp [el]
theorem nT_cols (cs : List Col) (h : cs ≠ []) (g : List Tag) : nmT (.list (cs.map encCol)) g = .top g := by
  cases cs with
  | nil => exact absurd rfl h
  | cons c cs => exact nmT_deep
theorem St_bd (w : Nat) : ∀ ds : List Deed, ∀ col ∈ (St w ds).1, col.length ≤ ds.length := by
  refine snoc_ind _ (fun col h => ?_) fun l a ih col h => ?_
  · have : col = [] := List.eq_of_mem_replicate h
    rw [this]
    exact Nat.le_refl _
  · rw [St_snoc] at h
    rw [List.length_append, List.length_singleton]
    cases a with
    | lay m =>
      obtain ⟨c0, h0, rfl⟩ := List.mem_map.mp h
      rw [List.length_append, List.length_singleton]
      have := ih c0 h0
      omega
    | cut f l2 d =>
      obtain ⟨i, hi, rfl⟩ := List.mem_mapIdx.mp h
      have := ih _ (List.getElem_mem hi)
      unfold cutC
      split
      · rw [List.length_take]; omega
      · omega
def inc1 : Deed → Nat
  | .lay _ => 1
  | .cut _ _ _ => 0
def wordD : Deed → D
  | .lay _ => .str "lay"
  | .cut _ _ _ => .str "cut"
def isLay : Deed → Bool
  | .lay _ => true
  | .cut _ _ _ => false
theorem St_inc (w : Nat) (ds : List Deed) (d : Deed) : (St w (ds ++ [d])).2 = (St w ds).2 + inc1 d := by
  rw [St_snoc]
  cases d <;> rfl
theorem ix_word (d : Deed) (g h : List Tag) : opR .idx [(encD d, g), (.int 0, h)] = some (wordD d, .sh []) := by
  cases d with
  | lay m => unfold encD wordD; simp -implicitDefEqProofs only [List.map, param, List.length_cons, List.length_nil, s_cons, s_nil, s_iff, s_asg, s_par, s_drop, s_app, s_for, s_whl, s_kill, s_brk, s_cnt, s_pass, s_nev, s_retv, s_retN, r_lit, r_con, r_op, r_call, r_and, r_or, r_ife, r_chain, r_lst, r_tup, r_lc, rv, y_op, y_call, y_and, y_or, y_ife, y_chain, y_one, y_more, y_lst, y_tup, y_nil, y_cons, y_pnil, y_pcons, y_var, y_lit, y_con, y_ex, y_rng1, y_rng2, y_enum, y_zip, Nat.sub_self, List.replicate, List.cons_append, List.nil_append, List.append_nil, List.getElem?_cons_zero, List.getElem?_cons_succ, vr_sh, vr_own, vr_top, Option.bind_some, Option.map_some, Option.bind_none, Option.map_none, f_le, f_lt, f_gt, f_ge, boolD_some, cho_some, nmS_boolD, nmS_int, nmS_str, nmS_none, nmS_nil, Nat.reduceSub, Nat.reduceAdd, Nat.reduceLT, Nat.reduceLeDiff, ite_b, ite_true, ite_false, if_true, if_false, Bool.false_eq_true, o_neg', o_not', o_add', o_sub', o_mul', o_div', o_mod', o_abs', o_int', o_intb', o_min', o_max', o_gcd', o_lt', o_le', o_gt', o_ge', o_eq', o_ne', o_lenl, o_lent, o_idxl, o_idxt, o_isn', o_isnn', t_bool, t_int, nxt_nx, nxt_rt, nxt_bk, nxt_ct, nxt_if, rb_rt, rb_nx, rb_if, p_nm, p_tup, p_lst, p_nil, p_cons, cmO, c_nm, c_tup, c_lst, c_nil, c_cons, stO, Ow.tags, frz_n, frz_c, ff_nil, ff_cons, f1_none, f1_sh, f1_top, f1_own, w_nil, w_cons, List.set_cons_zero, List.set_cons_succ, intD, lstD, lvl, forF, whlC, lcF, and_self, Bool.not_eq_true', decide_eq_true_eq, decide_eq_false_iff_not, Bool.and_eq_true, Bool.and_eq_false_imp, and_true, true_and, own_q, oq_own, oq_top, put_o, put_t, io_int, io_bool, io_str, io_own, hasT_n, hasT_c, Nat.reduceBEq, Bool.false_and, Bool.and_false, Bool.true_and, Bool.and_true, Bool.or_false, Bool.false_or, Bool.or_true, Bool.true_or, beq_self_eq_true, not_true_eq_false, not_false_eq_true, List.append_assoc, dl_e, dt_e, ta_n, ta_c, List.all_cons, List.all_nil, Nat.zero_le, call_q, cq_0, cq_1, cq_2, atD_0, atD_1, vr_pair, nmS_pair, si_list, si_tup, y_lc, reduceCtorEq, y_tcons, y_tnil, ite_sb, pk_var, pq_sh, pq_top, pq_own, pk_op, pk_call, pk_lit, pk_con, pk_lst, pk_tup, pk_lc, pk_ife, pk_or, pk_and, nmS_list, nmT_ints, nmT_snoc, vr_int, vr_bool, vr_str, vr_none, o_rev, o_slc1, t_none, t_list, t_tup, isn_none, isn_int, isn_tup, isn_list, isn_bool, io_none, o_addl, List.isEmpty_cons, List.isEmpty_nil, s_par3, s_appK, s_ret2, r2_own, s_appM, s_forT, io_lsh, io_top, bq_ft, bq_tf]
  | cut a b c => unfold encD wordD; simp -implicitDefEqProofs only [List.map, param, List.length_cons, List.length_nil, s_cons, s_nil, s_iff, s_asg, s_par, s_drop, s_app, s_for, s_whl, s_kill, s_brk, s_cnt, s_pass, s_nev, s_retv, s_retN, r_lit, r_con, r_op, r_call, r_and, r_or, r_ife, r_chain, r_lst, r_tup, r_lc, rv, y_op, y_call, y_and, y_or, y_ife, y_chain, y_one, y_more, y_lst, y_tup, y_nil, y_cons, y_pnil, y_pcons, y_var, y_lit, y_con, y_ex, y_rng1, y_rng2, y_enum, y_zip, Nat.sub_self, List.replicate, List.cons_append, List.nil_append, List.append_nil, List.getElem?_cons_zero, List.getElem?_cons_succ, vr_sh, vr_own, vr_top, Option.bind_some, Option.map_some, Option.bind_none, Option.map_none, f_le, f_lt, f_gt, f_ge, boolD_some, cho_some, nmS_boolD, nmS_int, nmS_str, nmS_none, nmS_nil, Nat.reduceSub, Nat.reduceAdd, Nat.reduceLT, Nat.reduceLeDiff, ite_b, ite_true, ite_false, if_true, if_false, Bool.false_eq_true, o_neg', o_not', o_add', o_sub', o_mul', o_div', o_mod', o_abs', o_int', o_intb', o_min', o_max', o_gcd', o_lt', o_le', o_gt', o_ge', o_eq', o_ne', o_lenl, o_lent, o_idxl, o_idxt, o_isn', o_isnn', t_bool, t_int, nxt_nx, nxt_rt, nxt_bk, nxt_ct, nxt_if, rb_rt, rb_nx, rb_if, p_nm, p_tup, p_lst, p_nil, p_cons, cmO, c_nm, c_tup, c_lst, c_nil, c_cons, stO, Ow.tags, frz_n, frz_c, ff_nil, ff_cons, f1_none, f1_sh, f1_top, f1_own, w_nil, w_cons, List.set_cons_zero, List.set_cons_succ, intD, lstD, lvl, forF, whlC, lcF, and_self, Bool.not_eq_true', decide_eq_true_eq, decide_eq_false_iff_not, Bool.and_eq_true, Bool.and_eq_false_imp, and_true, true_and, own_q, oq_own, oq_top, put_o, put_t, io_int, io_bool, io_str, io_own, hasT_n, hasT_c, Nat.reduceBEq, Bool.false_and, Bool.and_false, Bool.true_and, Bool.and_true, Bool.or_false, Bool.false_or, Bool.or_true, Bool.true_or, beq_self_eq_true, not_true_eq_false, not_false_eq_true, List.append_assoc, dl_e, dt_e, ta_n, ta_c, List.all_cons, List.all_nil, Nat.zero_le, call_q, cq_0, cq_1, cq_2, atD_0, atD_1, vr_pair, nmS_pair, si_list, si_tup, y_lc, reduceCtorEq, y_tcons, y_tnil, ite_sb, pk_var, pq_sh, pq_top, pq_own, pk_op, pk_call, pk_lit, pk_con, pk_lst, pk_tup, pk_lc, pk_ife, pk_or, pk_and, nmS_list, nmT_ints, nmT_snoc, vr_int, vr_bool, vr_str, vr_none, o_rev, o_slc1, t_none, t_list, t_tup, isn_none, isn_int, isn_tup, isn_list, isn_bool, io_none, o_addl, List.isEmpty_cons, List.isEmpty_nil, s_par3, s_appK, s_ret2, r2_own, s_appM, s_forT, io_lsh, io_top, bq_ft, bq_tf, a4_0]
theorem eq_word (d : Deed) (g h : List Tag) : opR .eq [(wordD d, g), (.str "lay", h)] = some (.bool (isLay d), .sh []) := by
  cases d with
  | lay m => exact eq_lay g h
  | cut a b c => exact eq_cutlay g h
theorem eq_wordc (d : Deed) (g h : List Tag) : opR .eq [(wordD d, g), (.str "cut", h)] = some (.bool (!isLay d), .sh []) := by
  cases d with
  | lay m => exact eq_laycut g h
  | cut a b c => exact eq_cut g h
/-- the columns after each deed -/
def rowsB (w : Nat) (ds : List Deed) (i : Nat) : List D := (List.range i).map fun j => encCols (St w (ds.take j)).1
theorem behind1_ok (w : Nat) (ds : List Deed) (hw : 1 ≤ w ∧ w ≤ 4) (hn : ds.length ≤ 41) (i : Nat) (d : Deed) (hd : ds[i]? = some d) (ok : okD w (St w (ds.take i)).1 d) (ow : Ow) (how : ow = .own ∨ ow = .top [])
    (f0 : Φ 0 [.int (w : Int), encD d] = some (.bool true, 0)) (f1 : ∃ lv, (lv = 1 ∨ lv = 2) ∧ Φ 1 [encCols (St w (ds.take i)).1, encD d, .int ((St w (ds.take i)).2 : Int)] = some (encCols (St w (ds.take (i + 1))).1, lv)) :
    ∃ ow', (ow' = .own ∨ ow' = .top []) ∧ ∃ ρ', forF Φ W (.tp (.cons (.nm 4) (.cons (.nm 5) .nil))) b0_all_behind (.tuple [.int (i : Int), encD d]) [some (.int (w : Int), .sh []), some (encDs ds, .sh []), some (.list (rowsB w ds (i + 1)), ow), some (.int ((St w (ds.take i)).2 : Int), .sh []), none, none, none, none] = some (.nx ρ') ∧
      wipeR [4, 5, 6] ρ' = [some (.int (w : Int), .sh []), some (encDs ds, .sh []), some (.list (rowsB w ds (i + 2)), ow'), some (.int ((St w (ds.take (i + 1))).2 : Int), .sh []), none, none, none, none] := by
  obtain ⟨lv, hlv, f1⟩ := f1
  have il := (List.getElem?_eq_some_iff.mp hd).1
  have et : ds.take (i + 1) = ds.take i ++ [d] := by rw [List.take_add_one, hd]; rfl
  have e1 : rowsB w ds (i + 1) = rowsB w ds i ++ [encCols (St w (ds.take i)).1] := by unfold rowsB; rw [List.range_succ, List.map_append]; rfl
  have e2 : rowsB w ds (i + 2) = rowsB w ds i ++ [encCols (St w (ds.take i)).1] ++ [encCols (St w (ds.take (i + 1))).1] := by
    have : rowsB w ds (i + 2) = rowsB w ds (i + 1) ++ [encCols (St w (ds.take (i + 1))).1] := by unfold rowsB; rw [List.range_succ, List.map_append]; rfl
    rw [this, e1]
  have en : (St w (ds.take (i + 1))).2 = (St w (ds.take i)).2 + inc1 d := (congrArg (fun l => (St w l).2) et).trans (St_inc w _ d)
  have ne : (St w (ds.take (i + 1))).1 ≠ [] := fun z => by
    have := St_len w (ds.take (i + 1))
    rw [z] at this
    simp at this
    omega
  have nT := nT_cols _ ne
  have lX : (rowsB w ds i).length + 1 < 1000000 := by unfold rowsB; rw [List.length_map, List.length_range]; omega
  have al : ∀ Y, atD (rowsB w ds i ++ [Y]) (-1) = some Y := at_last _
  have fd : flat (encD d) = true := flatD d
  have nd : ∀ g, nmS (encD d) g = .sh [] := fun g => nmS_flat fd
  rw [e1, e2, en]
  generalize hX : rowsB w ds i = X at *
  generalize (St w (ds.take i)).2 = n at *
  generalize (St w (ds.take i)).1 = cs at *
  generalize (St w (ds.take (i + 1))).1 = cs' at *
  unfold encCols encDs at *
  unfold b0_all_behind
  have eN : ((n + inc1 d : Nat) : Int) = (n : Int) + (if isLay d = true then 1 else 0) := by
    cases d <;> rfl
  rw [eN]
  refine ⟨.top [], .inr rfl, ?_⟩
  rcases hlv with rfl | rfl <;> rcases how with rfl | rfl
  all_goals
    apply Exists.intro
    apply And.intro
    · simp -implicitDefEqProofs only [List.map, param, List.length_cons, List.length_nil, s_cons, s_nil, s_iff, s_asg, s_par, s_drop, s_app, s_for, s_whl, s_kill, s_brk, s_cnt, s_pass, s_nev, s_retv, s_retN, r_lit, r_con, r_op, r_call, r_and, r_or, r_ife, r_chain, r_lst, r_tup, r_lc, rv, y_op, y_call, y_and, y_or, y_ife, y_chain, y_one, y_more, y_lst, y_tup, y_nil, y_cons, y_pnil, y_pcons, y_var, y_lit, y_con, y_ex, y_rng1, y_rng2, y_enum, y_zip, Nat.sub_self, List.replicate, List.cons_append, List.nil_append, List.append_nil, List.getElem?_cons_zero, List.getElem?_cons_succ, vr_sh, vr_own, vr_top, Option.bind_some, Option.map_some, Option.bind_none, Option.map_none, f_le, f_lt, f_gt, f_ge, boolD_some, cho_some, nmS_boolD, nmS_int, nmS_str, nmS_none, nmS_nil, Nat.reduceSub, Nat.reduceAdd, Nat.reduceLT, Nat.reduceLeDiff, ite_b, ite_true, ite_false, if_true, if_false, Bool.false_eq_true, o_neg', o_not', o_add', o_sub', o_mul', o_div', o_mod', o_abs', o_int', o_intb', o_min', o_max', o_gcd', o_lt', o_le', o_gt', o_ge', o_eq', o_ne', o_lenl, o_lent, o_idxl, o_idxt, o_isn', o_isnn', t_bool, t_int, nxt_nx, nxt_rt, nxt_bk, nxt_ct, nxt_if, rb_rt, rb_nx, rb_if, p_nm, p_tup, p_lst, p_nil, p_cons, cmO, c_nm, c_tup, c_lst, c_nil, c_cons, stO, Ow.tags, frz_n, frz_c, ff_nil, ff_cons, f1_none, f1_sh, f1_top, f1_own, w_nil, w_cons, List.set_cons_zero, List.set_cons_succ, intD, lstD, lvl, forF, whlC, lcF, and_self, Bool.not_eq_true', decide_eq_true_eq, decide_eq_false_iff_not, Bool.and_eq_true, Bool.and_eq_false_imp, and_true, true_and, own_q, oq_own, oq_top, put_o, put_t, io_int, io_bool, io_str, io_own, hasT_n, hasT_c, Nat.reduceBEq, Bool.false_and, Bool.and_false, Bool.true_and, Bool.and_true, Bool.or_false, Bool.false_or, Bool.or_true, Bool.true_or, beq_self_eq_true, not_true_eq_false, not_false_eq_true, List.append_assoc, dl_e, dt_e, ta_n, ta_c, List.all_cons, List.all_nil, Nat.zero_le, call_q, cq_0, cq_1, cq_2, atD_0, atD_1, vr_pair, nmS_pair, si_list, si_tup, y_lc, reduceCtorEq, y_tcons, y_tnil, ite_sb, pk_var, pq_sh, pq_top, pq_own, pk_op, pk_call, pk_lit, pk_con, pk_lst, pk_tup, pk_lc, pk_ife, pk_or, pk_and, nmS_list, nmT_ints, nmT_snoc, vr_int, vr_bool, vr_str, vr_none, o_rev, o_slc1, t_none, t_list, t_tup, isn_none, isn_int, isn_tup, isn_list, isn_bool, io_none, o_addl, List.isEmpty_cons, List.isEmpty_nil, s_par3, s_appK, s_ret2, r2_own, s_appM, s_forT, io_lsh, io_top, bq_ft, bq_tf, f0, f1, al, nT, nd, ix_word, eq_word, lX, List.length_append]
      rfl
    · simp -implicitDefEqProofs only [List.map, param, List.length_cons, List.length_nil, s_cons, s_nil, s_iff, s_asg, s_par, s_drop, s_app, s_for, s_whl, s_kill, s_brk, s_cnt, s_pass, s_nev, s_retv, s_retN, r_lit, r_con, r_op, r_call, r_and, r_or, r_ife, r_chain, r_lst, r_tup, r_lc, rv, y_op, y_call, y_and, y_or, y_ife, y_chain, y_one, y_more, y_lst, y_tup, y_nil, y_cons, y_pnil, y_pcons, y_var, y_lit, y_con, y_ex, y_rng1, y_rng2, y_enum, y_zip, Nat.sub_self, List.replicate, List.cons_append, List.nil_append, List.append_nil, List.getElem?_cons_zero, List.getElem?_cons_succ, vr_sh, vr_own, vr_top, Option.bind_some, Option.map_some, Option.bind_none, Option.map_none, f_le, f_lt, f_gt, f_ge, boolD_some, cho_some, nmS_boolD, nmS_int, nmS_str, nmS_none, nmS_nil, Nat.reduceSub, Nat.reduceAdd, Nat.reduceLT, Nat.reduceLeDiff, ite_b, ite_true, ite_false, if_true, if_false, Bool.false_eq_true, o_neg', o_not', o_add', o_sub', o_mul', o_div', o_mod', o_abs', o_int', o_intb', o_min', o_max', o_gcd', o_lt', o_le', o_gt', o_ge', o_eq', o_ne', o_lenl, o_lent, o_idxl, o_idxt, o_isn', o_isnn', t_bool, t_int, nxt_nx, nxt_rt, nxt_bk, nxt_ct, nxt_if, rb_rt, rb_nx, rb_if, p_nm, p_tup, p_lst, p_nil, p_cons, cmO, c_nm, c_tup, c_lst, c_nil, c_cons, stO, Ow.tags, frz_n, frz_c, ff_nil, ff_cons, f1_none, f1_sh, f1_top, f1_own, w_nil, w_cons, List.set_cons_zero, List.set_cons_succ, intD, lstD, lvl, forF, whlC, lcF, and_self, Bool.not_eq_true', decide_eq_true_eq, decide_eq_false_iff_not, Bool.and_eq_true, Bool.and_eq_false_imp, and_true, true_and, own_q, oq_own, oq_top, put_o, put_t, io_int, io_bool, io_str, io_own, hasT_n, hasT_c, Nat.reduceBEq, Bool.false_and, Bool.and_false, Bool.true_and, Bool.and_true, Bool.or_false, Bool.false_or, Bool.or_true, Bool.true_or, beq_self_eq_true, not_true_eq_false, not_false_eq_true, List.append_assoc, dl_e, dt_e, ta_n, ta_c, List.all_cons, List.all_nil, Nat.zero_le, call_q, cq_0, cq_1, cq_2, atD_0, atD_1, vr_pair, nmS_pair, si_list, si_tup, y_lc, reduceCtorEq, y_tcons, y_tnil, ite_sb, pk_var, pq_sh, pq_top, pq_own, pk_op, pk_call, pk_lit, pk_con, pk_lst, pk_tup, pk_lc, pk_ife, pk_or, pk_and, nmS_list, nmT_ints, nmT_snoc, vr_int, vr_bool, vr_str, vr_none, o_rev, o_slc1, t_none, t_list, t_tup, isn_none, isn_int, isn_tup, isn_list, isn_bool, io_none, o_addl, List.isEmpty_cons, List.isEmpty_nil, s_par3, s_appK, s_ret2, r2_own, s_appM, s_forT, io_lsh, io_top, bq_ft, bq_tf]
theorem rowsB_last (w : Nat) (ds : List Deed) : rowsB w ds (ds.length + 1) = rowsB w ds ds.length ++ [encCols (St w ds).1] := by
  unfold rowsB
  rw [List.range_succ, List.map_append]
  show _ ++ [encCols (St w (ds.take ds.length)).1] = _
  rw [List.take_length]
theorem behind_ok (w : Nat) (ds : List Deed) (hw : 1 ≤ w ∧ w ≤ 4) (hn : ds.length ≤ 40) (ok : okAll w ds)
    (f0 : ∀ d, okS w d → Φ 0 [.int (w : Int), encD d] = some (.bool true, 0)) (f1 : ∀ (cs : List Col) (n : Nat) (d : Deed), cs.length = w → okD w cs d → (∀ c ∈ cs, c.length ≤ 900) → ∃ lv, (lv = 1 ∨ lv = 2) ∧ Φ 1 [encCols cs, encD d, .int (n : Int)] = some (encCols (stepD cs n d), lv)) :
    ∃ lv, (lv = 1 ∨ lv = 2) ∧ runFd Φ W fd_all_behind [.int (w : Int), encDs ds] = some (.list (rowsB w ds (ds.length + 1)), lv) := by
  have key := for_inv (k := [4, 5, 6]) (fun (p : Deed × Nat) => PyData.tuple [.int (p.2 : Int), encD p.1]) (fun i ρ => ∃ (ow : Ow), (ow = .own ∨ ow = .top []) ∧ ρ = [some (.int (w : Int), .sh []), some (encDs ds, .sh []), some (.list (rowsB w ds (i + 1)), ow), some (.int ((St w (ds.take i)).2 : Int), .sh []), none, none, none, none])
    (forF Φ W (.tp (.cons (.nm 4) (.cons (.nm 5) .nil))) b0_all_behind) (fun i ρ ⟨ow, h, e⟩ => ⟨ow, h, by rw [e]; simp -implicitDefEqProofs only [List.map, param, List.length_cons, List.length_nil, s_cons, s_nil, s_iff, s_asg, s_par, s_drop, s_app, s_for, s_whl, s_kill, s_brk, s_cnt, s_pass, s_nev, s_retv, s_retN, r_lit, r_con, r_op, r_call, r_and, r_or, r_ife, r_chain, r_lst, r_tup, r_lc, rv, y_op, y_call, y_and, y_or, y_ife, y_chain, y_one, y_more, y_lst, y_tup, y_nil, y_cons, y_pnil, y_pcons, y_var, y_lit, y_con, y_ex, y_rng1, y_rng2, y_enum, y_zip, Nat.sub_self, List.replicate, List.cons_append, List.nil_append, List.append_nil, List.getElem?_cons_zero, List.getElem?_cons_succ, vr_sh, vr_own, vr_top, Option.bind_some, Option.map_some, Option.bind_none, Option.map_none, f_le, f_lt, f_gt, f_ge, boolD_some, cho_some, nmS_boolD, nmS_int, nmS_str, nmS_none, nmS_nil, Nat.reduceSub, Nat.reduceAdd, Nat.reduceLT, Nat.reduceLeDiff, ite_b, ite_true, ite_false, if_true, if_false, Bool.false_eq_true, o_neg', o_not', o_add', o_sub', o_mul', o_div', o_mod', o_abs', o_int', o_intb', o_min', o_max', o_gcd', o_lt', o_le', o_gt', o_ge', o_eq', o_ne', o_lenl, o_lent, o_idxl, o_idxt, o_isn', o_isnn', t_bool, t_int, nxt_nx, nxt_rt, nxt_bk, nxt_ct, nxt_if, rb_rt, rb_nx, rb_if, p_nm, p_tup, p_lst, p_nil, p_cons, cmO, c_nm, c_tup, c_lst, c_nil, c_cons, stO, Ow.tags, frz_n, frz_c, ff_nil, ff_cons, f1_none, f1_sh, f1_top, f1_own, w_nil, w_cons, List.set_cons_zero, List.set_cons_succ, intD, lstD, lvl, forF, whlC, lcF, and_self, Bool.not_eq_true', decide_eq_true_eq, decide_eq_false_iff_not, Bool.and_eq_true, Bool.and_eq_false_imp, and_true, true_and, own_q, oq_own, oq_top, put_o, put_t, io_int, io_bool, io_str, io_own, hasT_n, hasT_c, Nat.reduceBEq, Bool.false_and, Bool.and_false, Bool.true_and, Bool.and_true, Bool.or_false, Bool.false_or, Bool.or_true, Bool.true_or, beq_self_eq_true, not_true_eq_false, not_false_eq_true, List.append_assoc, dl_e, dt_e, ta_n, ta_c, List.all_cons, List.all_nil, Nat.zero_le, call_q, cq_0, cq_1, cq_2, atD_0, atD_1, vr_pair, nmS_pair, si_list, si_tup, y_lc, reduceCtorEq, y_tcons, y_tnil, ite_sb, pk_var, pq_sh, pq_top, pq_own, pk_op, pk_call, pk_lit, pk_con, pk_lst, pk_tup, pk_lc, pk_ife, pk_or, pk_and, nmS_list, nmT_ints, nmT_snoc, vr_int, vr_bool, vr_str, vr_none, o_rev, o_slc1, t_none, t_list, t_tup, isn_none, isn_int, isn_tup, isn_list, isn_bool, io_none, o_addl, List.isEmpty_cons, List.isEmpty_nil, s_par3, s_appK, s_ret2, r2_own, s_appM, s_forT, io_lsh, io_top, bq_ft, bq_tf]⟩) ds.zipIdx 0 _ ⟨.own, .inl rfl, rfl⟩ (fun j x ρ hx hI => ?_)
  · obtain ⟨ρ', e, ow, how, e2⟩ := key
    rw [e2, List.length_zipIdx, Nat.zero_add] at e
    have lc : ∀ g, lcRun (lcF Φ [7] (.lst .nil) (.nm 7) .nil g [some (.int (w : Int), .sh []), some (encDs ds, .sh []), none, none, none, none, none, none]) ((List.range w).map fun (i : Nat) => PyData.int (i : Int)) = some ((List.range w).map fun _ => ((PyData.list [], Ow.own) : R)) := fun g => by
      refine lc_map (fun (i : Nat) => PyData.int (i : Int)) _ _ _ fun i hi => ?_
      simp -implicitDefEqProofs only [List.map, param, List.length_cons, List.length_nil, s_cons, s_nil, s_iff, s_asg, s_par, s_drop, s_app, s_for, s_whl, s_kill, s_brk, s_cnt, s_pass, s_nev, s_retv, s_retN, r_lit, r_con, r_op, r_call, r_and, r_or, r_ife, r_chain, r_lst, r_tup, r_lc, rv, y_op, y_call, y_and, y_or, y_ife, y_chain, y_one, y_more, y_lst, y_tup, y_nil, y_cons, y_pnil, y_pcons, y_var, y_lit, y_con, y_ex, y_rng1, y_rng2, y_enum, y_zip, Nat.sub_self, List.replicate, List.cons_append, List.nil_append, List.append_nil, List.getElem?_cons_zero, List.getElem?_cons_succ, vr_sh, vr_own, vr_top, Option.bind_some, Option.map_some, Option.bind_none, Option.map_none, f_le, f_lt, f_gt, f_ge, boolD_some, cho_some, nmS_boolD, nmS_int, nmS_str, nmS_none, nmS_nil, Nat.reduceSub, Nat.reduceAdd, Nat.reduceLT, Nat.reduceLeDiff, ite_b, ite_true, ite_false, if_true, if_false, Bool.false_eq_true, o_neg', o_not', o_add', o_sub', o_mul', o_div', o_mod', o_abs', o_int', o_intb', o_min', o_max', o_gcd', o_lt', o_le', o_gt', o_ge', o_eq', o_ne', o_lenl, o_lent, o_idxl, o_idxt, o_isn', o_isnn', t_bool, t_int, nxt_nx, nxt_rt, nxt_bk, nxt_ct, nxt_if, rb_rt, rb_nx, rb_if, p_nm, p_tup, p_lst, p_nil, p_cons, cmO, c_nm, c_tup, c_lst, c_nil, c_cons, stO, Ow.tags, frz_n, frz_c, ff_nil, ff_cons, f1_none, f1_sh, f1_top, f1_own, w_nil, w_cons, List.set_cons_zero, List.set_cons_succ, intD, lstD, lvl, forF, whlC, lcF, and_self, Bool.not_eq_true', decide_eq_true_eq, decide_eq_false_iff_not, Bool.and_eq_true, Bool.and_eq_false_imp, and_true, true_and, own_q, oq_own, oq_top, put_o, put_t, io_int, io_bool, io_str, io_own, hasT_n, hasT_c, Nat.reduceBEq, Bool.false_and, Bool.and_false, Bool.true_and, Bool.and_true, Bool.or_false, Bool.false_or, Bool.or_true, Bool.true_or, beq_self_eq_true, not_true_eq_false, not_false_eq_true, List.append_assoc, dl_e, dt_e, ta_n, ta_c, List.all_cons, List.all_nil, Nat.zero_le, call_q, cq_0, cq_1, cq_2, atD_0, atD_1, vr_pair, nmS_pair, si_list, si_tup, y_lc, reduceCtorEq, y_tcons, y_tnil, ite_sb, pk_var, pq_sh, pq_top, pq_own, pk_op, pk_call, pk_lit, pk_con, pk_lst, pk_tup, pk_lc, pk_ife, pk_or, pk_and, nmS_list, nmT_ints, nmT_snoc, vr_int, vr_bool, vr_str, vr_none, o_rev, o_slc1, t_none, t_list, t_tup, isn_none, isn_int, isn_tup, isn_list, isn_bool, io_none, o_addl, List.isEmpty_cons, List.isEmpty_nil, s_par3, s_appK, s_ret2, r2_own, s_appM, s_forT, io_lsh, io_top, bq_ft, bq_tf]
    have e1 : [PyData.list (((List.range w).map fun _ => ((PyData.list [], Ow.own) : R)).map (fun x => x.1))] = rowsB w ds 1 := by
      have : ((List.range w).map fun _ => ((PyData.list [], Ow.own) : R)).map (fun x => x.1) = (List.replicate w ([] : Col)).map encCol := by
        rw [List.map_map, List.map_replicate]
        apply List.ext_getElem
        · simp
        · intro i h1 h2
          simp [encCol]
      rw [this]
      rfl
    have o1 : ((List.range w).map fun _ => ((PyData.list [], Ow.own) : R)).all isOwn = true := by
      rw [List.all_map]
      exact List.all_eq_true.mpr fun x _ => rfl
    have z0 : ((St w (ds.take 0)).2 : Int) = 0 := rfl
    rw [Nat.zero_add, z0] at e
    have c1 : (1 : Int) ≤ (w : Int) := by omega
    have c2 : (w : Int) ≤ 4 := by omega
    have c3 : ¬ (40 : Int) < (ds.length : Int) := by omega
    have r1 : rngOk (w : Int) = true := rng_ok (by omega) (by omega)
    have en : (w : Int).toNat = w := Int.toNat_natCast w
    have lw : w ≤ 1000000 := by omega
    unfold encDs at *
    unfold fd_all_behind
    refine Exists.imp (fun lv (h : (lv = 1 ∨ lv = 2) ∧ _) => ⟨h.1, (run_fd (by rfl)).trans h.2⟩) ?_
    rcases how with rfl | rfl
    · refine ⟨2, .inr rfl, ?_⟩
      simp -implicitDefEqProofs only [List.map, param, List.length_cons, List.length_nil, s_cons, s_nil, s_iff, s_asg, s_par, s_drop, s_app, s_for, s_whl, s_kill, s_brk, s_cnt, s_pass, s_nev, s_retv, s_retN, r_lit, r_con, r_op, r_call, r_and, r_or, r_ife, r_chain, r_lst, r_tup, r_lc, rv, y_op, y_call, y_and, y_or, y_ife, y_chain, y_one, y_more, y_lst, y_tup, y_nil, y_cons, y_pnil, y_pcons, y_var, y_lit, y_con, y_ex, y_rng1, y_rng2, y_enum, y_zip, Nat.sub_self, List.replicate, List.cons_append, List.nil_append, List.append_nil, List.getElem?_cons_zero, List.getElem?_cons_succ, vr_sh, vr_own, vr_top, Option.bind_some, Option.map_some, Option.bind_none, Option.map_none, f_le, f_lt, f_gt, f_ge, boolD_some, cho_some, nmS_boolD, nmS_int, nmS_str, nmS_none, nmS_nil, Nat.reduceSub, Nat.reduceAdd, Nat.reduceLT, Nat.reduceLeDiff, ite_b, ite_true, ite_false, if_true, if_false, Bool.false_eq_true, o_neg', o_not', o_add', o_sub', o_mul', o_div', o_mod', o_abs', o_int', o_intb', o_min', o_max', o_gcd', o_lt', o_le', o_gt', o_ge', o_eq', o_ne', o_lenl, o_lent, o_idxl, o_idxt, o_isn', o_isnn', t_bool, t_int, nxt_nx, nxt_rt, nxt_bk, nxt_ct, nxt_if, rb_rt, rb_nx, rb_if, p_nm, p_tup, p_lst, p_nil, p_cons, cmO, c_nm, c_tup, c_lst, c_nil, c_cons, stO, Ow.tags, frz_n, frz_c, ff_nil, ff_cons, f1_none, f1_sh, f1_top, f1_own, w_nil, w_cons, List.set_cons_zero, List.set_cons_succ, intD, lstD, lvl, forF, whlC, lcF, and_self, Bool.not_eq_true', decide_eq_true_eq, decide_eq_false_iff_not, Bool.and_eq_true, Bool.and_eq_false_imp, and_true, true_and, own_q, oq_own, oq_top, put_o, put_t, io_int, io_bool, io_str, io_own, hasT_n, hasT_c, Nat.reduceBEq, Bool.false_and, Bool.and_false, Bool.true_and, Bool.and_true, Bool.or_false, Bool.false_or, Bool.or_true, Bool.true_or, beq_self_eq_true, not_true_eq_false, not_false_eq_true, List.append_assoc, dl_e, dt_e, ta_n, ta_c, List.all_cons, List.all_nil, Nat.zero_le, call_q, cq_0, cq_1, cq_2, atD_0, atD_1, vr_pair, nmS_pair, si_list, si_tup, y_lc, reduceCtorEq, y_tcons, y_tnil, ite_sb, pk_var, pq_sh, pq_top, pq_own, pk_op, pk_call, pk_lit, pk_con, pk_lst, pk_tup, pk_lc, pk_ife, pk_or, pk_and, nmS_list, nmT_ints, nmT_snoc, vr_int, vr_bool, vr_str, vr_none, o_rev, o_slc1, t_none, t_list, t_tup, isn_none, isn_int, isn_tup, isn_list, isn_bool, io_none, o_addl, List.isEmpty_cons, List.isEmpty_nil, s_par3, s_appK, s_ret2, r2_own, s_appM, s_forT, io_lsh, io_top, bq_ft, bq_tf, c1, c2, c3, List.length_map, List.length_range, r1, en, range_items, lw, lc, o1, e1, enum_map, e]
    · refine ⟨1, .inl rfl, ?_⟩
      simp -implicitDefEqProofs only [List.map, param, List.length_cons, List.length_nil, s_cons, s_nil, s_iff, s_asg, s_par, s_drop, s_app, s_for, s_whl, s_kill, s_brk, s_cnt, s_pass, s_nev, s_retv, s_retN, r_lit, r_con, r_op, r_call, r_and, r_or, r_ife, r_chain, r_lst, r_tup, r_lc, rv, y_op, y_call, y_and, y_or, y_ife, y_chain, y_one, y_more, y_lst, y_tup, y_nil, y_cons, y_pnil, y_pcons, y_var, y_lit, y_con, y_ex, y_rng1, y_rng2, y_enum, y_zip, Nat.sub_self, List.replicate, List.cons_append, List.nil_append, List.append_nil, List.getElem?_cons_zero, List.getElem?_cons_succ, vr_sh, vr_own, vr_top, Option.bind_some, Option.map_some, Option.bind_none, Option.map_none, f_le, f_lt, f_gt, f_ge, boolD_some, cho_some, nmS_boolD, nmS_int, nmS_str, nmS_none, nmS_nil, Nat.reduceSub, Nat.reduceAdd, Nat.reduceLT, Nat.reduceLeDiff, ite_b, ite_true, ite_false, if_true, if_false, Bool.false_eq_true, o_neg', o_not', o_add', o_sub', o_mul', o_div', o_mod', o_abs', o_int', o_intb', o_min', o_max', o_gcd', o_lt', o_le', o_gt', o_ge', o_eq', o_ne', o_lenl, o_lent, o_idxl, o_idxt, o_isn', o_isnn', t_bool, t_int, nxt_nx, nxt_rt, nxt_bk, nxt_ct, nxt_if, rb_rt, rb_nx, rb_if, p_nm, p_tup, p_lst, p_nil, p_cons, cmO, c_nm, c_tup, c_lst, c_nil, c_cons, stO, Ow.tags, frz_n, frz_c, ff_nil, ff_cons, f1_none, f1_sh, f1_top, f1_own, w_nil, w_cons, List.set_cons_zero, List.set_cons_succ, intD, lstD, lvl, forF, whlC, lcF, and_self, Bool.not_eq_true', decide_eq_true_eq, decide_eq_false_iff_not, Bool.and_eq_true, Bool.and_eq_false_imp, and_true, true_and, own_q, oq_own, oq_top, put_o, put_t, io_int, io_bool, io_str, io_own, hasT_n, hasT_c, Nat.reduceBEq, Bool.false_and, Bool.and_false, Bool.true_and, Bool.and_true, Bool.or_false, Bool.false_or, Bool.or_true, Bool.true_or, beq_self_eq_true, not_true_eq_false, not_false_eq_true, List.append_assoc, dl_e, dt_e, ta_n, ta_c, List.all_cons, List.all_nil, Nat.zero_le, call_q, cq_0, cq_1, cq_2, atD_0, atD_1, vr_pair, nmS_pair, si_list, si_tup, y_lc, reduceCtorEq, y_tcons, y_tnil, ite_sb, pk_var, pq_sh, pq_top, pq_own, pk_op, pk_call, pk_lit, pk_con, pk_lst, pk_tup, pk_lc, pk_ife, pk_or, pk_and, nmS_list, nmT_ints, nmT_snoc, vr_int, vr_bool, vr_str, vr_none, o_rev, o_slc1, t_none, t_list, t_tup, isn_none, isn_int, isn_tup, isn_list, isn_bool, io_none, o_addl, List.isEmpty_cons, List.isEmpty_nil, s_par3, s_appK, s_ret2, r2_own, s_appM, s_forT, io_lsh, io_top, bq_ft, bq_tf, c1, c2, c3, List.length_map, List.length_range, r1, en, range_items, lw, lc, o1, e1, enum_map, e]
  · obtain ⟨ow, how, rfl⟩ := hI
    obtain ⟨hx1, hx2⟩ := idx_at hx
    rw [Nat.zero_add, hx2]
    have okj := ok j x.1 hx1
    have et : ds.take (j + 1) = ds.take j ++ [x.1] := by rw [List.take_add_one, hx1]; rfl
    have jl := (List.getElem?_eq_some_iff.mp hx1).1
    obtain ⟨lv, hlv, e1⟩ := f1 (St w (ds.take j)).1 (St w (ds.take j)).2 x.1 (St_len w _) okj (fun c hc => by
      have := St_bd w (ds.take j) c hc
      rw [List.length_take] at this
      omega)
    have e2 : stepD (St w (ds.take j)).1 (St w (ds.take j)).2 x.1 = (St w (ds.take (j + 1))).1 := by rw [et, St_snoc]
    rw [e2] at e1
    obtain ⟨ow', how', ρ', c1, c2⟩ := behind1_ok (Φ := Φ) (W := W) w ds hw (by omega) j x.1 hx1 okj ow how (f0 _ (okS_of okj)) ⟨lv, hlv, e1⟩
    exact ⟨ρ', .inl c1, ow', how', c2⟩
def encNs (xs : List Nat) : D := .list (xs.map fun (n : Nat) => .int (n : Int))
def encSec (s : List (List Nat)) : D := .list (s.map encNs)
def secV (w : Nat) (ds : List Deed) : List (List Nat) := (St w ds).1.map marks
def numV (w : Nat) (ds : List Deed) : List (List Nat) := (St w ds).1.map fun c => c.map (·.2)
theorem nt2 (d : List D) : nmT (.list d) [] = .own ∨ nmT (.list d) [] = .top [] := by
  show (if flats d = true then Ow.own else .top []) = .own ∨ (if flats d = true then Ow.own else .top []) = .top []
  split
  · exact .inl rfl
  · exact .inr rfl
theorem run_ok (w : Nat) (ds : List Deed) (hw : w ≤ 1000) (hn : ds.length ≤ 900) (lv : Nat) (hlv : lv = 1 ∨ lv = 2) (f2 : Φ 2 [.int (w : Int), encDs ds] = some (.list (rowsB w ds (ds.length + 1)), lv)) : runFd Φ W fd_run [.int (w : Int), encDs ds] = some (encSec (secV w ds), 2) := by
  rw [rowsB_last] at f2
  have sl := St_len w ds
  have sb := St_bd w ds
  have inn : ∀ (col : Col) (g : List Tag), lcRun (lcF Φ [3, 4] (.var 3) (.tp (.cons (.nm 3) (.cons (.nm 4) .nil))) .nil g [some (.int (w : Int), .sh []), some (encDs ds, .sh []), some (.list (col.map encM), .sh []), none, none]) (col.map encM) = some (col.map fun m => ((PyData.int (m.1 : Int), Ow.sh []) : R)) := fun col g => by
    refine lc_map encM _ _ col fun m hm => ?_
    unfold encM
    simp -implicitDefEqProofs only [List.map, param, List.length_cons, List.length_nil, s_cons, s_nil, s_iff, s_asg, s_par, s_drop, s_app, s_for, s_whl, s_kill, s_brk, s_cnt, s_pass, s_nev, s_retv, s_retN, r_lit, r_con, r_op, r_call, r_and, r_or, r_ife, r_chain, r_lst, r_tup, r_lc, rv, y_op, y_call, y_and, y_or, y_ife, y_chain, y_one, y_more, y_lst, y_tup, y_nil, y_cons, y_pnil, y_pcons, y_var, y_lit, y_con, y_ex, y_rng1, y_rng2, y_enum, y_zip, Nat.sub_self, List.replicate, List.cons_append, List.nil_append, List.append_nil, List.getElem?_cons_zero, List.getElem?_cons_succ, vr_sh, vr_own, vr_top, Option.bind_some, Option.map_some, Option.bind_none, Option.map_none, f_le, f_lt, f_gt, f_ge, boolD_some, cho_some, nmS_boolD, nmS_int, nmS_str, nmS_none, nmS_nil, Nat.reduceSub, Nat.reduceAdd, Nat.reduceLT, Nat.reduceLeDiff, ite_b, ite_true, ite_false, if_true, if_false, Bool.false_eq_true, o_neg', o_not', o_add', o_sub', o_mul', o_div', o_mod', o_abs', o_int', o_intb', o_min', o_max', o_gcd', o_lt', o_le', o_gt', o_ge', o_eq', o_ne', o_lenl, o_lent, o_idxl, o_idxt, o_isn', o_isnn', t_bool, t_int, nxt_nx, nxt_rt, nxt_bk, nxt_ct, nxt_if, rb_rt, rb_nx, rb_if, p_nm, p_tup, p_lst, p_nil, p_cons, cmO, c_nm, c_tup, c_lst, c_nil, c_cons, stO, Ow.tags, frz_n, frz_c, ff_nil, ff_cons, f1_none, f1_sh, f1_top, f1_own, w_nil, w_cons, List.set_cons_zero, List.set_cons_succ, intD, lstD, lvl, forF, whlC, lcF, and_self, Bool.not_eq_true', decide_eq_true_eq, decide_eq_false_iff_not, Bool.and_eq_true, Bool.and_eq_false_imp, and_true, true_and, own_q, oq_own, oq_top, put_o, put_t, io_int, io_bool, io_str, io_own, hasT_n, hasT_c, Nat.reduceBEq, Bool.false_and, Bool.and_false, Bool.true_and, Bool.and_true, Bool.or_false, Bool.false_or, Bool.or_true, Bool.true_or, beq_self_eq_true, not_true_eq_false, not_false_eq_true, List.append_assoc, dl_e, dt_e, ta_n, ta_c, List.all_cons, List.all_nil, Nat.zero_le, call_q, cq_0, cq_1, cq_2, atD_0, atD_1, vr_pair, nmS_pair, si_list, si_tup, y_lc, reduceCtorEq, y_tcons, y_tnil, ite_sb, pk_var, pq_sh, pq_top, pq_own, pk_op, pk_call, pk_lit, pk_con, pk_lst, pk_tup, pk_lc, pk_ife, pk_or, pk_and, nmS_list, nmT_ints, nmT_snoc, vr_int, vr_bool, vr_str, vr_none, o_rev, o_slc1, t_none, t_list, t_tup, isn_none, isn_int, isn_tup, isn_list, isn_bool, io_none, o_addl, List.isEmpty_cons, List.isEmpty_nil, s_par3, s_appK, s_ret2, r2_own, s_appM, s_forT, io_lsh, io_top, bq_ft, bq_tf]
  have ei : ∀ col : Col, (col.map fun m => ((PyData.int (m.1 : Int), Ow.sh []) : R)).map (fun x => x.1) = (marks col).map fun (n : Nat) => PyData.int (n : Int) := fun col => by unfold marks; rw [List.map_map, List.map_map]; rfl
  have oi : ∀ col : Col, (col.map fun m => ((PyData.int (m.1 : Int), Ow.sh []) : R)).all isOwn = true := fun col => by
    rw [List.all_map]
    exact List.all_eq_true.mpr fun x _ => rfl
  have lc : lcRun (lcF Φ [2] (.lc [3, 4] (.var 3) (.tp (.cons (.nm 3) (.cons (.nm 4) .nil))) (.ex (.var 2)) .nil) (.nm 2) .nil [] [some (.int (w : Int), .sh []), some (encDs ds, .sh []), none, none, none]) ((St w ds).1.map encCol) = some ((St w ds).1.map fun col => ((encNs (marks col), Ow.own) : R)) := by
    refine lc_map encCol _ _ _ fun col hc => ?_
    have q : col.length ≤ 1000000 := by have := sb col hc; omega
    unfold encCol encNs
    simp -implicitDefEqProofs only [List.map, param, List.length_cons, List.length_nil, s_cons, s_nil, s_iff, s_asg, s_par, s_drop, s_app, s_for, s_whl, s_kill, s_brk, s_cnt, s_pass, s_nev, s_retv, s_retN, r_lit, r_con, r_op, r_call, r_and, r_or, r_ife, r_chain, r_lst, r_tup, r_lc, rv, y_op, y_call, y_and, y_or, y_ife, y_chain, y_one, y_more, y_lst, y_tup, y_nil, y_cons, y_pnil, y_pcons, y_var, y_lit, y_con, y_ex, y_rng1, y_rng2, y_enum, y_zip, Nat.sub_self, List.replicate, List.cons_append, List.nil_append, List.append_nil, List.getElem?_cons_zero, List.getElem?_cons_succ, vr_sh, vr_own, vr_top, Option.bind_some, Option.map_some, Option.bind_none, Option.map_none, f_le, f_lt, f_gt, f_ge, boolD_some, cho_some, nmS_boolD, nmS_int, nmS_str, nmS_none, nmS_nil, Nat.reduceSub, Nat.reduceAdd, Nat.reduceLT, Nat.reduceLeDiff, ite_b, ite_true, ite_false, if_true, if_false, Bool.false_eq_true, o_neg', o_not', o_add', o_sub', o_mul', o_div', o_mod', o_abs', o_int', o_intb', o_min', o_max', o_gcd', o_lt', o_le', o_gt', o_ge', o_eq', o_ne', o_lenl, o_lent, o_idxl, o_idxt, o_isn', o_isnn', t_bool, t_int, nxt_nx, nxt_rt, nxt_bk, nxt_ct, nxt_if, rb_rt, rb_nx, rb_if, p_nm, p_tup, p_lst, p_nil, p_cons, cmO, c_nm, c_tup, c_lst, c_nil, c_cons, stO, Ow.tags, frz_n, frz_c, ff_nil, ff_cons, f1_none, f1_sh, f1_top, f1_own, w_nil, w_cons, List.set_cons_zero, List.set_cons_succ, intD, lstD, lvl, forF, whlC, lcF, and_self, Bool.not_eq_true', decide_eq_true_eq, decide_eq_false_iff_not, Bool.and_eq_true, Bool.and_eq_false_imp, and_true, true_and, own_q, oq_own, oq_top, put_o, put_t, io_int, io_bool, io_str, io_own, hasT_n, hasT_c, Nat.reduceBEq, Bool.false_and, Bool.and_false, Bool.true_and, Bool.and_true, Bool.or_false, Bool.false_or, Bool.or_true, Bool.true_or, beq_self_eq_true, not_true_eq_false, not_false_eq_true, List.append_assoc, dl_e, dt_e, ta_n, ta_c, List.all_cons, List.all_nil, Nat.zero_le, call_q, cq_0, cq_1, cq_2, atD_0, atD_1, vr_pair, nmS_pair, si_list, si_tup, y_lc, reduceCtorEq, y_tcons, y_tnil, ite_sb, pk_var, pq_sh, pq_top, pq_own, pk_op, pk_call, pk_lit, pk_con, pk_lst, pk_tup, pk_lc, pk_ife, pk_or, pk_and, nmS_list, nmT_ints, nmT_snoc, vr_int, vr_bool, vr_str, vr_none, o_rev, o_slc1, t_none, t_list, t_tup, isn_none, isn_int, isn_tup, isn_list, isn_bool, io_none, o_addl, List.isEmpty_cons, List.isEmpty_nil, s_par3, s_appK, s_ret2, r2_own, s_appM, s_forT, io_lsh, io_top, bq_ft, bq_tf, List.length_map, q, inn, ei, oi]
  have e1 : ((St w ds).1.map fun col => ((encNs (marks col), Ow.own) : R)).map (fun x => x.1) = (secV w ds).map encNs := by unfold secV; rw [List.map_map, List.map_map]; rfl
  have o1 : ((St w ds).1.map fun col => ((encNs (marks col), Ow.own) : R)).all isOwn = true := by
    rw [List.all_map]
    exact List.all_eq_true.mpr fun x _ => rfl
  have l1 : (St w ds).1.length ≤ 1000000 := by omega
  have al := at_last (rowsB w ds ds.length) (encCols (St w ds).1)
  unfold encSec
  generalize rowsB w ds ds.length = X at *
  have nt := nt2 (X ++ [encCols (St w ds).1])
  unfold encDs encCols at *
  unfold fd_run
  refine (run_fd (by rfl)).trans ?_
  rcases hlv with rfl | rfl
  · rcases nt with nt | nt
    · simp -implicitDefEqProofs only [List.map, param, List.length_cons, List.length_nil, s_cons, s_nil, s_iff, s_asg, s_par, s_drop, s_app, s_for, s_whl, s_kill, s_brk, s_cnt, s_pass, s_nev, s_retv, s_retN, r_lit, r_con, r_op, r_call, r_and, r_or, r_ife, r_chain, r_lst, r_tup, r_lc, rv, y_op, y_call, y_and, y_or, y_ife, y_chain, y_one, y_more, y_lst, y_tup, y_nil, y_cons, y_pnil, y_pcons, y_var, y_lit, y_con, y_ex, y_rng1, y_rng2, y_enum, y_zip, Nat.sub_self, List.replicate, List.cons_append, List.nil_append, List.append_nil, List.getElem?_cons_zero, List.getElem?_cons_succ, vr_sh, vr_own, vr_top, Option.bind_some, Option.map_some, Option.bind_none, Option.map_none, f_le, f_lt, f_gt, f_ge, boolD_some, cho_some, nmS_boolD, nmS_int, nmS_str, nmS_none, nmS_nil, Nat.reduceSub, Nat.reduceAdd, Nat.reduceLT, Nat.reduceLeDiff, ite_b, ite_true, ite_false, if_true, if_false, Bool.false_eq_true, o_neg', o_not', o_add', o_sub', o_mul', o_div', o_mod', o_abs', o_int', o_intb', o_min', o_max', o_gcd', o_lt', o_le', o_gt', o_ge', o_eq', o_ne', o_lenl, o_lent, o_idxl, o_idxt, o_isn', o_isnn', t_bool, t_int, nxt_nx, nxt_rt, nxt_bk, nxt_ct, nxt_if, rb_rt, rb_nx, rb_if, p_nm, p_tup, p_lst, p_nil, p_cons, cmO, c_nm, c_tup, c_lst, c_nil, c_cons, stO, Ow.tags, frz_n, frz_c, ff_nil, ff_cons, f1_none, f1_sh, f1_top, f1_own, w_nil, w_cons, List.set_cons_zero, List.set_cons_succ, intD, lstD, lvl, forF, whlC, lcF, and_self, Bool.not_eq_true', decide_eq_true_eq, decide_eq_false_iff_not, Bool.and_eq_true, Bool.and_eq_false_imp, and_true, true_and, own_q, oq_own, oq_top, put_o, put_t, io_int, io_bool, io_str, io_own, hasT_n, hasT_c, Nat.reduceBEq, Bool.false_and, Bool.and_false, Bool.true_and, Bool.and_true, Bool.or_false, Bool.false_or, Bool.or_true, Bool.true_or, beq_self_eq_true, not_true_eq_false, not_false_eq_true, List.append_assoc, dl_e, dt_e, ta_n, ta_c, List.all_cons, List.all_nil, Nat.zero_le, call_q, cq_0, cq_1, cq_2, atD_0, atD_1, vr_pair, nmS_pair, si_list, si_tup, y_lc, reduceCtorEq, y_tcons, y_tnil, ite_sb, pk_var, pq_sh, pq_top, pq_own, pk_op, pk_call, pk_lit, pk_con, pk_lst, pk_tup, pk_lc, pk_ife, pk_or, pk_and, nmS_list, nmT_ints, nmT_snoc, vr_int, vr_bool, vr_str, vr_none, o_rev, o_slc1, t_none, t_list, t_tup, isn_none, isn_int, isn_tup, isn_list, isn_bool, io_none, o_addl, List.isEmpty_cons, List.isEmpty_nil, s_par3, s_appK, s_ret2, r2_own, s_appM, s_forT, io_lsh, io_top, bq_ft, bq_tf, f2, nt, al, List.length_map, l1, lc, e1, o1]
    · simp -implicitDefEqProofs only [List.map, param, List.length_cons, List.length_nil, s_cons, s_nil, s_iff, s_asg, s_par, s_drop, s_app, s_for, s_whl, s_kill, s_brk, s_cnt, s_pass, s_nev, s_retv, s_retN, r_lit, r_con, r_op, r_call, r_and, r_or, r_ife, r_chain, r_lst, r_tup, r_lc, rv, y_op, y_call, y_and, y_or, y_ife, y_chain, y_one, y_more, y_lst, y_tup, y_nil, y_cons, y_pnil, y_pcons, y_var, y_lit, y_con, y_ex, y_rng1, y_rng2, y_enum, y_zip, Nat.sub_self, List.replicate, List.cons_append, List.nil_append, List.append_nil, List.getElem?_cons_zero, List.getElem?_cons_succ, vr_sh, vr_own, vr_top, Option.bind_some, Option.map_some, Option.bind_none, Option.map_none, f_le, f_lt, f_gt, f_ge, boolD_some, cho_some, nmS_boolD, nmS_int, nmS_str, nmS_none, nmS_nil, Nat.reduceSub, Nat.reduceAdd, Nat.reduceLT, Nat.reduceLeDiff, ite_b, ite_true, ite_false, if_true, if_false, Bool.false_eq_true, o_neg', o_not', o_add', o_sub', o_mul', o_div', o_mod', o_abs', o_int', o_intb', o_min', o_max', o_gcd', o_lt', o_le', o_gt', o_ge', o_eq', o_ne', o_lenl, o_lent, o_idxl, o_idxt, o_isn', o_isnn', t_bool, t_int, nxt_nx, nxt_rt, nxt_bk, nxt_ct, nxt_if, rb_rt, rb_nx, rb_if, p_nm, p_tup, p_lst, p_nil, p_cons, cmO, c_nm, c_tup, c_lst, c_nil, c_cons, stO, Ow.tags, frz_n, frz_c, ff_nil, ff_cons, f1_none, f1_sh, f1_top, f1_own, w_nil, w_cons, List.set_cons_zero, List.set_cons_succ, intD, lstD, lvl, forF, whlC, lcF, and_self, Bool.not_eq_true', decide_eq_true_eq, decide_eq_false_iff_not, Bool.and_eq_true, Bool.and_eq_false_imp, and_true, true_and, own_q, oq_own, oq_top, put_o, put_t, io_int, io_bool, io_str, io_own, hasT_n, hasT_c, Nat.reduceBEq, Bool.false_and, Bool.and_false, Bool.true_and, Bool.and_true, Bool.or_false, Bool.false_or, Bool.or_true, Bool.true_or, beq_self_eq_true, not_true_eq_false, not_false_eq_true, List.append_assoc, dl_e, dt_e, ta_n, ta_c, List.all_cons, List.all_nil, Nat.zero_le, call_q, cq_0, cq_1, cq_2, atD_0, atD_1, vr_pair, nmS_pair, si_list, si_tup, y_lc, reduceCtorEq, y_tcons, y_tnil, ite_sb, pk_var, pq_sh, pq_top, pq_own, pk_op, pk_call, pk_lit, pk_con, pk_lst, pk_tup, pk_lc, pk_ife, pk_or, pk_and, nmS_list, nmT_ints, nmT_snoc, vr_int, vr_bool, vr_str, vr_none, o_rev, o_slc1, t_none, t_list, t_tup, isn_none, isn_int, isn_tup, isn_list, isn_bool, io_none, o_addl, List.isEmpty_cons, List.isEmpty_nil, s_par3, s_appK, s_ret2, r2_own, s_appM, s_forT, io_lsh, io_top, bq_ft, bq_tf, f2, nt, al, List.length_map, l1, lc, e1, o1]
  · simp -implicitDefEqProofs only [List.map, param, List.length_cons, List.length_nil, s_cons, s_nil, s_iff, s_asg, s_par, s_drop, s_app, s_for, s_whl, s_kill, s_brk, s_cnt, s_pass, s_nev, s_retv, s_retN, r_lit, r_con, r_op, r_call, r_and, r_or, r_ife, r_chain, r_lst, r_tup, r_lc, rv, y_op, y_call, y_and, y_or, y_ife, y_chain, y_one, y_more, y_lst, y_tup, y_nil, y_cons, y_pnil, y_pcons, y_var, y_lit, y_con, y_ex, y_rng1, y_rng2, y_enum, y_zip, Nat.sub_self, List.replicate, List.cons_append, List.nil_append, List.append_nil, List.getElem?_cons_zero, List.getElem?_cons_succ, vr_sh, vr_own, vr_top, Option.bind_some, Option.map_some, Option.bind_none, Option.map_none, f_le, f_lt, f_gt, f_ge, boolD_some, cho_some, nmS_boolD, nmS_int, nmS_str, nmS_none, nmS_nil, Nat.reduceSub, Nat.reduceAdd, Nat.reduceLT, Nat.reduceLeDiff, ite_b, ite_true, ite_false, if_true, if_false, Bool.false_eq_true, o_neg', o_not', o_add', o_sub', o_mul', o_div', o_mod', o_abs', o_int', o_intb', o_min', o_max', o_gcd', o_lt', o_le', o_gt', o_ge', o_eq', o_ne', o_lenl, o_lent, o_idxl, o_idxt, o_isn', o_isnn', t_bool, t_int, nxt_nx, nxt_rt, nxt_bk, nxt_ct, nxt_if, rb_rt, rb_nx, rb_if, p_nm, p_tup, p_lst, p_nil, p_cons, cmO, c_nm, c_tup, c_lst, c_nil, c_cons, stO, Ow.tags, frz_n, frz_c, ff_nil, ff_cons, f1_none, f1_sh, f1_top, f1_own, w_nil, w_cons, List.set_cons_zero, List.set_cons_succ, intD, lstD, lvl, forF, whlC, lcF, and_self, Bool.not_eq_true', decide_eq_true_eq, decide_eq_false_iff_not, Bool.and_eq_true, Bool.and_eq_false_imp, and_true, true_and, own_q, oq_own, oq_top, put_o, put_t, io_int, io_bool, io_str, io_own, hasT_n, hasT_c, Nat.reduceBEq, Bool.false_and, Bool.and_false, Bool.true_and, Bool.and_true, Bool.or_false, Bool.false_or, Bool.or_true, Bool.true_or, beq_self_eq_true, not_true_eq_false, not_false_eq_true, List.append_assoc, dl_e, dt_e, ta_n, ta_c, List.all_cons, List.all_nil, Nat.zero_le, call_q, cq_0, cq_1, cq_2, atD_0, atD_1, vr_pair, nmS_pair, si_list, si_tup, y_lc, reduceCtorEq, y_tcons, y_tnil, ite_sb, pk_var, pq_sh, pq_top, pq_own, pk_op, pk_call, pk_lit, pk_con, pk_lst, pk_tup, pk_lc, pk_ife, pk_or, pk_and, nmS_list, nmT_ints, nmT_snoc, vr_int, vr_bool, vr_str, vr_none, o_rev, o_slc1, t_none, t_list, t_tup, isn_none, isn_int, isn_tup, isn_list, isn_bool, io_none, o_addl, List.isEmpty_cons, List.isEmpty_nil, s_par3, s_appK, s_ret2, r2_own, s_appM, s_forT, io_lsh, io_top, bq_ft, bq_tf, f2, al, List.length_map, l1, lc, e1, o1]
def encQ (q : Nat × List Nat) : D := .tuple [.int (q.1 : Int), encNs q.2]
def encPart (p : List (Nat × List Nat)) : D := .list (p.map encQ)
def encTk (t : List (List (Nat × List Nat))) : D := .list (t.map encPart)
theorem taken1_ok (w : Nat) (ds : List Deed) (hn : ds.length ≤ 900) (i : Nat) (d : Deed) (hd : ds[i]? = some d) (ok : okD w (St w (ds.take i)).1 d) (hw : w ≤ 900) (ow : Ow) (how : ow = .own ∨ ow = .top []) :
    ∃ ow', (ow' = .own ∨ ow' = .top []) ∧ ∃ ρ', forF Φ W (.tp (.cons (.nm 4) (.cons (.nm 5) .nil))) b0_taken (.tuple [.int (i : Int), encD d]) [some (.int (w : Int), .sh []), some (encDs ds, .sh []), some (.list (rowsB w ds (ds.length + 1)), ow), some (.list ((tk w (ds.take i)).map encPart), .own), none, none, none, none, none, none, none] = some (.nx ρ') ∧
      wipeR [4, 5, 6, 7] ρ' = [some (.int (w : Int), .sh []), some (encDs ds, .sh []), some (.list (rowsB w ds (ds.length + 1)), ow'), some (.list ((tk w (ds.take (i + 1))).map encPart), .own), none, none, none, none, none, none, none] := by
  have il := (List.getElem?_eq_some_iff.mp hd).1
  have et : ds.take (i + 1) = ds.take i ++ [d] := by rw [List.take_add_one, hd]; rfl
  have nd : ∀ g, nmS (encD d) g = .sh [] := fun g => nmS_flat (flatD d)
  have atr : atD (rowsB w ds (ds.length + 1)) (i : Int) = some (encCols (St w (ds.take i)).1) := at_get (fun j => encCols (St w (ds.take j)).1) (List.range (ds.length + 1)) i i (List.getElem?_range (by omega))
  have sl := St_len w (ds.take i)
  have sb := St_bd w (ds.take i)
  have lt : (tk w (ds.take i)).length < 1000000 := by
    have : (tk w (ds.take i)).length ≤ (ds.take i).length := by
      have gen : ∀ l : List Deed, (tk w l).length ≤ l.length := by
        refine snoc_ind _ (Nat.le_refl _) fun l a ih => ?_
        rw [tk_snoc, List.length_append, List.length_append, List.length_singleton]
        cases a <;> simp [tkD] <;> omega
      exact gen _
    rw [List.length_take] at this
    omega
  rw [et, tk_snoc]
  generalize hcs : (St w (ds.take i)).1 = cs at *
  generalize tk w (ds.take i) = T at *
  cases d with
  | lay m =>
    have e0 : (T ++ tkD cs (.lay m)).map encPart = T.map encPart := by unfold tkD; rw [List.append_nil]
    rw [e0]
    unfold b0_taken encDs
    refine ⟨ow, how, ?_⟩
    apply Exists.intro
    apply And.intro
    · simp -implicitDefEqProofs only [List.map, param, List.length_cons, List.length_nil, s_cons, s_nil, s_iff, s_asg, s_par, s_drop, s_app, s_for, s_whl, s_kill, s_brk, s_cnt, s_pass, s_nev, s_retv, s_retN, r_lit, r_con, r_op, r_call, r_and, r_or, r_ife, r_chain, r_lst, r_tup, r_lc, rv, y_op, y_call, y_and, y_or, y_ife, y_chain, y_one, y_more, y_lst, y_tup, y_nil, y_cons, y_pnil, y_pcons, y_var, y_lit, y_con, y_ex, y_rng1, y_rng2, y_enum, y_zip, Nat.sub_self, List.replicate, List.cons_append, List.nil_append, List.append_nil, List.getElem?_cons_zero, List.getElem?_cons_succ, vr_sh, vr_own, vr_top, Option.bind_some, Option.map_some, Option.bind_none, Option.map_none, f_le, f_lt, f_gt, f_ge, boolD_some, cho_some, nmS_boolD, nmS_int, nmS_str, nmS_none, nmS_nil, Nat.reduceSub, Nat.reduceAdd, Nat.reduceLT, Nat.reduceLeDiff, ite_b, ite_true, ite_false, if_true, if_false, Bool.false_eq_true, o_neg', o_not', o_add', o_sub', o_mul', o_div', o_mod', o_abs', o_int', o_intb', o_min', o_max', o_gcd', o_lt', o_le', o_gt', o_ge', o_eq', o_ne', o_lenl, o_lent, o_idxl, o_idxt, o_isn', o_isnn', t_bool, t_int, nxt_nx, nxt_rt, nxt_bk, nxt_ct, nxt_if, rb_rt, rb_nx, rb_if, p_nm, p_tup, p_lst, p_nil, p_cons, cmO, c_nm, c_tup, c_lst, c_nil, c_cons, stO, Ow.tags, frz_n, frz_c, ff_nil, ff_cons, f1_none, f1_sh, f1_top, f1_own, w_nil, w_cons, List.set_cons_zero, List.set_cons_succ, intD, lstD, lvl, forF, whlC, lcF, and_self, Bool.not_eq_true', decide_eq_true_eq, decide_eq_false_iff_not, Bool.and_eq_true, Bool.and_eq_false_imp, and_true, true_and, own_q, oq_own, oq_top, put_o, put_t, io_int, io_bool, io_str, io_own, hasT_n, hasT_c, Nat.reduceBEq, Bool.false_and, Bool.and_false, Bool.true_and, Bool.and_true, Bool.or_false, Bool.false_or, Bool.or_true, Bool.true_or, beq_self_eq_true, not_true_eq_false, not_false_eq_true, List.append_assoc, dl_e, dt_e, ta_n, ta_c, List.all_cons, List.all_nil, Nat.zero_le, call_q, cq_0, cq_1, cq_2, atD_0, atD_1, vr_pair, nmS_pair, si_list, si_tup, y_lc, reduceCtorEq, y_tcons, y_tnil, ite_sb, pk_var, pq_sh, pq_top, pq_own, pk_op, pk_call, pk_lit, pk_con, pk_lst, pk_tup, pk_lc, pk_ife, pk_or, pk_and, nmS_list, nmT_ints, nmT_snoc, vr_int, vr_bool, vr_str, vr_none, o_rev, o_slc1, t_none, t_list, t_tup, isn_none, isn_int, isn_tup, isn_list, isn_bool, io_none, o_addl, List.isEmpty_cons, List.isEmpty_nil, s_par3, s_appK, s_ret2, r2_own, s_appM, s_forT, io_lsh, io_top, bq_ft, bq_tf, nd, ix_word, eq_wordc, isLay]
      rfl
    · simp -implicitDefEqProofs only [List.map, param, List.length_cons, List.length_nil, s_cons, s_nil, s_iff, s_asg, s_par, s_drop, s_app, s_for, s_whl, s_kill, s_brk, s_cnt, s_pass, s_nev, s_retv, s_retN, r_lit, r_con, r_op, r_call, r_and, r_or, r_ife, r_chain, r_lst, r_tup, r_lc, rv, y_op, y_call, y_and, y_or, y_ife, y_chain, y_one, y_more, y_lst, y_tup, y_nil, y_cons, y_pnil, y_pcons, y_var, y_lit, y_con, y_ex, y_rng1, y_rng2, y_enum, y_zip, Nat.sub_self, List.replicate, List.cons_append, List.nil_append, List.append_nil, List.getElem?_cons_zero, List.getElem?_cons_succ, vr_sh, vr_own, vr_top, Option.bind_some, Option.map_some, Option.bind_none, Option.map_none, f_le, f_lt, f_gt, f_ge, boolD_some, cho_some, nmS_boolD, nmS_int, nmS_str, nmS_none, nmS_nil, Nat.reduceSub, Nat.reduceAdd, Nat.reduceLT, Nat.reduceLeDiff, ite_b, ite_true, ite_false, if_true, if_false, Bool.false_eq_true, o_neg', o_not', o_add', o_sub', o_mul', o_div', o_mod', o_abs', o_int', o_intb', o_min', o_max', o_gcd', o_lt', o_le', o_gt', o_ge', o_eq', o_ne', o_lenl, o_lent, o_idxl, o_idxt, o_isn', o_isnn', t_bool, t_int, nxt_nx, nxt_rt, nxt_bk, nxt_ct, nxt_if, rb_rt, rb_nx, rb_if, p_nm, p_tup, p_lst, p_nil, p_cons, cmO, c_nm, c_tup, c_lst, c_nil, c_cons, stO, Ow.tags, frz_n, frz_c, ff_nil, ff_cons, f1_none, f1_sh, f1_top, f1_own, w_nil, w_cons, List.set_cons_zero, List.set_cons_succ, intD, lstD, lvl, forF, whlC, lcF, and_self, Bool.not_eq_true', decide_eq_true_eq, decide_eq_false_iff_not, Bool.and_eq_true, Bool.and_eq_false_imp, and_true, true_and, own_q, oq_own, oq_top, put_o, put_t, io_int, io_bool, io_str, io_own, hasT_n, hasT_c, Nat.reduceBEq, Bool.false_and, Bool.and_false, Bool.true_and, Bool.and_true, Bool.or_false, Bool.false_or, Bool.or_true, Bool.true_or, beq_self_eq_true, not_true_eq_false, not_false_eq_true, List.append_assoc, dl_e, dt_e, ta_n, ta_c, List.all_cons, List.all_nil, Nat.zero_le, call_q, cq_0, cq_1, cq_2, atD_0, atD_1, vr_pair, nmS_pair, si_list, si_tup, y_lc, reduceCtorEq, y_tcons, y_tnil, ite_sb, pk_var, pq_sh, pq_top, pq_own, pk_op, pk_call, pk_lit, pk_con, pk_lst, pk_tup, pk_lc, pk_ife, pk_or, pk_and, nmS_list, nmT_ints, nmT_snoc, vr_int, vr_bool, vr_str, vr_none, o_rev, o_slc1, t_none, t_list, t_tup, isn_none, isn_int, isn_tup, isn_list, isn_bool, io_none, o_addl, List.isEmpty_cons, List.isEmpty_nil, s_par3, s_appK, s_ret2, r2_own, s_appM, s_forT, io_lsh, io_top, bq_ft, bq_tf]
  | cut f l dd =>
    obtain ⟨o1, o2, o3, o4⟩ := ok
    have e0 : (T ++ tkD cs (.cut f l dd)).map encPart = T.map encPart ++ [.list ((partOf cs f l dd).map encQ)] := by rw [List.map_append]; rfl
    rw [e0]
    have r1 : rngOk (f : Int) = true := rng_ok (by omega) (by omega)
    have r2 : rngOk ((l : Int) + 1) = true := rng_ok (by omega) (by omega)
    have en : ((l : Int) + 1 - (f : Int)).toNat = l + 1 - f := by omega
    have i1 : ∀ g h, opR .idx [(encD (.cut f l dd), g), (.int 1, h)] = some (.int (f : Int), .sh []) := fun g h => by unfold encD; simp -implicitDefEqProofs only [List.map, param, List.length_cons, List.length_nil, s_cons, s_nil, s_iff, s_asg, s_par, s_drop, s_app, s_for, s_whl, s_kill, s_brk, s_cnt, s_pass, s_nev, s_retv, s_retN, r_lit, r_con, r_op, r_call, r_and, r_or, r_ife, r_chain, r_lst, r_tup, r_lc, rv, y_op, y_call, y_and, y_or, y_ife, y_chain, y_one, y_more, y_lst, y_tup, y_nil, y_cons, y_pnil, y_pcons, y_var, y_lit, y_con, y_ex, y_rng1, y_rng2, y_enum, y_zip, Nat.sub_self, List.replicate, List.cons_append, List.nil_append, List.append_nil, List.getElem?_cons_zero, List.getElem?_cons_succ, vr_sh, vr_own, vr_top, Option.bind_some, Option.map_some, Option.bind_none, Option.map_none, f_le, f_lt, f_gt, f_ge, boolD_some, cho_some, nmS_boolD, nmS_int, nmS_str, nmS_none, nmS_nil, Nat.reduceSub, Nat.reduceAdd, Nat.reduceLT, Nat.reduceLeDiff, ite_b, ite_true, ite_false, if_true, if_false, Bool.false_eq_true, o_neg', o_not', o_add', o_sub', o_mul', o_div', o_mod', o_abs', o_int', o_intb', o_min', o_max', o_gcd', o_lt', o_le', o_gt', o_ge', o_eq', o_ne', o_lenl, o_lent, o_idxl, o_idxt, o_isn', o_isnn', t_bool, t_int, nxt_nx, nxt_rt, nxt_bk, nxt_ct, nxt_if, rb_rt, rb_nx, rb_if, p_nm, p_tup, p_lst, p_nil, p_cons, cmO, c_nm, c_tup, c_lst, c_nil, c_cons, stO, Ow.tags, frz_n, frz_c, ff_nil, ff_cons, f1_none, f1_sh, f1_top, f1_own, w_nil, w_cons, List.set_cons_zero, List.set_cons_succ, intD, lstD, lvl, forF, whlC, lcF, and_self, Bool.not_eq_true', decide_eq_true_eq, decide_eq_false_iff_not, Bool.and_eq_true, Bool.and_eq_false_imp, and_true, true_and, own_q, oq_own, oq_top, put_o, put_t, io_int, io_bool, io_str, io_own, hasT_n, hasT_c, Nat.reduceBEq, Bool.false_and, Bool.and_false, Bool.true_and, Bool.and_true, Bool.or_false, Bool.false_or, Bool.or_true, Bool.true_or, beq_self_eq_true, not_true_eq_false, not_false_eq_true, List.append_assoc, dl_e, dt_e, ta_n, ta_c, List.all_cons, List.all_nil, Nat.zero_le, call_q, cq_0, cq_1, cq_2, atD_0, atD_1, vr_pair, nmS_pair, si_list, si_tup, y_lc, reduceCtorEq, y_tcons, y_tnil, ite_sb, pk_var, pq_sh, pq_top, pq_own, pk_op, pk_call, pk_lit, pk_con, pk_lst, pk_tup, pk_lc, pk_ife, pk_or, pk_and, nmS_list, nmT_ints, nmT_snoc, vr_int, vr_bool, vr_str, vr_none, o_rev, o_slc1, t_none, t_list, t_tup, isn_none, isn_int, isn_tup, isn_list, isn_bool, io_none, o_addl, List.isEmpty_cons, List.isEmpty_nil, s_par3, s_appK, s_ret2, r2_own, s_appM, s_forT, io_lsh, io_top, bq_ft, bq_tf, a4_1]
    have i2 : ∀ g h, opR .idx [(encD (.cut f l dd), g), (.int 2, h)] = some (.int (l : Int), .sh []) := fun g h => by unfold encD; simp -implicitDefEqProofs only [List.map, param, List.length_cons, List.length_nil, s_cons, s_nil, s_iff, s_asg, s_par, s_drop, s_app, s_for, s_whl, s_kill, s_brk, s_cnt, s_pass, s_nev, s_retv, s_retN, r_lit, r_con, r_op, r_call, r_and, r_or, r_ife, r_chain, r_lst, r_tup, r_lc, rv, y_op, y_call, y_and, y_or, y_ife, y_chain, y_one, y_more, y_lst, y_tup, y_nil, y_cons, y_pnil, y_pcons, y_var, y_lit, y_con, y_ex, y_rng1, y_rng2, y_enum, y_zip, Nat.sub_self, List.replicate, List.cons_append, List.nil_append, List.append_nil, List.getElem?_cons_zero, List.getElem?_cons_succ, vr_sh, vr_own, vr_top, Option.bind_some, Option.map_some, Option.bind_none, Option.map_none, f_le, f_lt, f_gt, f_ge, boolD_some, cho_some, nmS_boolD, nmS_int, nmS_str, nmS_none, nmS_nil, Nat.reduceSub, Nat.reduceAdd, Nat.reduceLT, Nat.reduceLeDiff, ite_b, ite_true, ite_false, if_true, if_false, Bool.false_eq_true, o_neg', o_not', o_add', o_sub', o_mul', o_div', o_mod', o_abs', o_int', o_intb', o_min', o_max', o_gcd', o_lt', o_le', o_gt', o_ge', o_eq', o_ne', o_lenl, o_lent, o_idxl, o_idxt, o_isn', o_isnn', t_bool, t_int, nxt_nx, nxt_rt, nxt_bk, nxt_ct, nxt_if, rb_rt, rb_nx, rb_if, p_nm, p_tup, p_lst, p_nil, p_cons, cmO, c_nm, c_tup, c_lst, c_nil, c_cons, stO, Ow.tags, frz_n, frz_c, ff_nil, ff_cons, f1_none, f1_sh, f1_top, f1_own, w_nil, w_cons, List.set_cons_zero, List.set_cons_succ, intD, lstD, lvl, forF, whlC, lcF, and_self, Bool.not_eq_true', decide_eq_true_eq, decide_eq_false_iff_not, Bool.and_eq_true, Bool.and_eq_false_imp, and_true, true_and, own_q, oq_own, oq_top, put_o, put_t, io_int, io_bool, io_str, io_own, hasT_n, hasT_c, Nat.reduceBEq, Bool.false_and, Bool.and_false, Bool.true_and, Bool.and_true, Bool.or_false, Bool.false_or, Bool.or_true, Bool.true_or, beq_self_eq_true, not_true_eq_false, not_false_eq_true, List.append_assoc, dl_e, dt_e, ta_n, ta_c, List.all_cons, List.all_nil, Nat.zero_le, call_q, cq_0, cq_1, cq_2, atD_0, atD_1, vr_pair, nmS_pair, si_list, si_tup, y_lc, reduceCtorEq, y_tcons, y_tnil, ite_sb, pk_var, pq_sh, pq_top, pq_own, pk_op, pk_call, pk_lit, pk_con, pk_lst, pk_tup, pk_lc, pk_ife, pk_or, pk_and, nmS_list, nmT_ints, nmT_snoc, vr_int, vr_bool, vr_str, vr_none, o_rev, o_slc1, t_none, t_list, t_tup, isn_none, isn_int, isn_tup, isn_list, isn_bool, io_none, o_addl, List.isEmpty_cons, List.isEmpty_nil, s_par3, s_appK, s_ret2, r2_own, s_appM, s_forT, io_lsh, io_top, bq_ft, bq_tf, a4_2]
    have i3 : ∀ g h, opR .idx [(encD (.cut f l dd), g), (.int 3, h)] = some (.int (dd : Int), .sh []) := fun g h => by unfold encD; simp -implicitDefEqProofs only [List.map, param, List.length_cons, List.length_nil, s_cons, s_nil, s_iff, s_asg, s_par, s_drop, s_app, s_for, s_whl, s_kill, s_brk, s_cnt, s_pass, s_nev, s_retv, s_retN, r_lit, r_con, r_op, r_call, r_and, r_or, r_ife, r_chain, r_lst, r_tup, r_lc, rv, y_op, y_call, y_and, y_or, y_ife, y_chain, y_one, y_more, y_lst, y_tup, y_nil, y_cons, y_pnil, y_pcons, y_var, y_lit, y_con, y_ex, y_rng1, y_rng2, y_enum, y_zip, Nat.sub_self, List.replicate, List.cons_append, List.nil_append, List.append_nil, List.getElem?_cons_zero, List.getElem?_cons_succ, vr_sh, vr_own, vr_top, Option.bind_some, Option.map_some, Option.bind_none, Option.map_none, f_le, f_lt, f_gt, f_ge, boolD_some, cho_some, nmS_boolD, nmS_int, nmS_str, nmS_none, nmS_nil, Nat.reduceSub, Nat.reduceAdd, Nat.reduceLT, Nat.reduceLeDiff, ite_b, ite_true, ite_false, if_true, if_false, Bool.false_eq_true, o_neg', o_not', o_add', o_sub', o_mul', o_div', o_mod', o_abs', o_int', o_intb', o_min', o_max', o_gcd', o_lt', o_le', o_gt', o_ge', o_eq', o_ne', o_lenl, o_lent, o_idxl, o_idxt, o_isn', o_isnn', t_bool, t_int, nxt_nx, nxt_rt, nxt_bk, nxt_ct, nxt_if, rb_rt, rb_nx, rb_if, p_nm, p_tup, p_lst, p_nil, p_cons, cmO, c_nm, c_tup, c_lst, c_nil, c_cons, stO, Ow.tags, frz_n, frz_c, ff_nil, ff_cons, f1_none, f1_sh, f1_top, f1_own, w_nil, w_cons, List.set_cons_zero, List.set_cons_succ, intD, lstD, lvl, forF, whlC, lcF, and_self, Bool.not_eq_true', decide_eq_true_eq, decide_eq_false_iff_not, Bool.and_eq_true, Bool.and_eq_false_imp, and_true, true_and, own_q, oq_own, oq_top, put_o, put_t, io_int, io_bool, io_str, io_own, hasT_n, hasT_c, Nat.reduceBEq, Bool.false_and, Bool.and_false, Bool.true_and, Bool.and_true, Bool.or_false, Bool.false_or, Bool.or_true, Bool.true_or, beq_self_eq_true, not_true_eq_false, not_false_eq_true, List.append_assoc, dl_e, dt_e, ta_n, ta_c, List.all_cons, List.all_nil, Nat.zero_le, call_q, cq_0, cq_1, cq_2, atD_0, atD_1, vr_pair, nmS_pair, si_list, si_tup, y_lc, reduceCtorEq, y_tcons, y_tnil, ite_sb, pk_var, pq_sh, pq_top, pq_own, pk_op, pk_call, pk_lit, pk_con, pk_lst, pk_tup, pk_lc, pk_ife, pk_or, pk_and, nmS_list, nmT_ints, nmT_snoc, vr_int, vr_bool, vr_str, vr_none, o_rev, o_slc1, t_none, t_list, t_tup, isn_none, isn_int, isn_tup, isn_list, isn_bool, io_none, o_addl, List.isEmpty_cons, List.isEmpty_nil, s_par3, s_appK, s_ret2, r2_own, s_appM, s_forT, io_lsh, io_top, bq_ft, bq_tf, a4_3]
    have inn : ∀ (col : Col) (k : Int) (g : List Tag) (a0 a1 a2 a3 a4 a5 a6 a7 : Option R), lcRun (lcF Φ [9, 10] (.var 9) (.tp (.cons (.nm 9) (.cons (.nm 10) .nil))) .nil g [a0, a1, a2, a3, a4, a5, a6, a7, some (.int k, .sh []), none, none]) (col.map encM) = some (col.map fun m => ((PyData.int (m.1 : Int), Ow.sh []) : R)) := fun col k g a0 a1 a2 a3 a4 a5 a6 a7 => by
      refine lc_map encM _ _ col fun m hm => ?_
      unfold encM
      simp -implicitDefEqProofs only [List.map, param, List.length_cons, List.length_nil, s_cons, s_nil, s_iff, s_asg, s_par, s_drop, s_app, s_for, s_whl, s_kill, s_brk, s_cnt, s_pass, s_nev, s_retv, s_retN, r_lit, r_con, r_op, r_call, r_and, r_or, r_ife, r_chain, r_lst, r_tup, r_lc, rv, y_op, y_call, y_and, y_or, y_ife, y_chain, y_one, y_more, y_lst, y_tup, y_nil, y_cons, y_pnil, y_pcons, y_var, y_lit, y_con, y_ex, y_rng1, y_rng2, y_enum, y_zip, Nat.sub_self, List.replicate, List.cons_append, List.nil_append, List.append_nil, List.getElem?_cons_zero, List.getElem?_cons_succ, vr_sh, vr_own, vr_top, Option.bind_some, Option.map_some, Option.bind_none, Option.map_none, f_le, f_lt, f_gt, f_ge, boolD_some, cho_some, nmS_boolD, nmS_int, nmS_str, nmS_none, nmS_nil, Nat.reduceSub, Nat.reduceAdd, Nat.reduceLT, Nat.reduceLeDiff, ite_b, ite_true, ite_false, if_true, if_false, Bool.false_eq_true, o_neg', o_not', o_add', o_sub', o_mul', o_div', o_mod', o_abs', o_int', o_intb', o_min', o_max', o_gcd', o_lt', o_le', o_gt', o_ge', o_eq', o_ne', o_lenl, o_lent, o_idxl, o_idxt, o_isn', o_isnn', t_bool, t_int, nxt_nx, nxt_rt, nxt_bk, nxt_ct, nxt_if, rb_rt, rb_nx, rb_if, p_nm, p_tup, p_lst, p_nil, p_cons, cmO, c_nm, c_tup, c_lst, c_nil, c_cons, stO, Ow.tags, frz_n, frz_c, ff_nil, ff_cons, f1_none, f1_sh, f1_top, f1_own, w_nil, w_cons, List.set_cons_zero, List.set_cons_succ, intD, lstD, lvl, forF, whlC, lcF, and_self, Bool.not_eq_true', decide_eq_true_eq, decide_eq_false_iff_not, Bool.and_eq_true, Bool.and_eq_false_imp, and_true, true_and, own_q, oq_own, oq_top, put_o, put_t, io_int, io_bool, io_str, io_own, hasT_n, hasT_c, Nat.reduceBEq, Bool.false_and, Bool.and_false, Bool.true_and, Bool.and_true, Bool.or_false, Bool.false_or, Bool.or_true, Bool.true_or, beq_self_eq_true, not_true_eq_false, not_false_eq_true, List.append_assoc, dl_e, dt_e, ta_n, ta_c, List.all_cons, List.all_nil, Nat.zero_le, call_q, cq_0, cq_1, cq_2, atD_0, atD_1, vr_pair, nmS_pair, si_list, si_tup, y_lc, reduceCtorEq, y_tcons, y_tnil, ite_sb, pk_var, pq_sh, pq_top, pq_own, pk_op, pk_call, pk_lit, pk_con, pk_lst, pk_tup, pk_lc, pk_ife, pk_or, pk_and, nmS_list, nmT_ints, nmT_snoc, vr_int, vr_bool, vr_str, vr_none, o_rev, o_slc1, t_none, t_list, t_tup, isn_none, isn_int, isn_tup, isn_list, isn_bool, io_none, o_addl, List.isEmpty_cons, List.isEmpty_nil, s_par3, s_appK, s_ret2, r2_own, s_appM, s_forT, io_lsh, io_top, bq_ft, bq_tf]
    have ei : ∀ col : Col, (col.map fun m => ((PyData.int (m.1 : Int), Ow.sh []) : R)).map (fun x => x.1) = (marks col).map fun (n : Nat) => PyData.int (n : Int) := fun col => by unfold marks; rw [List.map_map, List.map_map]; rfl
    have oi : ∀ col : Col, (col.map fun m => ((PyData.int (m.1 : Int), Ow.sh []) : R)).all isOwn = true := fun col => by
      rw [List.all_map]
      exact List.all_eq_true.mpr fun x _ => rfl
    have lc : ∀ (g : List Tag) (a0 a1 a2 a3 a4 a7 : Option R), lcRun (lcF Φ [8] (.tup (.cons (.var 8) (.cons (.lc [9, 10] (.var 9) (.tp (.cons (.nm 9) (.cons (.nm 10) .nil))) (.ex (.op (.slc true false) (.cons (.op .idx (.cons (.var 6) (.cons (.var 8) .nil))) (.cons (.op .sub (.cons (.op .len (.cons (.op .idx (.cons (.var 6) (.cons (.var 8) .nil))) .nil)) (.cons (.op .idx (.cons (.var 5) (.cons (.lit (.int 3)) .nil))) .nil))) .nil)))) .nil) .nil))) (.nm 8) .nil g
        [a0, a1, a2, a3, a4, some (encD (.cut f l dd), .sh []), some (encCols cs, .sh []), a7, none, none, none]) ((List.range (l + 1 - f)).map fun (j : Nat) => PyData.int ((f : Int) + (j : Int))) = some ((partOf cs f l dd).map fun q => ((encQ q, Ow.own) : R)) := fun g a0 a1 a2 a3 a4 a7 => by
      unfold partOf
      rw [List.map_map]
      refine lc_map (fun (j : Nat) => PyData.int ((f : Int) + (j : Int))) _ _ _ fun j hj => ?_
      have hj' := List.mem_range.mp hj
      have gc : cs[f + j]? = some (cs.getD (f + j) []) := by
        rw [List.getD_eq_getElem?_getD, List.getElem?_eq_getElem (by omega)]
        rfl
      have at1 := at_get encCol cs (f + j) _ gc
      have ej : ((f + j : Nat) : Int) = (f : Int) + (j : Int) := by omega
      rw [ej] at at1
      have hdd := o4 (f + j) _ gc (by unfold inC; simp; omega)
      have hbl := sb _ (List.mem_of_getElem? gc)
      rw [List.length_take] at hbl
      show _ = some (some (encQ (f + j, marks ((cs.getD (f + j) []).drop ((cs.getD (f + j) []).length - dd))), Ow.own))
      generalize cs.getD (f + j) [] = col at *
      have el : (col.length : Int) - (dd : Int) = ((col.length - dd : Nat) : Int) := by omega
      have ct : cutD (col.map encM) (some ((col.length - dd : Nat) : Int)) none = (col.drop (col.length - dd)).map encM := by
        rw [List.map_drop]
        exact cut_from _ _
      have lk : (col.drop (col.length - dd)).length ≤ 1000000 := by rw [List.length_drop]; omega
      unfold encQ encNs
      rw [ej]
      unfold encCols encCol at *
      simp -implicitDefEqProofs only [List.map, param, List.length_cons, List.length_nil, s_cons, s_nil, s_iff, s_asg, s_par, s_drop, s_app, s_for, s_whl, s_kill, s_brk, s_cnt, s_pass, s_nev, s_retv, s_retN, r_lit, r_con, r_op, r_call, r_and, r_or, r_ife, r_chain, r_lst, r_tup, r_lc, rv, y_op, y_call, y_and, y_or, y_ife, y_chain, y_one, y_more, y_lst, y_tup, y_nil, y_cons, y_pnil, y_pcons, y_var, y_lit, y_con, y_ex, y_rng1, y_rng2, y_enum, y_zip, Nat.sub_self, List.replicate, List.cons_append, List.nil_append, List.append_nil, List.getElem?_cons_zero, List.getElem?_cons_succ, vr_sh, vr_own, vr_top, Option.bind_some, Option.map_some, Option.bind_none, Option.map_none, f_le, f_lt, f_gt, f_ge, boolD_some, cho_some, nmS_boolD, nmS_int, nmS_str, nmS_none, nmS_nil, Nat.reduceSub, Nat.reduceAdd, Nat.reduceLT, Nat.reduceLeDiff, ite_b, ite_true, ite_false, if_true, if_false, Bool.false_eq_true, o_neg', o_not', o_add', o_sub', o_mul', o_div', o_mod', o_abs', o_int', o_intb', o_min', o_max', o_gcd', o_lt', o_le', o_gt', o_ge', o_eq', o_ne', o_lenl, o_lent, o_idxl, o_idxt, o_isn', o_isnn', t_bool, t_int, nxt_nx, nxt_rt, nxt_bk, nxt_ct, nxt_if, rb_rt, rb_nx, rb_if, p_nm, p_tup, p_lst, p_nil, p_cons, cmO, c_nm, c_tup, c_lst, c_nil, c_cons, stO, Ow.tags, frz_n, frz_c, ff_nil, ff_cons, f1_none, f1_sh, f1_top, f1_own, w_nil, w_cons, List.set_cons_zero, List.set_cons_succ, intD, lstD, lvl, forF, whlC, lcF, and_self, Bool.not_eq_true', decide_eq_true_eq, decide_eq_false_iff_not, Bool.and_eq_true, Bool.and_eq_false_imp, and_true, true_and, own_q, oq_own, oq_top, put_o, put_t, io_int, io_bool, io_str, io_own, hasT_n, hasT_c, Nat.reduceBEq, Bool.false_and, Bool.and_false, Bool.true_and, Bool.and_true, Bool.or_false, Bool.false_or, Bool.or_true, Bool.true_or, beq_self_eq_true, not_true_eq_false, not_false_eq_true, List.append_assoc, dl_e, dt_e, ta_n, ta_c, List.all_cons, List.all_nil, Nat.zero_le, call_q, cq_0, cq_1, cq_2, atD_0, atD_1, vr_pair, nmS_pair, si_list, si_tup, y_lc, reduceCtorEq, y_tcons, y_tnil, ite_sb, pk_var, pq_sh, pq_top, pq_own, pk_op, pk_call, pk_lit, pk_con, pk_lst, pk_tup, pk_lc, pk_ife, pk_or, pk_and, nmS_list, nmT_ints, nmT_snoc, vr_int, vr_bool, vr_str, vr_none, o_rev, o_slc1, t_none, t_list, t_tup, isn_none, isn_int, isn_tup, isn_list, isn_bool, io_none, o_addl, List.isEmpty_cons, List.isEmpty_nil, s_par3, s_appK, s_ret2, r2_own, s_appM, s_forT, io_lsh, io_top, bq_ft, bq_tf, at1, List.length_map, i3, el, ct, nTcol, inn, ei, oi, lk]
    have e1 : ((partOf cs f l dd).map fun q => ((encQ q, Ow.own) : R)).map (fun x => x.1) = (partOf cs f l dd).map encQ := by rw [List.map_map]; rfl
    have o1' : ((partOf cs f l dd).map fun q => ((encQ q, Ow.own) : R)).all isOwn = true := by
      rw [List.all_map]
      exact List.all_eq_true.mpr fun x _ => rfl
    have lr : (rangeD (f : Int) (l + 1 - f)).length ≤ 1000000 := by unfold rangeD; rw [List.length_map, List.length_range]; omega
    have er : rangeD (f : Int) (l + 1 - f) = (List.range (l + 1 - f)).map fun (j : Nat) => PyData.int ((f : Int) + (j : Int)) := rfl
    rw [er] at lr
    have am : ∀ ρ : Rho, appMQ 3 7 ρ (some (some (.list (T.map encPart), .own))) (some (some (.list ((partOf cs f l dd).map encQ), .own))) = some (.nx ((ρ.set 7 none).set 3 (some (.list (T.map encPart ++ [.list ((partOf cs f l dd).map encQ)]), .own)))) := fun ρ => am_own (by decide) (by rw [List.length_map]; exact lt)
    generalize rowsB w ds (ds.length + 1) = X at *
    unfold b0_taken encDs
    unfold encCols at *
    rcases how with rfl | rfl
    · refine ⟨.top [], .inr rfl, ?_⟩
      apply Exists.intro
      apply And.intro
      · simp -implicitDefEqProofs only [List.map, param, List.length_cons, List.length_nil, s_cons, s_nil, s_iff, s_asg, s_par, s_drop, s_app, s_for, s_whl, s_kill, s_brk, s_cnt, s_pass, s_nev, s_retv, s_retN, r_lit, r_con, r_op, r_call, r_and, r_or, r_ife, r_chain, r_lst, r_tup, r_lc, rv, y_op, y_call, y_and, y_or, y_ife, y_chain, y_one, y_more, y_lst, y_tup, y_nil, y_cons, y_pnil, y_pcons, y_var, y_lit, y_con, y_ex, y_rng1, y_rng2, y_enum, y_zip, Nat.sub_self, List.replicate, List.cons_append, List.nil_append, List.append_nil, List.getElem?_cons_zero, List.getElem?_cons_succ, vr_sh, vr_own, vr_top, Option.bind_some, Option.map_some, Option.bind_none, Option.map_none, f_le, f_lt, f_gt, f_ge, boolD_some, cho_some, nmS_boolD, nmS_int, nmS_str, nmS_none, nmS_nil, Nat.reduceSub, Nat.reduceAdd, Nat.reduceLT, Nat.reduceLeDiff, ite_b, ite_true, ite_false, if_true, if_false, Bool.false_eq_true, o_neg', o_not', o_add', o_sub', o_mul', o_div', o_mod', o_abs', o_int', o_intb', o_min', o_max', o_gcd', o_lt', o_le', o_gt', o_ge', o_eq', o_ne', o_lenl, o_lent, o_idxl, o_idxt, o_isn', o_isnn', t_bool, t_int, nxt_nx, nxt_rt, nxt_bk, nxt_ct, nxt_if, rb_rt, rb_nx, rb_if, p_nm, p_tup, p_lst, p_nil, p_cons, cmO, c_nm, c_tup, c_lst, c_nil, c_cons, stO, Ow.tags, frz_n, frz_c, ff_nil, ff_cons, f1_none, f1_sh, f1_top, f1_own, w_nil, w_cons, List.set_cons_zero, List.set_cons_succ, intD, lstD, lvl, forF, whlC, lcF, and_self, Bool.not_eq_true', decide_eq_true_eq, decide_eq_false_iff_not, Bool.and_eq_true, Bool.and_eq_false_imp, and_true, true_and, own_q, oq_own, oq_top, put_o, put_t, io_int, io_bool, io_str, io_own, hasT_n, hasT_c, Nat.reduceBEq, Bool.false_and, Bool.and_false, Bool.true_and, Bool.and_true, Bool.or_false, Bool.false_or, Bool.or_true, Bool.true_or, beq_self_eq_true, not_true_eq_false, not_false_eq_true, List.append_assoc, dl_e, dt_e, ta_n, ta_c, List.all_cons, List.all_nil, Nat.zero_le, call_q, cq_0, cq_1, cq_2, atD_0, atD_1, vr_pair, nmS_pair, si_list, si_tup, y_lc, reduceCtorEq, y_tcons, y_tnil, ite_sb, pk_var, pq_sh, pq_top, pq_own, pk_op, pk_call, pk_lit, pk_con, pk_lst, pk_tup, pk_lc, pk_ife, pk_or, pk_and, nmS_list, nmT_ints, nmT_snoc, vr_int, vr_bool, vr_str, vr_none, o_rev, o_slc1, t_none, t_list, t_tup, isn_none, isn_int, isn_tup, isn_list, isn_bool, io_none, o_addl, List.isEmpty_cons, List.isEmpty_nil, s_par3, s_appK, s_ret2, r2_own, s_appM, s_forT, io_lsh, io_top, bq_ft, bq_tf, nd, ix_word, eq_wordc, isLay, atr, i1, i2, r1, r2, en, er, lr, lc, e1, o1', am]
        rfl
      · simp -implicitDefEqProofs only [List.map, param, List.length_cons, List.length_nil, s_cons, s_nil, s_iff, s_asg, s_par, s_drop, s_app, s_for, s_whl, s_kill, s_brk, s_cnt, s_pass, s_nev, s_retv, s_retN, r_lit, r_con, r_op, r_call, r_and, r_or, r_ife, r_chain, r_lst, r_tup, r_lc, rv, y_op, y_call, y_and, y_or, y_ife, y_chain, y_one, y_more, y_lst, y_tup, y_nil, y_cons, y_pnil, y_pcons, y_var, y_lit, y_con, y_ex, y_rng1, y_rng2, y_enum, y_zip, Nat.sub_self, List.replicate, List.cons_append, List.nil_append, List.append_nil, List.getElem?_cons_zero, List.getElem?_cons_succ, vr_sh, vr_own, vr_top, Option.bind_some, Option.map_some, Option.bind_none, Option.map_none, f_le, f_lt, f_gt, f_ge, boolD_some, cho_some, nmS_boolD, nmS_int, nmS_str, nmS_none, nmS_nil, Nat.reduceSub, Nat.reduceAdd, Nat.reduceLT, Nat.reduceLeDiff, ite_b, ite_true, ite_false, if_true, if_false, Bool.false_eq_true, o_neg', o_not', o_add', o_sub', o_mul', o_div', o_mod', o_abs', o_int', o_intb', o_min', o_max', o_gcd', o_lt', o_le', o_gt', o_ge', o_eq', o_ne', o_lenl, o_lent, o_idxl, o_idxt, o_isn', o_isnn', t_bool, t_int, nxt_nx, nxt_rt, nxt_bk, nxt_ct, nxt_if, rb_rt, rb_nx, rb_if, p_nm, p_tup, p_lst, p_nil, p_cons, cmO, c_nm, c_tup, c_lst, c_nil, c_cons, stO, Ow.tags, frz_n, frz_c, ff_nil, ff_cons, f1_none, f1_sh, f1_top, f1_own, w_nil, w_cons, List.set_cons_zero, List.set_cons_succ, intD, lstD, lvl, forF, whlC, lcF, and_self, Bool.not_eq_true', decide_eq_true_eq, decide_eq_false_iff_not, Bool.and_eq_true, Bool.and_eq_false_imp, and_true, true_and, own_q, oq_own, oq_top, put_o, put_t, io_int, io_bool, io_str, io_own, hasT_n, hasT_c, Nat.reduceBEq, Bool.false_and, Bool.and_false, Bool.true_and, Bool.and_true, Bool.or_false, Bool.false_or, Bool.or_true, Bool.true_or, beq_self_eq_true, not_true_eq_false, not_false_eq_true, List.append_assoc, dl_e, dt_e, ta_n, ta_c, List.all_cons, List.all_nil, Nat.zero_le, call_q, cq_0, cq_1, cq_2, atD_0, atD_1, vr_pair, nmS_pair, si_list, si_tup, y_lc, reduceCtorEq, y_tcons, y_tnil, ite_sb, pk_var, pq_sh, pq_top, pq_own, pk_op, pk_call, pk_lit, pk_con, pk_lst, pk_tup, pk_lc, pk_ife, pk_or, pk_and, nmS_list, nmT_ints, nmT_snoc, vr_int, vr_bool, vr_str, vr_none, o_rev, o_slc1, t_none, t_list, t_tup, isn_none, isn_int, isn_tup, isn_list, isn_bool, io_none, o_addl, List.isEmpty_cons, List.isEmpty_nil, s_par3, s_appK, s_ret2, r2_own, s_appM, s_forT, io_lsh, io_top, bq_ft, bq_tf]
    · refine ⟨.top [], .inr rfl, ?_⟩
      apply Exists.intro
      apply And.intro
      · simp -implicitDefEqProofs only [List.map, param, List.length_cons, List.length_nil, s_cons, s_nil, s_iff, s_asg, s_par, s_drop, s_app, s_for, s_whl, s_kill, s_brk, s_cnt, s_pass, s_nev, s_retv, s_retN, r_lit, r_con, r_op, r_call, r_and, r_or, r_ife, r_chain, r_lst, r_tup, r_lc, rv, y_op, y_call, y_and, y_or, y_ife, y_chain, y_one, y_more, y_lst, y_tup, y_nil, y_cons, y_pnil, y_pcons, y_var, y_lit, y_con, y_ex, y_rng1, y_rng2, y_enum, y_zip, Nat.sub_self, List.replicate, List.cons_append, List.nil_append, List.append_nil, List.getElem?_cons_zero, List.getElem?_cons_succ, vr_sh, vr_own, vr_top, Option.bind_some, Option.map_some, Option.bind_none, Option.map_none, f_le, f_lt, f_gt, f_ge, boolD_some, cho_some, nmS_boolD, nmS_int, nmS_str, nmS_none, nmS_nil, Nat.reduceSub, Nat.reduceAdd, Nat.reduceLT, Nat.reduceLeDiff, ite_b, ite_true, ite_false, if_true, if_false, Bool.false_eq_true, o_neg', o_not', o_add', o_sub', o_mul', o_div', o_mod', o_abs', o_int', o_intb', o_min', o_max', o_gcd', o_lt', o_le', o_gt', o_ge', o_eq', o_ne', o_lenl, o_lent, o_idxl, o_idxt, o_isn', o_isnn', t_bool, t_int, nxt_nx, nxt_rt, nxt_bk, nxt_ct, nxt_if, rb_rt, rb_nx, rb_if, p_nm, p_tup, p_lst, p_nil, p_cons, cmO, c_nm, c_tup, c_lst, c_nil, c_cons, stO, Ow.tags, frz_n, frz_c, ff_nil, ff_cons, f1_none, f1_sh, f1_top, f1_own, w_nil, w_cons, List.set_cons_zero, List.set_cons_succ, intD, lstD, lvl, forF, whlC, lcF, and_self, Bool.not_eq_true', decide_eq_true_eq, decide_eq_false_iff_not, Bool.and_eq_true, Bool.and_eq_false_imp, and_true, true_and, own_q, oq_own, oq_top, put_o, put_t, io_int, io_bool, io_str, io_own, hasT_n, hasT_c, Nat.reduceBEq, Bool.false_and, Bool.and_false, Bool.true_and, Bool.and_true, Bool.or_false, Bool.false_or, Bool.or_true, Bool.true_or, beq_self_eq_true, not_true_eq_false, not_false_eq_true, List.append_assoc, dl_e, dt_e, ta_n, ta_c, List.all_cons, List.all_nil, Nat.zero_le, call_q, cq_0, cq_1, cq_2, atD_0, atD_1, vr_pair, nmS_pair, si_list, si_tup, y_lc, reduceCtorEq, y_tcons, y_tnil, ite_sb, pk_var, pq_sh, pq_top, pq_own, pk_op, pk_call, pk_lit, pk_con, pk_lst, pk_tup, pk_lc, pk_ife, pk_or, pk_and, nmS_list, nmT_ints, nmT_snoc, vr_int, vr_bool, vr_str, vr_none, o_rev, o_slc1, t_none, t_list, t_tup, isn_none, isn_int, isn_tup, isn_list, isn_bool, io_none, o_addl, List.isEmpty_cons, List.isEmpty_nil, s_par3, s_appK, s_ret2, r2_own, s_appM, s_forT, io_lsh, io_top, bq_ft, bq_tf, nd, ix_word, eq_wordc, isLay, atr, i1, i2, r1, r2, en, er, lr, lc, e1, o1', am]
        rfl
      · simp -implicitDefEqProofs only [List.map, param, List.length_cons, List.length_nil, s_cons, s_nil, s_iff, s_asg, s_par, s_drop, s_app, s_for, s_whl, s_kill, s_brk, s_cnt, s_pass, s_nev, s_retv, s_retN, r_lit, r_con, r_op, r_call, r_and, r_or, r_ife, r_chain, r_lst, r_tup, r_lc, rv, y_op, y_call, y_and, y_or, y_ife, y_chain, y_one, y_more, y_lst, y_tup, y_nil, y_cons, y_pnil, y_pcons, y_var, y_lit, y_con, y_ex, y_rng1, y_rng2, y_enum, y_zip, Nat.sub_self, List.replicate, List.cons_append, List.nil_append, List.append_nil, List.getElem?_cons_zero, List.getElem?_cons_succ, vr_sh, vr_own, vr_top, Option.bind_some, Option.map_some, Option.bind_none, Option.map_none, f_le, f_lt, f_gt, f_ge, boolD_some, cho_some, nmS_boolD, nmS_int, nmS_str, nmS_none, nmS_nil, Nat.reduceSub, Nat.reduceAdd, Nat.reduceLT, Nat.reduceLeDiff, ite_b, ite_true, ite_false, if_true, if_false, Bool.false_eq_true, o_neg', o_not', o_add', o_sub', o_mul', o_div', o_mod', o_abs', o_int', o_intb', o_min', o_max', o_gcd', o_lt', o_le', o_gt', o_ge', o_eq', o_ne', o_lenl, o_lent, o_idxl, o_idxt, o_isn', o_isnn', t_bool, t_int, nxt_nx, nxt_rt, nxt_bk, nxt_ct, nxt_if, rb_rt, rb_nx, rb_if, p_nm, p_tup, p_lst, p_nil, p_cons, cmO, c_nm, c_tup, c_lst, c_nil, c_cons, stO, Ow.tags, frz_n, frz_c, ff_nil, ff_cons, f1_none, f1_sh, f1_top, f1_own, w_nil, w_cons, List.set_cons_zero, List.set_cons_succ, intD, lstD, lvl, forF, whlC, lcF, and_self, Bool.not_eq_true', decide_eq_true_eq, decide_eq_false_iff_not, Bool.and_eq_true, Bool.and_eq_false_imp, and_true, true_and, own_q, oq_own, oq_top, put_o, put_t, io_int, io_bool, io_str, io_own, hasT_n, hasT_c, Nat.reduceBEq, Bool.false_and, Bool.and_false, Bool.true_and, Bool.and_true, Bool.or_false, Bool.false_or, Bool.or_true, Bool.true_or, beq_self_eq_true, not_true_eq_false, not_false_eq_true, List.append_assoc, dl_e, dt_e, ta_n, ta_c, List.all_cons, List.all_nil, Nat.zero_le, call_q, cq_0, cq_1, cq_2, atD_0, atD_1, vr_pair, nmS_pair, si_list, si_tup, y_lc, reduceCtorEq, y_tcons, y_tnil, ite_sb, pk_var, pq_sh, pq_top, pq_own, pk_op, pk_call, pk_lit, pk_con, pk_lst, pk_tup, pk_lc, pk_ife, pk_or, pk_and, nmS_list, nmT_ints, nmT_snoc, vr_int, vr_bool, vr_str, vr_none, o_rev, o_slc1, t_none, t_list, t_tup, isn_none, isn_int, isn_tup, isn_list, isn_bool, io_none, o_addl, List.isEmpty_cons, List.isEmpty_nil, s_par3, s_appK, s_ret2, r2_own, s_appM, s_forT, io_lsh, io_top, bq_ft, bq_tf]
theorem taken_ok (w : Nat) (ds : List Deed) (hw : 1 ≤ w ∧ w ≤ 4) (hn : ds.length ≤ 40) (ok : okAll w ds) (lv : Nat) (hlv : lv = 1 ∨ lv = 2) (f2 : Φ 2 [.int (w : Int), encDs ds] = some (.list (rowsB w ds (ds.length + 1)), lv)) : runFd Φ W fd_taken [.int (w : Int), encDs ds] = some (encTk (tk w ds), 2) := by
  have key := fun (ow0 : Ow) (h0 : ow0 = .own ∨ ow0 = .top []) => for_inv (k := [4, 5, 6, 7]) (fun (p : Deed × Nat) => PyData.tuple [.int (p.2 : Int), encD p.1]) (fun i ρ => ∃ (ow : Ow), (ow = .own ∨ ow = .top []) ∧ ρ = [some (.int (w : Int), .sh []), some (encDs ds, .sh []), some (.list (rowsB w ds (ds.length + 1)), ow), some (.list ((tk w (ds.take i)).map encPart), .own), none, none, none, none, none, none, none])
    (forF Φ W (.tp (.cons (.nm 4) (.cons (.nm 5) .nil))) b0_taken) (fun i ρ ⟨ow, h, e⟩ => ⟨ow, h, by rw [e]; simp -implicitDefEqProofs only [List.map, param, List.length_cons, List.length_nil, s_cons, s_nil, s_iff, s_asg, s_par, s_drop, s_app, s_for, s_whl, s_kill, s_brk, s_cnt, s_pass, s_nev, s_retv, s_retN, r_lit, r_con, r_op, r_call, r_and, r_or, r_ife, r_chain, r_lst, r_tup, r_lc, rv, y_op, y_call, y_and, y_or, y_ife, y_chain, y_one, y_more, y_lst, y_tup, y_nil, y_cons, y_pnil, y_pcons, y_var, y_lit, y_con, y_ex, y_rng1, y_rng2, y_enum, y_zip, Nat.sub_self, List.replicate, List.cons_append, List.nil_append, List.append_nil, List.getElem?_cons_zero, List.getElem?_cons_succ, vr_sh, vr_own, vr_top, Option.bind_some, Option.map_some, Option.bind_none, Option.map_none, f_le, f_lt, f_gt, f_ge, boolD_some, cho_some, nmS_boolD, nmS_int, nmS_str, nmS_none, nmS_nil, Nat.reduceSub, Nat.reduceAdd, Nat.reduceLT, Nat.reduceLeDiff, ite_b, ite_true, ite_false, if_true, if_false, Bool.false_eq_true, o_neg', o_not', o_add', o_sub', o_mul', o_div', o_mod', o_abs', o_int', o_intb', o_min', o_max', o_gcd', o_lt', o_le', o_gt', o_ge', o_eq', o_ne', o_lenl, o_lent, o_idxl, o_idxt, o_isn', o_isnn', t_bool, t_int, nxt_nx, nxt_rt, nxt_bk, nxt_ct, nxt_if, rb_rt, rb_nx, rb_if, p_nm, p_tup, p_lst, p_nil, p_cons, cmO, c_nm, c_tup, c_lst, c_nil, c_cons, stO, Ow.tags, frz_n, frz_c, ff_nil, ff_cons, f1_none, f1_sh, f1_top, f1_own, w_nil, w_cons, List.set_cons_zero, List.set_cons_succ, intD, lstD, lvl, forF, whlC, lcF, and_self, Bool.not_eq_true', decide_eq_true_eq, decide_eq_false_iff_not, Bool.and_eq_true, Bool.and_eq_false_imp, and_true, true_and, own_q, oq_own, oq_top, put_o, put_t, io_int, io_bool, io_str, io_own, hasT_n, hasT_c, Nat.reduceBEq, Bool.false_and, Bool.and_false, Bool.true_and, Bool.and_true, Bool.or_false, Bool.false_or, Bool.or_true, Bool.true_or, beq_self_eq_true, not_true_eq_false, not_false_eq_true, List.append_assoc, dl_e, dt_e, ta_n, ta_c, List.all_cons, List.all_nil, Nat.zero_le, call_q, cq_0, cq_1, cq_2, atD_0, atD_1, vr_pair, nmS_pair, si_list, si_tup, y_lc, reduceCtorEq, y_tcons, y_tnil, ite_sb, pk_var, pq_sh, pq_top, pq_own, pk_op, pk_call, pk_lit, pk_con, pk_lst, pk_tup, pk_lc, pk_ife, pk_or, pk_and, nmS_list, nmT_ints, nmT_snoc, vr_int, vr_bool, vr_str, vr_none, o_rev, o_slc1, t_none, t_list, t_tup, isn_none, isn_int, isn_tup, isn_list, isn_bool, io_none, o_addl, List.isEmpty_cons, List.isEmpty_nil, s_par3, s_appK, s_ret2, r2_own, s_appM, s_forT, io_lsh, io_top, bq_ft, bq_tf]⟩) ds.zipIdx 0 [some (.int (w : Int), .sh []), some (encDs ds, .sh []), some (.list (rowsB w ds (ds.length + 1)), ow0), some (.list [], .own), none, none, none, none, none, none, none] ⟨ow0, h0, rfl⟩ (fun j x ρ hx hI => by
      obtain ⟨ow, how, rfl⟩ := hI
      obtain ⟨hx1, hx2⟩ := idx_at hx
      rw [Nat.zero_add, hx2]
      obtain ⟨ow', how', ρ', c1, c2⟩ := taken1_ok (Φ := Φ) (W := W) w ds (by omega) j x.1 hx1 (ok j x.1 hx1) (by omega) ow how
      exact ⟨ρ', .inl c1, ow', how', c2⟩)
  have nt := nt2 (rowsB w ds (ds.length + 1))
  have fin : ∀ ow0 : Ow, ow0 = .own ∨ ow0 = .top [] → ∃ ow, (ow = .own ∨ ow = .top []) ∧ forRun (forF Φ W (.tp (.cons (.nm 4) (.cons (.nm 5) .nil))) b0_taken) [4, 5, 6, 7] (ds.zipIdx.map fun (p : Deed × Nat) => PyData.tuple [.int (p.2 : Int), encD p.1]) [some (.int (w : Int), .sh []), some (encDs ds, .sh []), some (.list (rowsB w ds (ds.length + 1)), ow0), some (.list [], .own), none, none, none, none, none, none, none] =
      some (.nx [some (.int (w : Int), .sh []), some (encDs ds, .sh []), some (.list (rowsB w ds (ds.length + 1)), ow), some (.list ((tk w ds).map encPart), .own), none, none, none, none, none, none, none]) := fun ow0 h0 => by
    obtain ⟨ρ', e, ow, how, e2⟩ := key ow0 h0
    rw [e2, List.length_zipIdx, Nat.zero_add, List.take_length] at e
    exact ⟨ow, how, e⟩
  obtain ⟨w1, _, k1⟩ := fin .own (.inl rfl)
  obtain ⟨w2, _, k2⟩ := fin (.top []) (.inr rfl)
  unfold encTk
  generalize rowsB w ds (ds.length + 1) = X at *
  unfold encDs at *
  unfold fd_taken
  refine (run_fd (by rfl)).trans ?_
  rcases hlv with rfl | rfl
  · rcases nt with nt | nt
    · simp -implicitDefEqProofs only [List.map, param, List.length_cons, List.length_nil, s_cons, s_nil, s_iff, s_asg, s_par, s_drop, s_app, s_for, s_whl, s_kill, s_brk, s_cnt, s_pass, s_nev, s_retv, s_retN, r_lit, r_con, r_op, r_call, r_and, r_or, r_ife, r_chain, r_lst, r_tup, r_lc, rv, y_op, y_call, y_and, y_or, y_ife, y_chain, y_one, y_more, y_lst, y_tup, y_nil, y_cons, y_pnil, y_pcons, y_var, y_lit, y_con, y_ex, y_rng1, y_rng2, y_enum, y_zip, Nat.sub_self, List.replicate, List.cons_append, List.nil_append, List.append_nil, List.getElem?_cons_zero, List.getElem?_cons_succ, vr_sh, vr_own, vr_top, Option.bind_some, Option.map_some, Option.bind_none, Option.map_none, f_le, f_lt, f_gt, f_ge, boolD_some, cho_some, nmS_boolD, nmS_int, nmS_str, nmS_none, nmS_nil, Nat.reduceSub, Nat.reduceAdd, Nat.reduceLT, Nat.reduceLeDiff, ite_b, ite_true, ite_false, if_true, if_false, Bool.false_eq_true, o_neg', o_not', o_add', o_sub', o_mul', o_div', o_mod', o_abs', o_int', o_intb', o_min', o_max', o_gcd', o_lt', o_le', o_gt', o_ge', o_eq', o_ne', o_lenl, o_lent, o_idxl, o_idxt, o_isn', o_isnn', t_bool, t_int, nxt_nx, nxt_rt, nxt_bk, nxt_ct, nxt_if, rb_rt, rb_nx, rb_if, p_nm, p_tup, p_lst, p_nil, p_cons, cmO, c_nm, c_tup, c_lst, c_nil, c_cons, stO, Ow.tags, frz_n, frz_c, ff_nil, ff_cons, f1_none, f1_sh, f1_top, f1_own, w_nil, w_cons, List.set_cons_zero, List.set_cons_succ, intD, lstD, lvl, forF, whlC, lcF, and_self, Bool.not_eq_true', decide_eq_true_eq, decide_eq_false_iff_not, Bool.and_eq_true, Bool.and_eq_false_imp, and_true, true_and, own_q, oq_own, oq_top, put_o, put_t, io_int, io_bool, io_str, io_own, hasT_n, hasT_c, Nat.reduceBEq, Bool.false_and, Bool.and_false, Bool.true_and, Bool.and_true, Bool.or_false, Bool.false_or, Bool.or_true, Bool.true_or, beq_self_eq_true, not_true_eq_false, not_false_eq_true, List.append_assoc, dl_e, dt_e, ta_n, ta_c, List.all_cons, List.all_nil, Nat.zero_le, call_q, cq_0, cq_1, cq_2, atD_0, atD_1, vr_pair, nmS_pair, si_list, si_tup, y_lc, reduceCtorEq, y_tcons, y_tnil, ite_sb, pk_var, pq_sh, pq_top, pq_own, pk_op, pk_call, pk_lit, pk_con, pk_lst, pk_tup, pk_lc, pk_ife, pk_or, pk_and, nmS_list, nmT_ints, nmT_snoc, vr_int, vr_bool, vr_str, vr_none, o_rev, o_slc1, t_none, t_list, t_tup, isn_none, isn_int, isn_tup, isn_list, isn_bool, io_none, o_addl, List.isEmpty_cons, List.isEmpty_nil, s_par3, s_appK, s_ret2, r2_own, s_appM, s_forT, io_lsh, io_top, bq_ft, bq_tf, f2, nt, enum_map, k1]
    · simp -implicitDefEqProofs only [List.map, param, List.length_cons, List.length_nil, s_cons, s_nil, s_iff, s_asg, s_par, s_drop, s_app, s_for, s_whl, s_kill, s_brk, s_cnt, s_pass, s_nev, s_retv, s_retN, r_lit, r_con, r_op, r_call, r_and, r_or, r_ife, r_chain, r_lst, r_tup, r_lc, rv, y_op, y_call, y_and, y_or, y_ife, y_chain, y_one, y_more, y_lst, y_tup, y_nil, y_cons, y_pnil, y_pcons, y_var, y_lit, y_con, y_ex, y_rng1, y_rng2, y_enum, y_zip, Nat.sub_self, List.replicate, List.cons_append, List.nil_append, List.append_nil, List.getElem?_cons_zero, List.getElem?_cons_succ, vr_sh, vr_own, vr_top, Option.bind_some, Option.map_some, Option.bind_none, Option.map_none, f_le, f_lt, f_gt, f_ge, boolD_some, cho_some, nmS_boolD, nmS_int, nmS_str, nmS_none, nmS_nil, Nat.reduceSub, Nat.reduceAdd, Nat.reduceLT, Nat.reduceLeDiff, ite_b, ite_true, ite_false, if_true, if_false, Bool.false_eq_true, o_neg', o_not', o_add', o_sub', o_mul', o_div', o_mod', o_abs', o_int', o_intb', o_min', o_max', o_gcd', o_lt', o_le', o_gt', o_ge', o_eq', o_ne', o_lenl, o_lent, o_idxl, o_idxt, o_isn', o_isnn', t_bool, t_int, nxt_nx, nxt_rt, nxt_bk, nxt_ct, nxt_if, rb_rt, rb_nx, rb_if, p_nm, p_tup, p_lst, p_nil, p_cons, cmO, c_nm, c_tup, c_lst, c_nil, c_cons, stO, Ow.tags, frz_n, frz_c, ff_nil, ff_cons, f1_none, f1_sh, f1_top, f1_own, w_nil, w_cons, List.set_cons_zero, List.set_cons_succ, intD, lstD, lvl, forF, whlC, lcF, and_self, Bool.not_eq_true', decide_eq_true_eq, decide_eq_false_iff_not, Bool.and_eq_true, Bool.and_eq_false_imp, and_true, true_and, own_q, oq_own, oq_top, put_o, put_t, io_int, io_bool, io_str, io_own, hasT_n, hasT_c, Nat.reduceBEq, Bool.false_and, Bool.and_false, Bool.true_and, Bool.and_true, Bool.or_false, Bool.false_or, Bool.or_true, Bool.true_or, beq_self_eq_true, not_true_eq_false, not_false_eq_true, List.append_assoc, dl_e, dt_e, ta_n, ta_c, List.all_cons, List.all_nil, Nat.zero_le, call_q, cq_0, cq_1, cq_2, atD_0, atD_1, vr_pair, nmS_pair, si_list, si_tup, y_lc, reduceCtorEq, y_tcons, y_tnil, ite_sb, pk_var, pq_sh, pq_top, pq_own, pk_op, pk_call, pk_lit, pk_con, pk_lst, pk_tup, pk_lc, pk_ife, pk_or, pk_and, nmS_list, nmT_ints, nmT_snoc, vr_int, vr_bool, vr_str, vr_none, o_rev, o_slc1, t_none, t_list, t_tup, isn_none, isn_int, isn_tup, isn_list, isn_bool, io_none, o_addl, List.isEmpty_cons, List.isEmpty_nil, s_par3, s_appK, s_ret2, r2_own, s_appM, s_forT, io_lsh, io_top, bq_ft, bq_tf, f2, nt, enum_map, k2]
  · simp -implicitDefEqProofs only [List.map, param, List.length_cons, List.length_nil, s_cons, s_nil, s_iff, s_asg, s_par, s_drop, s_app, s_for, s_whl, s_kill, s_brk, s_cnt, s_pass, s_nev, s_retv, s_retN, r_lit, r_con, r_op, r_call, r_and, r_or, r_ife, r_chain, r_lst, r_tup, r_lc, rv, y_op, y_call, y_and, y_or, y_ife, y_chain, y_one, y_more, y_lst, y_tup, y_nil, y_cons, y_pnil, y_pcons, y_var, y_lit, y_con, y_ex, y_rng1, y_rng2, y_enum, y_zip, Nat.sub_self, List.replicate, List.cons_append, List.nil_append, List.append_nil, List.getElem?_cons_zero, List.getElem?_cons_succ, vr_sh, vr_own, vr_top, Option.bind_some, Option.map_some, Option.bind_none, Option.map_none, f_le, f_lt, f_gt, f_ge, boolD_some, cho_some, nmS_boolD, nmS_int, nmS_str, nmS_none, nmS_nil, Nat.reduceSub, Nat.reduceAdd, Nat.reduceLT, Nat.reduceLeDiff, ite_b, ite_true, ite_false, if_true, if_false, Bool.false_eq_true, o_neg', o_not', o_add', o_sub', o_mul', o_div', o_mod', o_abs', o_int', o_intb', o_min', o_max', o_gcd', o_lt', o_le', o_gt', o_ge', o_eq', o_ne', o_lenl, o_lent, o_idxl, o_idxt, o_isn', o_isnn', t_bool, t_int, nxt_nx, nxt_rt, nxt_bk, nxt_ct, nxt_if, rb_rt, rb_nx, rb_if, p_nm, p_tup, p_lst, p_nil, p_cons, cmO, c_nm, c_tup, c_lst, c_nil, c_cons, stO, Ow.tags, frz_n, frz_c, ff_nil, ff_cons, f1_none, f1_sh, f1_top, f1_own, w_nil, w_cons, List.set_cons_zero, List.set_cons_succ, intD, lstD, lvl, forF, whlC, lcF, and_self, Bool.not_eq_true', decide_eq_true_eq, decide_eq_false_iff_not, Bool.and_eq_true, Bool.and_eq_false_imp, and_true, true_and, own_q, oq_own, oq_top, put_o, put_t, io_int, io_bool, io_str, io_own, hasT_n, hasT_c, Nat.reduceBEq, Bool.false_and, Bool.and_false, Bool.true_and, Bool.and_true, Bool.or_false, Bool.false_or, Bool.or_true, Bool.true_or, beq_self_eq_true, not_true_eq_false, not_false_eq_true, List.append_assoc, dl_e, dt_e, ta_n, ta_c, List.all_cons, List.all_nil, Nat.zero_le, call_q, cq_0, cq_1, cq_2, atD_0, atD_1, vr_pair, nmS_pair, si_list, si_tup, y_lc, reduceCtorEq, y_tcons, y_tnil, ite_sb, pk_var, pq_sh, pq_top, pq_own, pk_op, pk_call, pk_lit, pk_con, pk_lst, pk_tup, pk_lc, pk_ife, pk_or, pk_and, nmS_list, nmT_ints, nmT_snoc, vr_int, vr_bool, vr_str, vr_none, o_rev, o_slc1, t_none, t_list, t_tup, isn_none, isn_int, isn_tup, isn_list, isn_bool, io_none, o_addl, List.isEmpty_cons, List.isEmpty_nil, s_par3, s_appK, s_ret2, r2_own, s_appM, s_forT, io_lsh, io_top, bq_ft, bq_tf, f2, enum_map, k1]
def markOf : Deed → Nat
  | .lay m => m
  | .cut _ _ _ => 0
theorem lays_filter : ∀ ds : List Deed, (ds.filter isLay).map markOf = lays ds
  | [] => rfl
  | .lay m :: ds => by
    rw [List.filter_cons_of_pos rfl, List.map_cons, lays_filter ds]
    rfl
  | .cut _ _ _ :: ds => by
    rw [List.filter_cons_of_neg (fun z => by cases z), lays_filter ds]
    rfl
theorem lays_len (ds : List Deed) : (lays ds).length ≤ ds.length := by
  rw [← lays_filter, List.length_map]
  exact List.length_filter_le _ _
def encAcc (w : Nat) (ds : List Deed) : D := .tuple [encNs (lays ds), encSec (numV w ds)]
theorem account_ok (w : Nat) (ds : List Deed) (hw : w ≤ 900) (hn : ds.length ≤ 900) (lv : Nat) (hlv : lv = 1 ∨ lv = 2) (f2 : Φ 2 [.int (w : Int), encDs ds] = some (.list (rowsB w ds (ds.length + 1)), lv)) : runFd Φ W fd_account_of [.int (w : Int), encDs ds] = some (encAcc w ds, 2) := by
  rw [rowsB_last] at f2
  have sl := St_len w ds
  have sb := St_bd w ds
  have lcl : ∀ (g : List Tag) (a2 : Option R), lcRun (lcF Φ [4] (.op .idx (.cons (.var 4) (.cons (.lit (.int 1)) .nil))) (.nm 4) (.cons (.op .eq (.cons (.op .idx (.cons (.var 4) (.cons (.lit (.int 0)) .nil))) (.cons (.lit (.str "lay")) .nil))) .nil) g [some (.int (w : Int), .sh []), some (encDs ds, .sh []), a2, none, none, none, none, none]) (ds.map encD) =
      some ((ds.filter isLay).map fun d => ((PyData.int (markOf d : Int), Ow.sh []) : R)) := fun g a2 => by
    refine lc_filter encD _ _ _ ds fun d hd => ?_
    have nd : ∀ g, nmS (encD d) g = .sh [] := fun g => nmS_flat (flatD d)
    cases d with
    | lay m =>
      have i1 : ∀ g h, opR .idx [(encD (.lay m), g), (.int 1, h)] = some (.int (m : Int), .sh []) := fun g h => by unfold encD; simp -implicitDefEqProofs only [List.map, param, List.length_cons, List.length_nil, s_cons, s_nil, s_iff, s_asg, s_par, s_drop, s_app, s_for, s_whl, s_kill, s_brk, s_cnt, s_pass, s_nev, s_retv, s_retN, r_lit, r_con, r_op, r_call, r_and, r_or, r_ife, r_chain, r_lst, r_tup, r_lc, rv, y_op, y_call, y_and, y_or, y_ife, y_chain, y_one, y_more, y_lst, y_tup, y_nil, y_cons, y_pnil, y_pcons, y_var, y_lit, y_con, y_ex, y_rng1, y_rng2, y_enum, y_zip, Nat.sub_self, List.replicate, List.cons_append, List.nil_append, List.append_nil, List.getElem?_cons_zero, List.getElem?_cons_succ, vr_sh, vr_own, vr_top, Option.bind_some, Option.map_some, Option.bind_none, Option.map_none, f_le, f_lt, f_gt, f_ge, boolD_some, cho_some, nmS_boolD, nmS_int, nmS_str, nmS_none, nmS_nil, Nat.reduceSub, Nat.reduceAdd, Nat.reduceLT, Nat.reduceLeDiff, ite_b, ite_true, ite_false, if_true, if_false, Bool.false_eq_true, o_neg', o_not', o_add', o_sub', o_mul', o_div', o_mod', o_abs', o_int', o_intb', o_min', o_max', o_gcd', o_lt', o_le', o_gt', o_ge', o_eq', o_ne', o_lenl, o_lent, o_idxl, o_idxt, o_isn', o_isnn', t_bool, t_int, nxt_nx, nxt_rt, nxt_bk, nxt_ct, nxt_if, rb_rt, rb_nx, rb_if, p_nm, p_tup, p_lst, p_nil, p_cons, cmO, c_nm, c_tup, c_lst, c_nil, c_cons, stO, Ow.tags, frz_n, frz_c, ff_nil, ff_cons, f1_none, f1_sh, f1_top, f1_own, w_nil, w_cons, List.set_cons_zero, List.set_cons_succ, intD, lstD, lvl, forF, whlC, lcF, and_self, Bool.not_eq_true', decide_eq_true_eq, decide_eq_false_iff_not, Bool.and_eq_true, Bool.and_eq_false_imp, and_true, true_and, own_q, oq_own, oq_top, put_o, put_t, io_int, io_bool, io_str, io_own, hasT_n, hasT_c, Nat.reduceBEq, Bool.false_and, Bool.and_false, Bool.true_and, Bool.and_true, Bool.or_false, Bool.false_or, Bool.or_true, Bool.true_or, beq_self_eq_true, not_true_eq_false, not_false_eq_true, List.append_assoc, dl_e, dt_e, ta_n, ta_c, List.all_cons, List.all_nil, Nat.zero_le, call_q, cq_0, cq_1, cq_2, atD_0, atD_1, vr_pair, nmS_pair, si_list, si_tup, y_lc, reduceCtorEq, y_tcons, y_tnil, ite_sb, pk_var, pq_sh, pq_top, pq_own, pk_op, pk_call, pk_lit, pk_con, pk_lst, pk_tup, pk_lc, pk_ife, pk_or, pk_and, nmS_list, nmT_ints, nmT_snoc, vr_int, vr_bool, vr_str, vr_none, o_rev, o_slc1, t_none, t_list, t_tup, isn_none, isn_int, isn_tup, isn_list, isn_bool, io_none, o_addl, List.isEmpty_cons, List.isEmpty_nil, s_par3, s_appK, s_ret2, r2_own, s_appM, s_forT, io_lsh, io_top, bq_ft, bq_tf]
      simp -implicitDefEqProofs only [List.map, param, List.length_cons, List.length_nil, s_cons, s_nil, s_iff, s_asg, s_par, s_drop, s_app, s_for, s_whl, s_kill, s_brk, s_cnt, s_pass, s_nev, s_retv, s_retN, r_lit, r_con, r_op, r_call, r_and, r_or, r_ife, r_chain, r_lst, r_tup, r_lc, rv, y_op, y_call, y_and, y_or, y_ife, y_chain, y_one, y_more, y_lst, y_tup, y_nil, y_cons, y_pnil, y_pcons, y_var, y_lit, y_con, y_ex, y_rng1, y_rng2, y_enum, y_zip, Nat.sub_self, List.replicate, List.cons_append, List.nil_append, List.append_nil, List.getElem?_cons_zero, List.getElem?_cons_succ, vr_sh, vr_own, vr_top, Option.bind_some, Option.map_some, Option.bind_none, Option.map_none, f_le, f_lt, f_gt, f_ge, boolD_some, cho_some, nmS_boolD, nmS_int, nmS_str, nmS_none, nmS_nil, Nat.reduceSub, Nat.reduceAdd, Nat.reduceLT, Nat.reduceLeDiff, ite_b, ite_true, ite_false, if_true, if_false, Bool.false_eq_true, o_neg', o_not', o_add', o_sub', o_mul', o_div', o_mod', o_abs', o_int', o_intb', o_min', o_max', o_gcd', o_lt', o_le', o_gt', o_ge', o_eq', o_ne', o_lenl, o_lent, o_idxl, o_idxt, o_isn', o_isnn', t_bool, t_int, nxt_nx, nxt_rt, nxt_bk, nxt_ct, nxt_if, rb_rt, rb_nx, rb_if, p_nm, p_tup, p_lst, p_nil, p_cons, cmO, c_nm, c_tup, c_lst, c_nil, c_cons, stO, Ow.tags, frz_n, frz_c, ff_nil, ff_cons, f1_none, f1_sh, f1_top, f1_own, w_nil, w_cons, List.set_cons_zero, List.set_cons_succ, intD, lstD, lvl, forF, whlC, lcF, and_self, Bool.not_eq_true', decide_eq_true_eq, decide_eq_false_iff_not, Bool.and_eq_true, Bool.and_eq_false_imp, and_true, true_and, own_q, oq_own, oq_top, put_o, put_t, io_int, io_bool, io_str, io_own, hasT_n, hasT_c, Nat.reduceBEq, Bool.false_and, Bool.and_false, Bool.true_and, Bool.and_true, Bool.or_false, Bool.false_or, Bool.or_true, Bool.true_or, beq_self_eq_true, not_true_eq_false, not_false_eq_true, List.append_assoc, dl_e, dt_e, ta_n, ta_c, List.all_cons, List.all_nil, Nat.zero_le, call_q, cq_0, cq_1, cq_2, atD_0, atD_1, vr_pair, nmS_pair, si_list, si_tup, y_lc, reduceCtorEq, y_tcons, y_tnil, ite_sb, pk_var, pq_sh, pq_top, pq_own, pk_op, pk_call, pk_lit, pk_con, pk_lst, pk_tup, pk_lc, pk_ife, pk_or, pk_and, nmS_list, nmT_ints, nmT_snoc, vr_int, vr_bool, vr_str, vr_none, o_rev, o_slc1, t_none, t_list, t_tup, isn_none, isn_int, isn_tup, isn_list, isn_bool, io_none, o_addl, List.isEmpty_cons, List.isEmpty_nil, s_par3, s_appK, s_ret2, r2_own, s_appM, s_forT, io_lsh, io_top, bq_ft, bq_tf, nd, ix_word, eq_word, isLay, i1, markOf]
    | cut a b c => simp -implicitDefEqProofs only [List.map, param, List.length_cons, List.length_nil, s_cons, s_nil, s_iff, s_asg, s_par, s_drop, s_app, s_for, s_whl, s_kill, s_brk, s_cnt, s_pass, s_nev, s_retv, s_retN, r_lit, r_con, r_op, r_call, r_and, r_or, r_ife, r_chain, r_lst, r_tup, r_lc, rv, y_op, y_call, y_and, y_or, y_ife, y_chain, y_one, y_more, y_lst, y_tup, y_nil, y_cons, y_pnil, y_pcons, y_var, y_lit, y_con, y_ex, y_rng1, y_rng2, y_enum, y_zip, Nat.sub_self, List.replicate, List.cons_append, List.nil_append, List.append_nil, List.getElem?_cons_zero, List.getElem?_cons_succ, vr_sh, vr_own, vr_top, Option.bind_some, Option.map_some, Option.bind_none, Option.map_none, f_le, f_lt, f_gt, f_ge, boolD_some, cho_some, nmS_boolD, nmS_int, nmS_str, nmS_none, nmS_nil, Nat.reduceSub, Nat.reduceAdd, Nat.reduceLT, Nat.reduceLeDiff, ite_b, ite_true, ite_false, if_true, if_false, Bool.false_eq_true, o_neg', o_not', o_add', o_sub', o_mul', o_div', o_mod', o_abs', o_int', o_intb', o_min', o_max', o_gcd', o_lt', o_le', o_gt', o_ge', o_eq', o_ne', o_lenl, o_lent, o_idxl, o_idxt, o_isn', o_isnn', t_bool, t_int, nxt_nx, nxt_rt, nxt_bk, nxt_ct, nxt_if, rb_rt, rb_nx, rb_if, p_nm, p_tup, p_lst, p_nil, p_cons, cmO, c_nm, c_tup, c_lst, c_nil, c_cons, stO, Ow.tags, frz_n, frz_c, ff_nil, ff_cons, f1_none, f1_sh, f1_top, f1_own, w_nil, w_cons, List.set_cons_zero, List.set_cons_succ, intD, lstD, lvl, forF, whlC, lcF, and_self, Bool.not_eq_true', decide_eq_true_eq, decide_eq_false_iff_not, Bool.and_eq_true, Bool.and_eq_false_imp, and_true, true_and, own_q, oq_own, oq_top, put_o, put_t, io_int, io_bool, io_str, io_own, hasT_n, hasT_c, Nat.reduceBEq, Bool.false_and, Bool.and_false, Bool.true_and, Bool.and_true, Bool.or_false, Bool.false_or, Bool.or_true, Bool.true_or, beq_self_eq_true, not_true_eq_false, not_false_eq_true, List.append_assoc, dl_e, dt_e, ta_n, ta_c, List.all_cons, List.all_nil, Nat.zero_le, call_q, cq_0, cq_1, cq_2, atD_0, atD_1, vr_pair, nmS_pair, si_list, si_tup, y_lc, reduceCtorEq, y_tcons, y_tnil, ite_sb, pk_var, pq_sh, pq_top, pq_own, pk_op, pk_call, pk_lit, pk_con, pk_lst, pk_tup, pk_lc, pk_ife, pk_or, pk_and, nmS_list, nmT_ints, nmT_snoc, vr_int, vr_bool, vr_str, vr_none, o_rev, o_slc1, t_none, t_list, t_tup, isn_none, isn_int, isn_tup, isn_list, isn_bool, io_none, o_addl, List.isEmpty_cons, List.isEmpty_nil, s_par3, s_appK, s_ret2, r2_own, s_appM, s_forT, io_lsh, io_top, bq_ft, bq_tf, nd, ix_word, eq_word, isLay]
  have e1 : ((ds.filter isLay).map fun d => ((PyData.int (markOf d : Int), Ow.sh []) : R)).map (fun x => x.1) = (lays ds).map fun (n : Nat) => PyData.int (n : Int) := by rw [← lays_filter, List.map_map, List.map_map]; rfl
  have o1 : ((ds.filter isLay).map fun d => ((PyData.int (markOf d : Int), Ow.sh []) : R)).all isOwn = true := by
    rw [List.all_map]
    exact List.all_eq_true.mpr fun x _ => rfl
  have inn : ∀ (col : Col) (g : List Tag) (a2 a3 : Option R), lcRun (lcF Φ [6, 7] (.var 7) (.tp (.cons (.nm 6) (.cons (.nm 7) .nil))) .nil g [some (.int (w : Int), .sh []), some (encDs ds, .sh []), a2, a3, none, some (.list (col.map encM), .sh []), none, none]) (col.map encM) = some (col.map fun m => ((PyData.int (m.2 : Int), Ow.sh []) : R)) := fun col g a2 a3 => by
    refine lc_map encM _ _ col fun m hm => ?_
    unfold encM
    simp -implicitDefEqProofs only [List.map, param, List.length_cons, List.length_nil, s_cons, s_nil, s_iff, s_asg, s_par, s_drop, s_app, s_for, s_whl, s_kill, s_brk, s_cnt, s_pass, s_nev, s_retv, s_retN, r_lit, r_con, r_op, r_call, r_and, r_or, r_ife, r_chain, r_lst, r_tup, r_lc, rv, y_op, y_call, y_and, y_or, y_ife, y_chain, y_one, y_more, y_lst, y_tup, y_nil, y_cons, y_pnil, y_pcons, y_var, y_lit, y_con, y_ex, y_rng1, y_rng2, y_enum, y_zip, Nat.sub_self, List.replicate, List.cons_append, List.nil_append, List.append_nil, List.getElem?_cons_zero, List.getElem?_cons_succ, vr_sh, vr_own, vr_top, Option.bind_some, Option.map_some, Option.bind_none, Option.map_none, f_le, f_lt, f_gt, f_ge, boolD_some, cho_some, nmS_boolD, nmS_int, nmS_str, nmS_none, nmS_nil, Nat.reduceSub, Nat.reduceAdd, Nat.reduceLT, Nat.reduceLeDiff, ite_b, ite_true, ite_false, if_true, if_false, Bool.false_eq_true, o_neg', o_not', o_add', o_sub', o_mul', o_div', o_mod', o_abs', o_int', o_intb', o_min', o_max', o_gcd', o_lt', o_le', o_gt', o_ge', o_eq', o_ne', o_lenl, o_lent, o_idxl, o_idxt, o_isn', o_isnn', t_bool, t_int, nxt_nx, nxt_rt, nxt_bk, nxt_ct, nxt_if, rb_rt, rb_nx, rb_if, p_nm, p_tup, p_lst, p_nil, p_cons, cmO, c_nm, c_tup, c_lst, c_nil, c_cons, stO, Ow.tags, frz_n, frz_c, ff_nil, ff_cons, f1_none, f1_sh, f1_top, f1_own, w_nil, w_cons, List.set_cons_zero, List.set_cons_succ, intD, lstD, lvl, forF, whlC, lcF, and_self, Bool.not_eq_true', decide_eq_true_eq, decide_eq_false_iff_not, Bool.and_eq_true, Bool.and_eq_false_imp, and_true, true_and, own_q, oq_own, oq_top, put_o, put_t, io_int, io_bool, io_str, io_own, hasT_n, hasT_c, Nat.reduceBEq, Bool.false_and, Bool.and_false, Bool.true_and, Bool.and_true, Bool.or_false, Bool.false_or, Bool.or_true, Bool.true_or, beq_self_eq_true, not_true_eq_false, not_false_eq_true, List.append_assoc, dl_e, dt_e, ta_n, ta_c, List.all_cons, List.all_nil, Nat.zero_le, call_q, cq_0, cq_1, cq_2, atD_0, atD_1, vr_pair, nmS_pair, si_list, si_tup, y_lc, reduceCtorEq, y_tcons, y_tnil, ite_sb, pk_var, pq_sh, pq_top, pq_own, pk_op, pk_call, pk_lit, pk_con, pk_lst, pk_tup, pk_lc, pk_ife, pk_or, pk_and, nmS_list, nmT_ints, nmT_snoc, vr_int, vr_bool, vr_str, vr_none, o_rev, o_slc1, t_none, t_list, t_tup, isn_none, isn_int, isn_tup, isn_list, isn_bool, io_none, o_addl, List.isEmpty_cons, List.isEmpty_nil, s_par3, s_appK, s_ret2, r2_own, s_appM, s_forT, io_lsh, io_top, bq_ft, bq_tf]
  have ei : ∀ col : Col, (col.map fun m => ((PyData.int (m.2 : Int), Ow.sh []) : R)).map (fun x => x.1) = (col.map (·.2)).map fun (n : Nat) => PyData.int (n : Int) := fun col => by rw [List.map_map, List.map_map]; rfl
  have oi : ∀ col : Col, (col.map fun m => ((PyData.int (m.2 : Int), Ow.sh []) : R)).all isOwn = true := fun col => by
    rw [List.all_map]
    exact List.all_eq_true.mpr fun x _ => rfl
  have lc : ∀ (a3 : Option R), lcRun (lcF Φ [5] (.lc [6, 7] (.var 7) (.tp (.cons (.nm 6) (.cons (.nm 7) .nil))) (.ex (.var 5)) .nil) (.nm 5) .nil [] [some (.int (w : Int), .sh []), some (encDs ds, .sh []), some (encCols (St w ds).1, .sh []), a3, none, none, none, none]) ((St w ds).1.map encCol) = some ((St w ds).1.map fun col => ((encNs (col.map (·.2)), Ow.own) : R)) := fun a3 => by
    refine lc_map encCol _ _ _ fun col hc => ?_
    have q : col.length ≤ 1000000 := by have := sb col hc; omega
    unfold encCol encNs
    simp -implicitDefEqProofs only [List.map, param, List.length_cons, List.length_nil, s_cons, s_nil, s_iff, s_asg, s_par, s_drop, s_app, s_for, s_whl, s_kill, s_brk, s_cnt, s_pass, s_nev, s_retv, s_retN, r_lit, r_con, r_op, r_call, r_and, r_or, r_ife, r_chain, r_lst, r_tup, r_lc, rv, y_op, y_call, y_and, y_or, y_ife, y_chain, y_one, y_more, y_lst, y_tup, y_nil, y_cons, y_pnil, y_pcons, y_var, y_lit, y_con, y_ex, y_rng1, y_rng2, y_enum, y_zip, Nat.sub_self, List.replicate, List.cons_append, List.nil_append, List.append_nil, List.getElem?_cons_zero, List.getElem?_cons_succ, vr_sh, vr_own, vr_top, Option.bind_some, Option.map_some, Option.bind_none, Option.map_none, f_le, f_lt, f_gt, f_ge, boolD_some, cho_some, nmS_boolD, nmS_int, nmS_str, nmS_none, nmS_nil, Nat.reduceSub, Nat.reduceAdd, Nat.reduceLT, Nat.reduceLeDiff, ite_b, ite_true, ite_false, if_true, if_false, Bool.false_eq_true, o_neg', o_not', o_add', o_sub', o_mul', o_div', o_mod', o_abs', o_int', o_intb', o_min', o_max', o_gcd', o_lt', o_le', o_gt', o_ge', o_eq', o_ne', o_lenl, o_lent, o_idxl, o_idxt, o_isn', o_isnn', t_bool, t_int, nxt_nx, nxt_rt, nxt_bk, nxt_ct, nxt_if, rb_rt, rb_nx, rb_if, p_nm, p_tup, p_lst, p_nil, p_cons, cmO, c_nm, c_tup, c_lst, c_nil, c_cons, stO, Ow.tags, frz_n, frz_c, ff_nil, ff_cons, f1_none, f1_sh, f1_top, f1_own, w_nil, w_cons, List.set_cons_zero, List.set_cons_succ, intD, lstD, lvl, forF, whlC, lcF, and_self, Bool.not_eq_true', decide_eq_true_eq, decide_eq_false_iff_not, Bool.and_eq_true, Bool.and_eq_false_imp, and_true, true_and, own_q, oq_own, oq_top, put_o, put_t, io_int, io_bool, io_str, io_own, hasT_n, hasT_c, Nat.reduceBEq, Bool.false_and, Bool.and_false, Bool.true_and, Bool.and_true, Bool.or_false, Bool.false_or, Bool.or_true, Bool.true_or, beq_self_eq_true, not_true_eq_false, not_false_eq_true, List.append_assoc, dl_e, dt_e, ta_n, ta_c, List.all_cons, List.all_nil, Nat.zero_le, call_q, cq_0, cq_1, cq_2, atD_0, atD_1, vr_pair, nmS_pair, si_list, si_tup, y_lc, reduceCtorEq, y_tcons, y_tnil, ite_sb, pk_var, pq_sh, pq_top, pq_own, pk_op, pk_call, pk_lit, pk_con, pk_lst, pk_tup, pk_lc, pk_ife, pk_or, pk_and, nmS_list, nmT_ints, nmT_snoc, vr_int, vr_bool, vr_str, vr_none, o_rev, o_slc1, t_none, t_list, t_tup, isn_none, isn_int, isn_tup, isn_list, isn_bool, io_none, o_addl, List.isEmpty_cons, List.isEmpty_nil, s_par3, s_appK, s_ret2, r2_own, s_appM, s_forT, io_lsh, io_top, bq_ft, bq_tf, List.length_map, q, inn, ei, oi]
  have e2 : ((St w ds).1.map fun col => ((encNs (col.map (·.2)), Ow.own) : R)).map (fun x => x.1) = (numV w ds).map encNs := by unfold numV; rw [List.map_map, List.map_map]; rfl
  have o2 : ((St w ds).1.map fun col => ((encNs (col.map (·.2)), Ow.own) : R)).all isOwn = true := by
    rw [List.all_map]
    exact List.all_eq_true.mpr fun x _ => rfl
  have l1 : (St w ds).1.length ≤ 1000000 := by omega
  have l2 : ds.length ≤ 1000000 := by omega
  have al := at_last (rowsB w ds ds.length) (encCols (St w ds).1)
  unfold encAcc encSec encNs
  generalize rowsB w ds ds.length = X at *
  have nt := nt2 (X ++ [encCols (St w ds).1])
  unfold encDs encCols at *
  unfold fd_account_of
  refine (run_fd (by rfl)).trans ?_
  rcases hlv with rfl | rfl
  · rcases nt with nt | nt
    · simp -implicitDefEqProofs only [List.map, param, List.length_cons, List.length_nil, s_cons, s_nil, s_iff, s_asg, s_par, s_drop, s_app, s_for, s_whl, s_kill, s_brk, s_cnt, s_pass, s_nev, s_retv, s_retN, r_lit, r_con, r_op, r_call, r_and, r_or, r_ife, r_chain, r_lst, r_tup, r_lc, rv, y_op, y_call, y_and, y_or, y_ife, y_chain, y_one, y_more, y_lst, y_tup, y_nil, y_cons, y_pnil, y_pcons, y_var, y_lit, y_con, y_ex, y_rng1, y_rng2, y_enum, y_zip, Nat.sub_self, List.replicate, List.cons_append, List.nil_append, List.append_nil, List.getElem?_cons_zero, List.getElem?_cons_succ, vr_sh, vr_own, vr_top, Option.bind_some, Option.map_some, Option.bind_none, Option.map_none, f_le, f_lt, f_gt, f_ge, boolD_some, cho_some, nmS_boolD, nmS_int, nmS_str, nmS_none, nmS_nil, Nat.reduceSub, Nat.reduceAdd, Nat.reduceLT, Nat.reduceLeDiff, ite_b, ite_true, ite_false, if_true, if_false, Bool.false_eq_true, o_neg', o_not', o_add', o_sub', o_mul', o_div', o_mod', o_abs', o_int', o_intb', o_min', o_max', o_gcd', o_lt', o_le', o_gt', o_ge', o_eq', o_ne', o_lenl, o_lent, o_idxl, o_idxt, o_isn', o_isnn', t_bool, t_int, nxt_nx, nxt_rt, nxt_bk, nxt_ct, nxt_if, rb_rt, rb_nx, rb_if, p_nm, p_tup, p_lst, p_nil, p_cons, cmO, c_nm, c_tup, c_lst, c_nil, c_cons, stO, Ow.tags, frz_n, frz_c, ff_nil, ff_cons, f1_none, f1_sh, f1_top, f1_own, w_nil, w_cons, List.set_cons_zero, List.set_cons_succ, intD, lstD, lvl, forF, whlC, lcF, and_self, Bool.not_eq_true', decide_eq_true_eq, decide_eq_false_iff_not, Bool.and_eq_true, Bool.and_eq_false_imp, and_true, true_and, own_q, oq_own, oq_top, put_o, put_t, io_int, io_bool, io_str, io_own, hasT_n, hasT_c, Nat.reduceBEq, Bool.false_and, Bool.and_false, Bool.true_and, Bool.and_true, Bool.or_false, Bool.false_or, Bool.or_true, Bool.true_or, beq_self_eq_true, not_true_eq_false, not_false_eq_true, List.append_assoc, dl_e, dt_e, ta_n, ta_c, List.all_cons, List.all_nil, Nat.zero_le, call_q, cq_0, cq_1, cq_2, atD_0, atD_1, vr_pair, nmS_pair, si_list, si_tup, y_lc, reduceCtorEq, y_tcons, y_tnil, ite_sb, pk_var, pq_sh, pq_top, pq_own, pk_op, pk_call, pk_lit, pk_con, pk_lst, pk_tup, pk_lc, pk_ife, pk_or, pk_and, nmS_list, nmT_ints, nmT_snoc, vr_int, vr_bool, vr_str, vr_none, o_rev, o_slc1, t_none, t_list, t_tup, isn_none, isn_int, isn_tup, isn_list, isn_bool, io_none, o_addl, List.isEmpty_cons, List.isEmpty_nil, s_par3, s_appK, s_ret2, r2_own, s_appM, s_forT, io_lsh, io_top, bq_ft, bq_tf, f2, nt, al, List.length_map, l1, l2, lcl, e1, o1, lc, e2, o2]
      rfl
    · simp -implicitDefEqProofs only [List.map, param, List.length_cons, List.length_nil, s_cons, s_nil, s_iff, s_asg, s_par, s_drop, s_app, s_for, s_whl, s_kill, s_brk, s_cnt, s_pass, s_nev, s_retv, s_retN, r_lit, r_con, r_op, r_call, r_and, r_or, r_ife, r_chain, r_lst, r_tup, r_lc, rv, y_op, y_call, y_and, y_or, y_ife, y_chain, y_one, y_more, y_lst, y_tup, y_nil, y_cons, y_pnil, y_pcons, y_var, y_lit, y_con, y_ex, y_rng1, y_rng2, y_enum, y_zip, Nat.sub_self, List.replicate, List.cons_append, List.nil_append, List.append_nil, List.getElem?_cons_zero, List.getElem?_cons_succ, vr_sh, vr_own, vr_top, Option.bind_some, Option.map_some, Option.bind_none, Option.map_none, f_le, f_lt, f_gt, f_ge, boolD_some, cho_some, nmS_boolD, nmS_int, nmS_str, nmS_none, nmS_nil, Nat.reduceSub, Nat.reduceAdd, Nat.reduceLT, Nat.reduceLeDiff, ite_b, ite_true, ite_false, if_true, if_false, Bool.false_eq_true, o_neg', o_not', o_add', o_sub', o_mul', o_div', o_mod', o_abs', o_int', o_intb', o_min', o_max', o_gcd', o_lt', o_le', o_gt', o_ge', o_eq', o_ne', o_lenl, o_lent, o_idxl, o_idxt, o_isn', o_isnn', t_bool, t_int, nxt_nx, nxt_rt, nxt_bk, nxt_ct, nxt_if, rb_rt, rb_nx, rb_if, p_nm, p_tup, p_lst, p_nil, p_cons, cmO, c_nm, c_tup, c_lst, c_nil, c_cons, stO, Ow.tags, frz_n, frz_c, ff_nil, ff_cons, f1_none, f1_sh, f1_top, f1_own, w_nil, w_cons, List.set_cons_zero, List.set_cons_succ, intD, lstD, lvl, forF, whlC, lcF, and_self, Bool.not_eq_true', decide_eq_true_eq, decide_eq_false_iff_not, Bool.and_eq_true, Bool.and_eq_false_imp, and_true, true_and, own_q, oq_own, oq_top, put_o, put_t, io_int, io_bool, io_str, io_own, hasT_n, hasT_c, Nat.reduceBEq, Bool.false_and, Bool.and_false, Bool.true_and, Bool.and_true, Bool.or_false, Bool.false_or, Bool.or_true, Bool.true_or, beq_self_eq_true, not_true_eq_false, not_false_eq_true, List.append_assoc, dl_e, dt_e, ta_n, ta_c, List.all_cons, List.all_nil, Nat.zero_le, call_q, cq_0, cq_1, cq_2, atD_0, atD_1, vr_pair, nmS_pair, si_list, si_tup, y_lc, reduceCtorEq, y_tcons, y_tnil, ite_sb, pk_var, pq_sh, pq_top, pq_own, pk_op, pk_call, pk_lit, pk_con, pk_lst, pk_tup, pk_lc, pk_ife, pk_or, pk_and, nmS_list, nmT_ints, nmT_snoc, vr_int, vr_bool, vr_str, vr_none, o_rev, o_slc1, t_none, t_list, t_tup, isn_none, isn_int, isn_tup, isn_list, isn_bool, io_none, o_addl, List.isEmpty_cons, List.isEmpty_nil, s_par3, s_appK, s_ret2, r2_own, s_appM, s_forT, io_lsh, io_top, bq_ft, bq_tf, f2, nt, al, List.length_map, l1, l2, lcl, e1, o1, lc, e2, o2]
      rfl
  · simp -implicitDefEqProofs only [List.map, param, List.length_cons, List.length_nil, s_cons, s_nil, s_iff, s_asg, s_par, s_drop, s_app, s_for, s_whl, s_kill, s_brk, s_cnt, s_pass, s_nev, s_retv, s_retN, r_lit, r_con, r_op, r_call, r_and, r_or, r_ife, r_chain, r_lst, r_tup, r_lc, rv, y_op, y_call, y_and, y_or, y_ife, y_chain, y_one, y_more, y_lst, y_tup, y_nil, y_cons, y_pnil, y_pcons, y_var, y_lit, y_con, y_ex, y_rng1, y_rng2, y_enum, y_zip, Nat.sub_self, List.replicate, List.cons_append, List.nil_append, List.append_nil, List.getElem?_cons_zero, List.getElem?_cons_succ, vr_sh, vr_own, vr_top, Option.bind_some, Option.map_some, Option.bind_none, Option.map_none, f_le, f_lt, f_gt, f_ge, boolD_some, cho_some, nmS_boolD, nmS_int, nmS_str, nmS_none, nmS_nil, Nat.reduceSub, Nat.reduceAdd, Nat.reduceLT, Nat.reduceLeDiff, ite_b, ite_true, ite_false, if_true, if_false, Bool.false_eq_true, o_neg', o_not', o_add', o_sub', o_mul', o_div', o_mod', o_abs', o_int', o_intb', o_min', o_max', o_gcd', o_lt', o_le', o_gt', o_ge', o_eq', o_ne', o_lenl, o_lent, o_idxl, o_idxt, o_isn', o_isnn', t_bool, t_int, nxt_nx, nxt_rt, nxt_bk, nxt_ct, nxt_if, rb_rt, rb_nx, rb_if, p_nm, p_tup, p_lst, p_nil, p_cons, cmO, c_nm, c_tup, c_lst, c_nil, c_cons, stO, Ow.tags, frz_n, frz_c, ff_nil, ff_cons, f1_none, f1_sh, f1_top, f1_own, w_nil, w_cons, List.set_cons_zero, List.set_cons_succ, intD, lstD, lvl, forF, whlC, lcF, and_self, Bool.not_eq_true', decide_eq_true_eq, decide_eq_false_iff_not, Bool.and_eq_true, Bool.and_eq_false_imp, and_true, true_and, own_q, oq_own, oq_top, put_o, put_t, io_int, io_bool, io_str, io_own, hasT_n, hasT_c, Nat.reduceBEq, Bool.false_and, Bool.and_false, Bool.true_and, Bool.and_true, Bool.or_false, Bool.false_or, Bool.or_true, Bool.true_or, beq_self_eq_true, not_true_eq_false, not_false_eq_true, List.append_assoc, dl_e, dt_e, ta_n, ta_c, List.all_cons, List.all_nil, Nat.zero_le, call_q, cq_0, cq_1, cq_2, atD_0, atD_1, vr_pair, nmS_pair, si_list, si_tup, y_lc, reduceCtorEq, y_tcons, y_tnil, ite_sb, pk_var, pq_sh, pq_top, pq_own, pk_op, pk_call, pk_lit, pk_con, pk_lst, pk_tup, pk_lc, pk_ife, pk_or, pk_and, nmS_list, nmT_ints, nmT_snoc, vr_int, vr_bool, vr_str, vr_none, o_rev, o_slc1, t_none, t_list, t_tup, isn_none, isn_int, isn_tup, isn_list, isn_bool, io_none, o_addl, List.isEmpty_cons, List.isEmpty_nil, s_par3, s_appK, s_ret2, r2_own, s_appM, s_forT, io_lsh, io_top, bq_ft, bq_tf, f2, al, List.length_map, l1, l2, lcl, e1, o1, lc, e2, o2]
    rfl
theorem zip_same {α : Type} (f g : α → D) : ∀ cs : List α, zipD (cs.map f) (cs.map g) = cs.map fun c => .tuple [f c, g c]
  | [] => rfl
  | c :: cs => by
    rw [List.map_cons, List.map_cons, List.map_cons, ← zip_same f g cs]
    rfl
theorem zip_map {α β : Type} (f : α → D) (g : β → D) : ∀ (xs : List α) (ys : List β), zipD (xs.map f) (ys.map g) = (xs.zip ys).map fun p => .tuple [f p.1, g p.2]
  | [], _ => rfl
  | _ :: _, [] => rfl
  | x :: xs, y :: ys => by
    rw [List.map_cons, List.map_cons, List.zip_cons_cons, List.map_cons, ← zip_map f g xs ys]
    rfl
theorem pw_zip {α : Type} {R : α → α → Prop} : ∀ l : List α, l.Pairwise R → ∀ p ∈ l.zip (l.drop 1), R p.1 p.2
  | [], _, p, h => by cases h
  | [a], _, p, h => by cases h
  | a :: b :: l, hp, p, h => by
    have h' : p ∈ (a, b) :: (b :: l).zip l := h
    rcases List.mem_cons.mp h' with z | z
    · rw [z]
      exact (List.pairwise_cons.mp hp).1 b (List.mem_cons_self ..)
    · exact pw_zip (b :: l) (List.pairwise_cons.mp hp).2 p z
theorem all_true {α : Type} (p : α → Bool) (xs : List α) (h : ∀ x ∈ xs, p x = true) (g : List Tag) : opR .all [(.list ((xs.map fun x => ((PyData.bool (p x), Ow.sh []) : R)).map (fun x => x.1)), g)] = some (.bool true, .sh []) := by
  have e : (xs.map fun x => ((PyData.bool (p x), Ow.sh []) : R)).map (fun x => x.1) = (xs.map p).map .bool := by rw [List.map_map, List.map_map]; rfl
  rw [e, o_all, List.all_map]
  congr 3
  rw [List.all_eq_true]
  exact h
theorem csec_ok (s : List (List Nat)) (h1 : 1 ≤ s.length ∧ s.length ≤ 4) (h2 : ∀ c ∈ s, c.length ≤ 6 ∧ ∀ m ∈ c, 1 ≤ m ∧ m ≤ 9) : runFd Φ W fd_check_section [encSec s] = some (.none, 2) := by
  have key := for_inv (k := [1, 2]) (fun (p : List Nat × Nat) => PyData.tuple [.int (p.2 : Int), encNs p.1]) (fun i ρ => ρ = [some (encSec s, .sh []), none, none, none]) (forF Φ W (.tp (.cons (.nm 1) (.cons (.nm 2) .nil))) b0_check_section)
    (fun i ρ e => by rw [e]; rfl) s.zipIdx 0 _ rfl (fun j x ρ hx e => ?_)
  · obtain ⟨ρ', e1, e2⟩ := key
    rw [e2] at e1
    have c1 : (1 : Int) ≤ (s.length : Int) := by omega
    have c2 : (s.length : Int) ≤ 4 := by omega
    unfold encSec at *
    unfold fd_check_section
    refine (run_fd (by rfl)).trans ?_
    simp -implicitDefEqProofs only [List.map, param, List.length_cons, List.length_nil, s_cons, s_nil, s_iff, s_asg, s_par, s_drop, s_app, s_for, s_whl, s_kill, s_brk, s_cnt, s_pass, s_nev, s_retv, s_retN, r_lit, r_con, r_op, r_call, r_and, r_or, r_ife, r_chain, r_lst, r_tup, r_lc, rv, y_op, y_call, y_and, y_or, y_ife, y_chain, y_one, y_more, y_lst, y_tup, y_nil, y_cons, y_pnil, y_pcons, y_var, y_lit, y_con, y_ex, y_rng1, y_rng2, y_enum, y_zip, Nat.sub_self, List.replicate, List.cons_append, List.nil_append, List.append_nil, List.getElem?_cons_zero, List.getElem?_cons_succ, vr_sh, vr_own, vr_top, Option.bind_some, Option.map_some, Option.bind_none, Option.map_none, f_le, f_lt, f_gt, f_ge, boolD_some, cho_some, nmS_boolD, nmS_int, nmS_str, nmS_none, nmS_nil, Nat.reduceSub, Nat.reduceAdd, Nat.reduceLT, Nat.reduceLeDiff, ite_b, ite_true, ite_false, if_true, if_false, Bool.false_eq_true, o_neg', o_not', o_add', o_sub', o_mul', o_div', o_mod', o_abs', o_int', o_intb', o_min', o_max', o_gcd', o_lt', o_le', o_gt', o_ge', o_eq', o_ne', o_lenl, o_lent, o_idxl, o_idxt, o_isn', o_isnn', t_bool, t_int, nxt_nx, nxt_rt, nxt_bk, nxt_ct, nxt_if, rb_rt, rb_nx, rb_if, p_nm, p_tup, p_lst, p_nil, p_cons, cmO, c_nm, c_tup, c_lst, c_nil, c_cons, stO, Ow.tags, frz_n, frz_c, ff_nil, ff_cons, f1_none, f1_sh, f1_top, f1_own, w_nil, w_cons, List.set_cons_zero, List.set_cons_succ, intD, lstD, lvl, forF, whlC, lcF, and_self, Bool.not_eq_true', decide_eq_true_eq, decide_eq_false_iff_not, Bool.and_eq_true, Bool.and_eq_false_imp, and_true, true_and, own_q, oq_own, oq_top, put_o, put_t, io_int, io_bool, io_str, io_own, hasT_n, hasT_c, Nat.reduceBEq, Bool.false_and, Bool.and_false, Bool.true_and, Bool.and_true, Bool.or_false, Bool.false_or, Bool.or_true, Bool.true_or, beq_self_eq_true, not_true_eq_false, not_false_eq_true, List.append_assoc, dl_e, dt_e, ta_n, ta_c, List.all_cons, List.all_nil, Nat.zero_le, call_q, cq_0, cq_1, cq_2, atD_0, atD_1, vr_pair, nmS_pair, si_list, si_tup, y_lc, reduceCtorEq, y_tcons, y_tnil, ite_sb, pk_var, pq_sh, pq_top, pq_own, pk_op, pk_call, pk_lit, pk_con, pk_lst, pk_tup, pk_lc, pk_ife, pk_or, pk_and, nmS_list, nmT_ints, nmT_snoc, vr_int, vr_bool, vr_str, vr_none, o_rev, o_slc1, t_none, t_list, t_tup, isn_none, isn_int, isn_tup, isn_list, isn_bool, io_none, o_addl, List.isEmpty_cons, List.isEmpty_nil, s_par3, s_appK, s_ret2, r2_own, s_appM, s_forT, io_lsh, io_top, bq_ft, bq_tf, List.length_map, c1, c2, enum_map, e1]
  · subst e
    obtain ⟨k1, k2⟩ := h2 x.1 (List.mem_of_getElem? (idx_at hx).1)
    have lc : ∀ (g : List Tag) (a0 a1 a2 : Option R), lcRun (lcF Φ [3] (.chain (.lit (.int 1)) .le (.var 3) (.one .le (.con "MOST_MARK" (.int 9)))) (.nm 3) .nil g [a0, a1, a2, none]) (x.1.map fun (n : Nat) => .int (n : Int)) = some (x.1.map fun (n : Nat) => ((PyData.bool (decide ((1 : Int) ≤ (n : Int)) && decide ((n : Int) ≤ 9)), Ow.sh []) : R)) := fun g a0 a1 a2 => by
      refine lc_map (fun (n : Nat) => PyData.int (n : Int)) _ _ _ fun n hn => ?_
      have := k2 n hn
      have q1 : (1 : Int) ≤ (n : Int) := by omega
      have q2 : (n : Int) ≤ 9 := by omega
      simp -implicitDefEqProofs only [List.map, param, List.length_cons, List.length_nil, s_cons, s_nil, s_iff, s_asg, s_par, s_drop, s_app, s_for, s_whl, s_kill, s_brk, s_cnt, s_pass, s_nev, s_retv, s_retN, r_lit, r_con, r_op, r_call, r_and, r_or, r_ife, r_chain, r_lst, r_tup, r_lc, rv, y_op, y_call, y_and, y_or, y_ife, y_chain, y_one, y_more, y_lst, y_tup, y_nil, y_cons, y_pnil, y_pcons, y_var, y_lit, y_con, y_ex, y_rng1, y_rng2, y_enum, y_zip, Nat.sub_self, List.replicate, List.cons_append, List.nil_append, List.append_nil, List.getElem?_cons_zero, List.getElem?_cons_succ, vr_sh, vr_own, vr_top, Option.bind_some, Option.map_some, Option.bind_none, Option.map_none, f_le, f_lt, f_gt, f_ge, boolD_some, cho_some, nmS_boolD, nmS_int, nmS_str, nmS_none, nmS_nil, Nat.reduceSub, Nat.reduceAdd, Nat.reduceLT, Nat.reduceLeDiff, ite_b, ite_true, ite_false, if_true, if_false, Bool.false_eq_true, o_neg', o_not', o_add', o_sub', o_mul', o_div', o_mod', o_abs', o_int', o_intb', o_min', o_max', o_gcd', o_lt', o_le', o_gt', o_ge', o_eq', o_ne', o_lenl, o_lent, o_idxl, o_idxt, o_isn', o_isnn', t_bool, t_int, nxt_nx, nxt_rt, nxt_bk, nxt_ct, nxt_if, rb_rt, rb_nx, rb_if, p_nm, p_tup, p_lst, p_nil, p_cons, cmO, c_nm, c_tup, c_lst, c_nil, c_cons, stO, Ow.tags, frz_n, frz_c, ff_nil, ff_cons, f1_none, f1_sh, f1_top, f1_own, w_nil, w_cons, List.set_cons_zero, List.set_cons_succ, intD, lstD, lvl, forF, whlC, lcF, and_self, Bool.not_eq_true', decide_eq_true_eq, decide_eq_false_iff_not, Bool.and_eq_true, Bool.and_eq_false_imp, and_true, true_and, own_q, oq_own, oq_top, put_o, put_t, io_int, io_bool, io_str, io_own, hasT_n, hasT_c, Nat.reduceBEq, Bool.false_and, Bool.and_false, Bool.true_and, Bool.and_true, Bool.or_false, Bool.false_or, Bool.or_true, Bool.true_or, beq_self_eq_true, not_true_eq_false, not_false_eq_true, List.append_assoc, dl_e, dt_e, ta_n, ta_c, List.all_cons, List.all_nil, Nat.zero_le, call_q, cq_0, cq_1, cq_2, atD_0, atD_1, vr_pair, nmS_pair, si_list, si_tup, y_lc, reduceCtorEq, y_tcons, y_tnil, ite_sb, pk_var, pq_sh, pq_top, pq_own, pk_op, pk_call, pk_lit, pk_con, pk_lst, pk_tup, pk_lc, pk_ife, pk_or, pk_and, nmS_list, nmT_ints, nmT_snoc, vr_int, vr_bool, vr_str, vr_none, o_rev, o_slc1, t_none, t_list, t_tup, isn_none, isn_int, isn_tup, isn_list, isn_bool, io_none, o_addl, List.isEmpty_cons, List.isEmpty_nil, s_par3, s_appK, s_ret2, r2_own, s_appM, s_forT, io_lsh, io_top, bq_ft, bq_tf, q1, q2, decide_true]
    have al := fun g => all_true (fun n : Nat => decide ((1 : Int) ≤ (n : Int)) && decide ((n : Int) ≤ 9)) x.1 (fun n hn => by
      have := k2 n hn
      simp
      omega) g
    have l1 : ¬ (6 : Int) < (x.1.length : Int) := by omega
    have l2 : x.1.length ≤ 1000000 := by omega
    unfold b0_check_section encNs
    apply Exists.intro
    apply And.intro
    · apply Or.inl
      simp -implicitDefEqProofs only [List.map, param, List.length_cons, List.length_nil, s_cons, s_nil, s_iff, s_asg, s_par, s_drop, s_app, s_for, s_whl, s_kill, s_brk, s_cnt, s_pass, s_nev, s_retv, s_retN, r_lit, r_con, r_op, r_call, r_and, r_or, r_ife, r_chain, r_lst, r_tup, r_lc, rv, y_op, y_call, y_and, y_or, y_ife, y_chain, y_one, y_more, y_lst, y_tup, y_nil, y_cons, y_pnil, y_pcons, y_var, y_lit, y_con, y_ex, y_rng1, y_rng2, y_enum, y_zip, Nat.sub_self, List.replicate, List.cons_append, List.nil_append, List.append_nil, List.getElem?_cons_zero, List.getElem?_cons_succ, vr_sh, vr_own, vr_top, Option.bind_some, Option.map_some, Option.bind_none, Option.map_none, f_le, f_lt, f_gt, f_ge, boolD_some, cho_some, nmS_boolD, nmS_int, nmS_str, nmS_none, nmS_nil, Nat.reduceSub, Nat.reduceAdd, Nat.reduceLT, Nat.reduceLeDiff, ite_b, ite_true, ite_false, if_true, if_false, Bool.false_eq_true, o_neg', o_not', o_add', o_sub', o_mul', o_div', o_mod', o_abs', o_int', o_intb', o_min', o_max', o_gcd', o_lt', o_le', o_gt', o_ge', o_eq', o_ne', o_lenl, o_lent, o_idxl, o_idxt, o_isn', o_isnn', t_bool, t_int, nxt_nx, nxt_rt, nxt_bk, nxt_ct, nxt_if, rb_rt, rb_nx, rb_if, p_nm, p_tup, p_lst, p_nil, p_cons, cmO, c_nm, c_tup, c_lst, c_nil, c_cons, stO, Ow.tags, frz_n, frz_c, ff_nil, ff_cons, f1_none, f1_sh, f1_top, f1_own, w_nil, w_cons, List.set_cons_zero, List.set_cons_succ, intD, lstD, lvl, forF, whlC, lcF, and_self, Bool.not_eq_true', decide_eq_true_eq, decide_eq_false_iff_not, Bool.and_eq_true, Bool.and_eq_false_imp, and_true, true_and, own_q, oq_own, oq_top, put_o, put_t, io_int, io_bool, io_str, io_own, hasT_n, hasT_c, Nat.reduceBEq, Bool.false_and, Bool.and_false, Bool.true_and, Bool.and_true, Bool.or_false, Bool.false_or, Bool.or_true, Bool.true_or, beq_self_eq_true, not_true_eq_false, not_false_eq_true, List.append_assoc, dl_e, dt_e, ta_n, ta_c, List.all_cons, List.all_nil, Nat.zero_le, call_q, cq_0, cq_1, cq_2, atD_0, atD_1, vr_pair, nmS_pair, si_list, si_tup, y_lc, reduceCtorEq, y_tcons, y_tnil, ite_sb, pk_var, pq_sh, pq_top, pq_own, pk_op, pk_call, pk_lit, pk_con, pk_lst, pk_tup, pk_lc, pk_ife, pk_or, pk_and, nmS_list, nmT_ints, nmT_snoc, vr_int, vr_bool, vr_str, vr_none, o_rev, o_slc1, t_none, t_list, t_tup, isn_none, isn_int, isn_tup, isn_list, isn_bool, io_none, o_addl, List.isEmpty_cons, List.isEmpty_nil, s_par3, s_appK, s_ret2, r2_own, s_appM, s_forT, io_lsh, io_top, bq_ft, bq_tf, List.length_map, l1, l2, lc, al]
      rfl
    · rfl
theorem right1_ok (a0 a1 a2 : Option R) (ls : List Nat) (ha : a1 = some (encNs ls, .sh [])) (col : Col) (h : colOk ls col) (hl : col.length ≤ 900) :
    ∃ ρ', forF Φ W (.tp (.cons (.nm 3) (.cons (.nm 4) .nil))) b0_is_right (.tuple [encNs (marks col), encNs (col.map (·.2))]) [a0, a1, a2, none, none, none, none, none, none] = some (.nx ρ') ∧ wipeR [3, 4] ρ' = [a0, a1, a2, none, none, none, none, none, none] := by
  subst ha
  obtain ⟨pw, hm⟩ := h
  have eN : encNs (col.map (·.2)) = .list (col.map fun m => .int (m.2 : Int)) := by unfold encNs; rw [List.map_map]; rfl
  have eM : encNs (marks col) = .list (col.map fun m => .int (m.1 : Int)) := by unfold encNs marks; rw [List.map_map]; rfl
  rw [eN, eM]
  have lt : ∀ m ∈ col, m.2 < ls.length := fun m hm' => (List.getElem?_eq_some_iff.mp (hm m hm')).1
  have lc1 : ∀ (g : List Tag) (b0 b2 b3 b4 b7 b8 : Option R), lcRun (lcF Φ [6] (.chain (.lit (.int 0)) .le (.var 6) (.one .lt (.op .len (.cons (.var 1) .nil)))) (.nm 6) .nil g [b0, some (encNs ls, .sh []), b2, b3, b4, none, none, b7, b8]) (col.map fun m => .int (m.2 : Int)) = some (col.map fun m => ((PyData.bool (decide ((0 : Int) ≤ (m.2 : Int)) && decide ((m.2 : Int) < (ls.length : Int))), Ow.sh []) : R)) := fun g b0 b2 b3 b4 b7 b8 => by
    refine lc_map (fun m : Mk => PyData.int (m.2 : Int)) _ _ _ fun m hm' => ?_
    have q1 : (0 : Int) ≤ (m.2 : Int) := by omega
    have q2 : (m.2 : Int) < (ls.length : Int) := by have := lt m hm'; omega
    unfold encNs
    simp -implicitDefEqProofs only [List.map, param, List.length_cons, List.length_nil, s_cons, s_nil, s_iff, s_asg, s_par, s_drop, s_app, s_for, s_whl, s_kill, s_brk, s_cnt, s_pass, s_nev, s_retv, s_retN, r_lit, r_con, r_op, r_call, r_and, r_or, r_ife, r_chain, r_lst, r_tup, r_lc, rv, y_op, y_call, y_and, y_or, y_ife, y_chain, y_one, y_more, y_lst, y_tup, y_nil, y_cons, y_pnil, y_pcons, y_var, y_lit, y_con, y_ex, y_rng1, y_rng2, y_enum, y_zip, Nat.sub_self, List.replicate, List.cons_append, List.nil_append, List.append_nil, List.getElem?_cons_zero, List.getElem?_cons_succ, vr_sh, vr_own, vr_top, Option.bind_some, Option.map_some, Option.bind_none, Option.map_none, f_le, f_lt, f_gt, f_ge, boolD_some, cho_some, nmS_boolD, nmS_int, nmS_str, nmS_none, nmS_nil, Nat.reduceSub, Nat.reduceAdd, Nat.reduceLT, Nat.reduceLeDiff, ite_b, ite_true, ite_false, if_true, if_false, Bool.false_eq_true, o_neg', o_not', o_add', o_sub', o_mul', o_div', o_mod', o_abs', o_int', o_intb', o_min', o_max', o_gcd', o_lt', o_le', o_gt', o_ge', o_eq', o_ne', o_lenl, o_lent, o_idxl, o_idxt, o_isn', o_isnn', t_bool, t_int, nxt_nx, nxt_rt, nxt_bk, nxt_ct, nxt_if, rb_rt, rb_nx, rb_if, p_nm, p_tup, p_lst, p_nil, p_cons, cmO, c_nm, c_tup, c_lst, c_nil, c_cons, stO, Ow.tags, frz_n, frz_c, ff_nil, ff_cons, f1_none, f1_sh, f1_top, f1_own, w_nil, w_cons, List.set_cons_zero, List.set_cons_succ, intD, lstD, lvl, forF, whlC, lcF, and_self, Bool.not_eq_true', decide_eq_true_eq, decide_eq_false_iff_not, Bool.and_eq_true, Bool.and_eq_false_imp, and_true, true_and, own_q, oq_own, oq_top, put_o, put_t, io_int, io_bool, io_str, io_own, hasT_n, hasT_c, Nat.reduceBEq, Bool.false_and, Bool.and_false, Bool.true_and, Bool.and_true, Bool.or_false, Bool.false_or, Bool.or_true, Bool.true_or, beq_self_eq_true, not_true_eq_false, not_false_eq_true, List.append_assoc, dl_e, dt_e, ta_n, ta_c, List.all_cons, List.all_nil, Nat.zero_le, call_q, cq_0, cq_1, cq_2, atD_0, atD_1, vr_pair, nmS_pair, si_list, si_tup, y_lc, reduceCtorEq, y_tcons, y_tnil, ite_sb, pk_var, pq_sh, pq_top, pq_own, pk_op, pk_call, pk_lit, pk_con, pk_lst, pk_tup, pk_lc, pk_ife, pk_or, pk_and, nmS_list, nmT_ints, nmT_snoc, vr_int, vr_bool, vr_str, vr_none, o_rev, o_slc1, t_none, t_list, t_tup, isn_none, isn_int, isn_tup, isn_list, isn_bool, io_none, o_addl, List.isEmpty_cons, List.isEmpty_nil, s_par3, s_appK, s_ret2, r2_own, s_appM, s_forT, io_lsh, io_top, bq_ft, bq_tf, List.length_map, q1, q2, decide_true]
  have al1 := fun g => all_true (fun m : Mk => decide ((0 : Int) ≤ (m.2 : Int)) && decide ((m.2 : Int) < (ls.length : Int))) col (fun m hm' => by
    have := lt m hm'
    simp
    omega) g
  have lc2 : ∀ (g : List Tag) (b0 b1 b2 b3 b4 b5 b6 : Option R), lcRun (lcF Φ [7, 8] (.op .lt (.cons (.var 7) (.cons (.var 8) .nil))) (.tp (.cons (.nm 7) (.cons (.nm 8) .nil))) .nil g [b0, b1, b2, b3, b4, b5, b6, none, none]) ((col.zip (col.drop 1)).map fun p => .tuple [.int (p.1.2 : Int), .int (p.2.2 : Int)]) = some ((col.zip (col.drop 1)).map fun p => ((PyData.bool (decide ((p.1.2 : Int) < (p.2.2 : Int))), Ow.sh []) : R)) := fun g b0 b1 b2 b3 b4 b5 b6 => by
    refine lc_map (fun p : Mk × Mk => PyData.tuple [.int (p.1.2 : Int), .int (p.2.2 : Int)]) _ _ _ fun p hp => ?_
    simp -implicitDefEqProofs only [List.map, param, List.length_cons, List.length_nil, s_cons, s_nil, s_iff, s_asg, s_par, s_drop, s_app, s_for, s_whl, s_kill, s_brk, s_cnt, s_pass, s_nev, s_retv, s_retN, r_lit, r_con, r_op, r_call, r_and, r_or, r_ife, r_chain, r_lst, r_tup, r_lc, rv, y_op, y_call, y_and, y_or, y_ife, y_chain, y_one, y_more, y_lst, y_tup, y_nil, y_cons, y_pnil, y_pcons, y_var, y_lit, y_con, y_ex, y_rng1, y_rng2, y_enum, y_zip, Nat.sub_self, List.replicate, List.cons_append, List.nil_append, List.append_nil, List.getElem?_cons_zero, List.getElem?_cons_succ, vr_sh, vr_own, vr_top, Option.bind_some, Option.map_some, Option.bind_none, Option.map_none, f_le, f_lt, f_gt, f_ge, boolD_some, cho_some, nmS_boolD, nmS_int, nmS_str, nmS_none, nmS_nil, Nat.reduceSub, Nat.reduceAdd, Nat.reduceLT, Nat.reduceLeDiff, ite_b, ite_true, ite_false, if_true, if_false, Bool.false_eq_true, o_neg', o_not', o_add', o_sub', o_mul', o_div', o_mod', o_abs', o_int', o_intb', o_min', o_max', o_gcd', o_lt', o_le', o_gt', o_ge', o_eq', o_ne', o_lenl, o_lent, o_idxl, o_idxt, o_isn', o_isnn', t_bool, t_int, nxt_nx, nxt_rt, nxt_bk, nxt_ct, nxt_if, rb_rt, rb_nx, rb_if, p_nm, p_tup, p_lst, p_nil, p_cons, cmO, c_nm, c_tup, c_lst, c_nil, c_cons, stO, Ow.tags, frz_n, frz_c, ff_nil, ff_cons, f1_none, f1_sh, f1_top, f1_own, w_nil, w_cons, List.set_cons_zero, List.set_cons_succ, intD, lstD, lvl, forF, whlC, lcF, and_self, Bool.not_eq_true', decide_eq_true_eq, decide_eq_false_iff_not, Bool.and_eq_true, Bool.and_eq_false_imp, and_true, true_and, own_q, oq_own, oq_top, put_o, put_t, io_int, io_bool, io_str, io_own, hasT_n, hasT_c, Nat.reduceBEq, Bool.false_and, Bool.and_false, Bool.true_and, Bool.and_true, Bool.or_false, Bool.false_or, Bool.or_true, Bool.true_or, beq_self_eq_true, not_true_eq_false, not_false_eq_true, List.append_assoc, dl_e, dt_e, ta_n, ta_c, List.all_cons, List.all_nil, Nat.zero_le, call_q, cq_0, cq_1, cq_2, atD_0, atD_1, vr_pair, nmS_pair, si_list, si_tup, y_lc, reduceCtorEq, y_tcons, y_tnil, ite_sb, pk_var, pq_sh, pq_top, pq_own, pk_op, pk_call, pk_lit, pk_con, pk_lst, pk_tup, pk_lc, pk_ife, pk_or, pk_and, nmS_list, nmT_ints, nmT_snoc, vr_int, vr_bool, vr_str, vr_none, o_rev, o_slc1, t_none, t_list, t_tup, isn_none, isn_int, isn_tup, isn_list, isn_bool, io_none, o_addl, List.isEmpty_cons, List.isEmpty_nil, s_par3, s_appK, s_ret2, r2_own, s_appM, s_forT, io_lsh, io_top, bq_ft, bq_tf]
  have al2 := fun g => all_true (fun p : Mk × Mk => decide ((p.1.2 : Int) < (p.2.2 : Int))) (col.zip (col.drop 1)) (fun p hp => by
    have := pw_zip col pw p hp
    simp
    exact this) g
  have lc3 : ∀ (g : List Tag) (b0 b2 b3 b4 b7 b8 : Option R), lcRun (lcF Φ [6] (.op .idx (.cons (.var 1) (.cons (.var 6) .nil))) (.nm 6) .nil g [b0, some (encNs ls, .sh []), b2, b3, b4, none, none, b7, b8]) (col.map fun m => .int (m.2 : Int)) = some (col.map fun m => ((PyData.int (m.1 : Int), Ow.sh []) : R)) := fun g b0 b2 b3 b4 b7 b8 => by
    refine lc_map (fun m : Mk => PyData.int (m.2 : Int)) _ _ _ fun m hm' => ?_
    have at1 := at_get (fun (n : Nat) => PyData.int (n : Int)) ls m.2 m.1 (hm m hm')
    unfold encNs
    simp -implicitDefEqProofs only [List.map, param, List.length_cons, List.length_nil, s_cons, s_nil, s_iff, s_asg, s_par, s_drop, s_app, s_for, s_whl, s_kill, s_brk, s_cnt, s_pass, s_nev, s_retv, s_retN, r_lit, r_con, r_op, r_call, r_and, r_or, r_ife, r_chain, r_lst, r_tup, r_lc, rv, y_op, y_call, y_and, y_or, y_ife, y_chain, y_one, y_more, y_lst, y_tup, y_nil, y_cons, y_pnil, y_pcons, y_var, y_lit, y_con, y_ex, y_rng1, y_rng2, y_enum, y_zip, Nat.sub_self, List.replicate, List.cons_append, List.nil_append, List.append_nil, List.getElem?_cons_zero, List.getElem?_cons_succ, vr_sh, vr_own, vr_top, Option.bind_some, Option.map_some, Option.bind_none, Option.map_none, f_le, f_lt, f_gt, f_ge, boolD_some, cho_some, nmS_boolD, nmS_int, nmS_str, nmS_none, nmS_nil, Nat.reduceSub, Nat.reduceAdd, Nat.reduceLT, Nat.reduceLeDiff, ite_b, ite_true, ite_false, if_true, if_false, Bool.false_eq_true, o_neg', o_not', o_add', o_sub', o_mul', o_div', o_mod', o_abs', o_int', o_intb', o_min', o_max', o_gcd', o_lt', o_le', o_gt', o_ge', o_eq', o_ne', o_lenl, o_lent, o_idxl, o_idxt, o_isn', o_isnn', t_bool, t_int, nxt_nx, nxt_rt, nxt_bk, nxt_ct, nxt_if, rb_rt, rb_nx, rb_if, p_nm, p_tup, p_lst, p_nil, p_cons, cmO, c_nm, c_tup, c_lst, c_nil, c_cons, stO, Ow.tags, frz_n, frz_c, ff_nil, ff_cons, f1_none, f1_sh, f1_top, f1_own, w_nil, w_cons, List.set_cons_zero, List.set_cons_succ, intD, lstD, lvl, forF, whlC, lcF, and_self, Bool.not_eq_true', decide_eq_true_eq, decide_eq_false_iff_not, Bool.and_eq_true, Bool.and_eq_false_imp, and_true, true_and, own_q, oq_own, oq_top, put_o, put_t, io_int, io_bool, io_str, io_own, hasT_n, hasT_c, Nat.reduceBEq, Bool.false_and, Bool.and_false, Bool.true_and, Bool.and_true, Bool.or_false, Bool.false_or, Bool.or_true, Bool.true_or, beq_self_eq_true, not_true_eq_false, not_false_eq_true, List.append_assoc, dl_e, dt_e, ta_n, ta_c, List.all_cons, List.all_nil, Nat.zero_le, call_q, cq_0, cq_1, cq_2, atD_0, atD_1, vr_pair, nmS_pair, si_list, si_tup, y_lc, reduceCtorEq, y_tcons, y_tnil, ite_sb, pk_var, pq_sh, pq_top, pq_own, pk_op, pk_call, pk_lit, pk_con, pk_lst, pk_tup, pk_lc, pk_ife, pk_or, pk_and, nmS_list, nmT_ints, nmT_snoc, vr_int, vr_bool, vr_str, vr_none, o_rev, o_slc1, t_none, t_list, t_tup, isn_none, isn_int, isn_tup, isn_list, isn_bool, io_none, o_addl, List.isEmpty_cons, List.isEmpty_nil, s_par3, s_appK, s_ret2, r2_own, s_appM, s_forT, io_lsh, io_top, bq_ft, bq_tf, at1]
  have e3 : (col.map fun m => ((PyData.int (m.1 : Int), Ow.sh []) : R)).map (fun x => x.1) = col.map fun m => PyData.int (m.1 : Int) := by rw [List.map_map]; rfl
  have o3 : (col.map fun m => ((PyData.int (m.1 : Int), Ow.sh []) : R)).all isOwn = true := by
    rw [List.all_map]
    exact List.all_eq_true.mpr fun x _ => rfl
  have ne3 : ∀ g h : List Tag, opR .ne [(.list (col.map fun m => PyData.int (m.1 : Int)), g), (.list (col.map fun m => PyData.int (m.1 : Int)), h)] = some (.bool false, .sh []) := fun g h => o_ne_self (by unfold plainD; exact plains_map _ fun _ _ => rfl) (by
    unfold PyData.depth
    have := depth_map (enc := fun m : Mk => PyData.int (m.1 : Int)) 0 col (fun _ _ => by rw [depth_int]; exact Nat.le_refl _)
    omega) g h
  have l1 : col.length ≤ 1000000 := by omega
  have l2 : (col.zip (col.drop 1)).length ≤ 1000000 := by rw [List.length_zip]; omega
  have ct : cutD (col.map fun m => PyData.int (m.2 : Int)) (some 1) none = (col.drop 1).map fun m => PyData.int (m.2 : Int) := by
    rw [List.map_drop]
    exact cut_from _ 1
  have zm := zip_map (fun m : Mk => PyData.int (m.2 : Int)) (fun m : Mk => PyData.int (m.2 : Int)) col (col.drop 1)
  unfold b0_is_right
  unfold encNs at *
  apply Exists.intro
  apply And.intro
  · simp -implicitDefEqProofs only [List.map, param, List.length_cons, List.length_nil, s_cons, s_nil, s_iff, s_asg, s_par, s_drop, s_app, s_for, s_whl, s_kill, s_brk, s_cnt, s_pass, s_nev, s_retv, s_retN, r_lit, r_con, r_op, r_call, r_and, r_or, r_ife, r_chain, r_lst, r_tup, r_lc, rv, y_op, y_call, y_and, y_or, y_ife, y_chain, y_one, y_more, y_lst, y_tup, y_nil, y_cons, y_pnil, y_pcons, y_var, y_lit, y_con, y_ex, y_rng1, y_rng2, y_enum, y_zip, Nat.sub_self, List.replicate, List.cons_append, List.nil_append, List.append_nil, List.getElem?_cons_zero, List.getElem?_cons_succ, vr_sh, vr_own, vr_top, Option.bind_some, Option.map_some, Option.bind_none, Option.map_none, f_le, f_lt, f_gt, f_ge, boolD_some, cho_some, nmS_boolD, nmS_int, nmS_str, nmS_none, nmS_nil, Nat.reduceSub, Nat.reduceAdd, Nat.reduceLT, Nat.reduceLeDiff, ite_b, ite_true, ite_false, if_true, if_false, Bool.false_eq_true, o_neg', o_not', o_add', o_sub', o_mul', o_div', o_mod', o_abs', o_int', o_intb', o_min', o_max', o_gcd', o_lt', o_le', o_gt', o_ge', o_eq', o_ne', o_lenl, o_lent, o_idxl, o_idxt, o_isn', o_isnn', t_bool, t_int, nxt_nx, nxt_rt, nxt_bk, nxt_ct, nxt_if, rb_rt, rb_nx, rb_if, p_nm, p_tup, p_lst, p_nil, p_cons, cmO, c_nm, c_tup, c_lst, c_nil, c_cons, stO, Ow.tags, frz_n, frz_c, ff_nil, ff_cons, f1_none, f1_sh, f1_top, f1_own, w_nil, w_cons, List.set_cons_zero, List.set_cons_succ, intD, lstD, lvl, forF, whlC, lcF, and_self, Bool.not_eq_true', decide_eq_true_eq, decide_eq_false_iff_not, Bool.and_eq_true, Bool.and_eq_false_imp, and_true, true_and, own_q, oq_own, oq_top, put_o, put_t, io_int, io_bool, io_str, io_own, hasT_n, hasT_c, Nat.reduceBEq, Bool.false_and, Bool.and_false, Bool.true_and, Bool.and_true, Bool.or_false, Bool.false_or, Bool.or_true, Bool.true_or, beq_self_eq_true, not_true_eq_false, not_false_eq_true, List.append_assoc, dl_e, dt_e, ta_n, ta_c, List.all_cons, List.all_nil, Nat.zero_le, call_q, cq_0, cq_1, cq_2, atD_0, atD_1, vr_pair, nmS_pair, si_list, si_tup, y_lc, reduceCtorEq, y_tcons, y_tnil, ite_sb, pk_var, pq_sh, pq_top, pq_own, pk_op, pk_call, pk_lit, pk_con, pk_lst, pk_tup, pk_lc, pk_ife, pk_or, pk_and, nmS_list, nmT_ints, nmT_snoc, vr_int, vr_bool, vr_str, vr_none, o_rev, o_slc1, t_none, t_list, t_tup, isn_none, isn_int, isn_tup, isn_list, isn_bool, io_none, o_addl, List.isEmpty_cons, List.isEmpty_nil, s_par3, s_appK, s_ret2, r2_own, s_appM, s_forT, io_lsh, io_top, bq_ft, bq_tf, List.length_map, l1, l2, lc1, al1, ct, zm, lc2, al2, lc3, e3, o3, ne3]
    rfl
  · simp -implicitDefEqProofs only [List.map, param, List.length_cons, List.length_nil, s_cons, s_nil, s_iff, s_asg, s_par, s_drop, s_app, s_for, s_whl, s_kill, s_brk, s_cnt, s_pass, s_nev, s_retv, s_retN, r_lit, r_con, r_op, r_call, r_and, r_or, r_ife, r_chain, r_lst, r_tup, r_lc, rv, y_op, y_call, y_and, y_or, y_ife, y_chain, y_one, y_more, y_lst, y_tup, y_nil, y_cons, y_pnil, y_pcons, y_var, y_lit, y_con, y_ex, y_rng1, y_rng2, y_enum, y_zip, Nat.sub_self, List.replicate, List.cons_append, List.nil_append, List.append_nil, List.getElem?_cons_zero, List.getElem?_cons_succ, vr_sh, vr_own, vr_top, Option.bind_some, Option.map_some, Option.bind_none, Option.map_none, f_le, f_lt, f_gt, f_ge, boolD_some, cho_some, nmS_boolD, nmS_int, nmS_str, nmS_none, nmS_nil, Nat.reduceSub, Nat.reduceAdd, Nat.reduceLT, Nat.reduceLeDiff, ite_b, ite_true, ite_false, if_true, if_false, Bool.false_eq_true, o_neg', o_not', o_add', o_sub', o_mul', o_div', o_mod', o_abs', o_int', o_intb', o_min', o_max', o_gcd', o_lt', o_le', o_gt', o_ge', o_eq', o_ne', o_lenl, o_lent, o_idxl, o_idxt, o_isn', o_isnn', t_bool, t_int, nxt_nx, nxt_rt, nxt_bk, nxt_ct, nxt_if, rb_rt, rb_nx, rb_if, p_nm, p_tup, p_lst, p_nil, p_cons, cmO, c_nm, c_tup, c_lst, c_nil, c_cons, stO, Ow.tags, frz_n, frz_c, ff_nil, ff_cons, f1_none, f1_sh, f1_top, f1_own, w_nil, w_cons, List.set_cons_zero, List.set_cons_succ, intD, lstD, lvl, forF, whlC, lcF, and_self, Bool.not_eq_true', decide_eq_true_eq, decide_eq_false_iff_not, Bool.and_eq_true, Bool.and_eq_false_imp, and_true, true_and, own_q, oq_own, oq_top, put_o, put_t, io_int, io_bool, io_str, io_own, hasT_n, hasT_c, Nat.reduceBEq, Bool.false_and, Bool.and_false, Bool.true_and, Bool.and_true, Bool.or_false, Bool.false_or, Bool.or_true, Bool.true_or, beq_self_eq_true, not_true_eq_false, not_false_eq_true, List.append_assoc, dl_e, dt_e, ta_n, ta_c, List.all_cons, List.all_nil, Nat.zero_le, call_q, cq_0, cq_1, cq_2, atD_0, atD_1, vr_pair, nmS_pair, si_list, si_tup, y_lc, reduceCtorEq, y_tcons, y_tnil, ite_sb, pk_var, pq_sh, pq_top, pq_own, pk_op, pk_call, pk_lit, pk_con, pk_lst, pk_tup, pk_lc, pk_ife, pk_or, pk_and, nmS_list, nmT_ints, nmT_snoc, vr_int, vr_bool, vr_str, vr_none, o_rev, o_slc1, t_none, t_list, t_tup, isn_none, isn_int, isn_tup, isn_list, isn_bool, io_none, o_addl, List.isEmpty_cons, List.isEmpty_nil, s_par3, s_appK, s_ret2, r2_own, s_appM, s_forT, io_lsh, io_top, bq_ft, bq_tf]
theorem right_ok (w : Nat) (ds : List Deed) (hn : ds.length ≤ 900) (hw : w ≤ 900) (hm : ∀ m ∈ lays ds, 1 ≤ m ∧ m ≤ 9) : runFd Φ W fd_is_right [encSec (secV w ds), encNs (lays ds), encSec (numV w ds)] = some (.bool true, 0) := by
  have key := for_inv (k := [3, 4]) (fun (c : Col) => PyData.tuple [encNs (marks c), encNs (c.map (·.2))]) (fun i ρ => ρ = [some (encSec (secV w ds), .sh []), some (encNs (lays ds), .sh []), some (encSec (numV w ds), .sh []), none, none, none, none, none, none]) (forF Φ W (.tp (.cons (.nm 3) (.cons (.nm 4) .nil))) b0_is_right)
    (fun i ρ e => by rw [e]; rfl) (St w ds).1 0 _ rfl (fun j x ρ hx e => ?_)
  · obtain ⟨ρ', e1, e2⟩ := key
    rw [e2] at e1
    have lc : ∀ (g : List Tag) (a0 a1 a2 : Option R), lcRun (lcF Φ [5] (.chain (.lit (.int 1)) .le (.var 5) (.one .le (.con "MOST_MARK" (.int 9)))) (.nm 5) .nil g [a0, a1, a2, none, none, none, none, none, none]) ((lays ds).map fun (n : Nat) => .int (n : Int)) = some ((lays ds).map fun (n : Nat) => ((PyData.bool (decide ((1 : Int) ≤ (n : Int)) && decide ((n : Int) ≤ 9)), Ow.sh []) : R)) := fun g a0 a1 a2 => by
      refine lc_map (fun (n : Nat) => PyData.int (n : Int)) _ _ _ fun n hn => ?_
      have := hm n hn
      have q1 : (1 : Int) ≤ (n : Int) := by omega
      have q2 : (n : Int) ≤ 9 := by omega
      simp -implicitDefEqProofs only [List.map, param, List.length_cons, List.length_nil, s_cons, s_nil, s_iff, s_asg, s_par, s_drop, s_app, s_for, s_whl, s_kill, s_brk, s_cnt, s_pass, s_nev, s_retv, s_retN, r_lit, r_con, r_op, r_call, r_and, r_or, r_ife, r_chain, r_lst, r_tup, r_lc, rv, y_op, y_call, y_and, y_or, y_ife, y_chain, y_one, y_more, y_lst, y_tup, y_nil, y_cons, y_pnil, y_pcons, y_var, y_lit, y_con, y_ex, y_rng1, y_rng2, y_enum, y_zip, Nat.sub_self, List.replicate, List.cons_append, List.nil_append, List.append_nil, List.getElem?_cons_zero, List.getElem?_cons_succ, vr_sh, vr_own, vr_top, Option.bind_some, Option.map_some, Option.bind_none, Option.map_none, f_le, f_lt, f_gt, f_ge, boolD_some, cho_some, nmS_boolD, nmS_int, nmS_str, nmS_none, nmS_nil, Nat.reduceSub, Nat.reduceAdd, Nat.reduceLT, Nat.reduceLeDiff, ite_b, ite_true, ite_false, if_true, if_false, Bool.false_eq_true, o_neg', o_not', o_add', o_sub', o_mul', o_div', o_mod', o_abs', o_int', o_intb', o_min', o_max', o_gcd', o_lt', o_le', o_gt', o_ge', o_eq', o_ne', o_lenl, o_lent, o_idxl, o_idxt, o_isn', o_isnn', t_bool, t_int, nxt_nx, nxt_rt, nxt_bk, nxt_ct, nxt_if, rb_rt, rb_nx, rb_if, p_nm, p_tup, p_lst, p_nil, p_cons, cmO, c_nm, c_tup, c_lst, c_nil, c_cons, stO, Ow.tags, frz_n, frz_c, ff_nil, ff_cons, f1_none, f1_sh, f1_top, f1_own, w_nil, w_cons, List.set_cons_zero, List.set_cons_succ, intD, lstD, lvl, forF, whlC, lcF, and_self, Bool.not_eq_true', decide_eq_true_eq, decide_eq_false_iff_not, Bool.and_eq_true, Bool.and_eq_false_imp, and_true, true_and, own_q, oq_own, oq_top, put_o, put_t, io_int, io_bool, io_str, io_own, hasT_n, hasT_c, Nat.reduceBEq, Bool.false_and, Bool.and_false, Bool.true_and, Bool.and_true, Bool.or_false, Bool.false_or, Bool.or_true, Bool.true_or, beq_self_eq_true, not_true_eq_false, not_false_eq_true, List.append_assoc, dl_e, dt_e, ta_n, ta_c, List.all_cons, List.all_nil, Nat.zero_le, call_q, cq_0, cq_1, cq_2, atD_0, atD_1, vr_pair, nmS_pair, si_list, si_tup, y_lc, reduceCtorEq, y_tcons, y_tnil, ite_sb, pk_var, pq_sh, pq_top, pq_own, pk_op, pk_call, pk_lit, pk_con, pk_lst, pk_tup, pk_lc, pk_ife, pk_or, pk_and, nmS_list, nmT_ints, nmT_snoc, vr_int, vr_bool, vr_str, vr_none, o_rev, o_slc1, t_none, t_list, t_tup, isn_none, isn_int, isn_tup, isn_list, isn_bool, io_none, o_addl, List.isEmpty_cons, List.isEmpty_nil, s_par3, s_appK, s_ret2, r2_own, s_appM, s_forT, io_lsh, io_top, bq_ft, bq_tf, q1, q2, decide_true]
    have al := fun g => all_true (fun n : Nat => decide ((1 : Int) ≤ (n : Int)) && decide ((n : Int) ≤ 9)) (lays ds) (fun n hn => by
      have := hm n hn
      simp
      omega) g
    have zs : zipD ((secV w ds).map encNs) ((numV w ds).map encNs) = (St w ds).1.map fun c => PyData.tuple [encNs (marks c), encNs (c.map (·.2))] := by
      unfold secV numV
      rw [List.map_map, List.map_map]
      exact zip_same _ _ _
    have l1 : (lays ds).length ≤ 1000000 := by have := lays_len ds; omega
    have l2 : (secV w ds).length = (numV w ds).length := by unfold secV numV; rw [List.length_map, List.length_map]
    unfold encSec at *
    unfold encNs at e1 zs ⊢
    unfold fd_is_right
    refine (run_fd (by rfl)).trans ?_
    simp -implicitDefEqProofs only [List.map, param, List.length_cons, List.length_nil, s_cons, s_nil, s_iff, s_asg, s_par, s_drop, s_app, s_for, s_whl, s_kill, s_brk, s_cnt, s_pass, s_nev, s_retv, s_retN, r_lit, r_con, r_op, r_call, r_and, r_or, r_ife, r_chain, r_lst, r_tup, r_lc, rv, y_op, y_call, y_and, y_or, y_ife, y_chain, y_one, y_more, y_lst, y_tup, y_nil, y_cons, y_pnil, y_pcons, y_var, y_lit, y_con, y_ex, y_rng1, y_rng2, y_enum, y_zip, Nat.sub_self, List.replicate, List.cons_append, List.nil_append, List.append_nil, List.getElem?_cons_zero, List.getElem?_cons_succ, vr_sh, vr_own, vr_top, Option.bind_some, Option.map_some, Option.bind_none, Option.map_none, f_le, f_lt, f_gt, f_ge, boolD_some, cho_some, nmS_boolD, nmS_int, nmS_str, nmS_none, nmS_nil, Nat.reduceSub, Nat.reduceAdd, Nat.reduceLT, Nat.reduceLeDiff, ite_b, ite_true, ite_false, if_true, if_false, Bool.false_eq_true, o_neg', o_not', o_add', o_sub', o_mul', o_div', o_mod', o_abs', o_int', o_intb', o_min', o_max', o_gcd', o_lt', o_le', o_gt', o_ge', o_eq', o_ne', o_lenl, o_lent, o_idxl, o_idxt, o_isn', o_isnn', t_bool, t_int, nxt_nx, nxt_rt, nxt_bk, nxt_ct, nxt_if, rb_rt, rb_nx, rb_if, p_nm, p_tup, p_lst, p_nil, p_cons, cmO, c_nm, c_tup, c_lst, c_nil, c_cons, stO, Ow.tags, frz_n, frz_c, ff_nil, ff_cons, f1_none, f1_sh, f1_top, f1_own, w_nil, w_cons, List.set_cons_zero, List.set_cons_succ, intD, lstD, lvl, forF, whlC, lcF, and_self, Bool.not_eq_true', decide_eq_true_eq, decide_eq_false_iff_not, Bool.and_eq_true, Bool.and_eq_false_imp, and_true, true_and, own_q, oq_own, oq_top, put_o, put_t, io_int, io_bool, io_str, io_own, hasT_n, hasT_c, Nat.reduceBEq, Bool.false_and, Bool.and_false, Bool.true_and, Bool.and_true, Bool.or_false, Bool.false_or, Bool.or_true, Bool.true_or, beq_self_eq_true, not_true_eq_false, not_false_eq_true, List.append_assoc, dl_e, dt_e, ta_n, ta_c, List.all_cons, List.all_nil, Nat.zero_le, call_q, cq_0, cq_1, cq_2, atD_0, atD_1, vr_pair, nmS_pair, si_list, si_tup, y_lc, reduceCtorEq, y_tcons, y_tnil, ite_sb, pk_var, pq_sh, pq_top, pq_own, pk_op, pk_call, pk_lit, pk_con, pk_lst, pk_tup, pk_lc, pk_ife, pk_or, pk_and, nmS_list, nmT_ints, nmT_snoc, vr_int, vr_bool, vr_str, vr_none, o_rev, o_slc1, t_none, t_list, t_tup, isn_none, isn_int, isn_tup, isn_list, isn_bool, io_none, o_addl, List.isEmpty_cons, List.isEmpty_nil, s_par3, s_appK, s_ret2, r2_own, s_appM, s_forT, io_lsh, io_top, bq_ft, bq_tf, List.length_map, l2, l1, lc, al, zs, e1, decide_true]
  · subst e
    have mx := List.mem_of_getElem? hx
    obtain ⟨ρ', c1, c2⟩ := right1_ok (Φ := Φ) (W := W) (some (encSec (secV w ds), .sh [])) _ (some (encSec (numV w ds), .sh [])) (lays ds) rfl x (St_colOk w ds x mx) (by have := St_bd w ds x mx; omega)
    exact ⟨ρ', .inl c1, c2⟩
theorem isacc_ok (a b c : D) (f6 : Φ 6 [a] = some (.none, 2)) (f7 : Φ 7 [a, b, c] = some (.bool true, 0)) : runFd Φ W fd_is_account [a, b, c] = some (.bool true, 0) := by
  unfold fd_is_account
  refine (run_fd (by rfl)).trans ?_
  simp -implicitDefEqProofs only [List.map, param, List.length_cons, List.length_nil, s_cons, s_nil, s_iff, s_asg, s_par, s_drop, s_app, s_for, s_whl, s_kill, s_brk, s_cnt, s_pass, s_nev, s_retv, s_retN, r_lit, r_con, r_op, r_call, r_and, r_or, r_ife, r_chain, r_lst, r_tup, r_lc, rv, y_op, y_call, y_and, y_or, y_ife, y_chain, y_one, y_more, y_lst, y_tup, y_nil, y_cons, y_pnil, y_pcons, y_var, y_lit, y_con, y_ex, y_rng1, y_rng2, y_enum, y_zip, Nat.sub_self, List.replicate, List.cons_append, List.nil_append, List.append_nil, List.getElem?_cons_zero, List.getElem?_cons_succ, vr_sh, vr_own, vr_top, Option.bind_some, Option.map_some, Option.bind_none, Option.map_none, f_le, f_lt, f_gt, f_ge, boolD_some, cho_some, nmS_boolD, nmS_int, nmS_str, nmS_none, nmS_nil, Nat.reduceSub, Nat.reduceAdd, Nat.reduceLT, Nat.reduceLeDiff, ite_b, ite_true, ite_false, if_true, if_false, Bool.false_eq_true, o_neg', o_not', o_add', o_sub', o_mul', o_div', o_mod', o_abs', o_int', o_intb', o_min', o_max', o_gcd', o_lt', o_le', o_gt', o_ge', o_eq', o_ne', o_lenl, o_lent, o_idxl, o_idxt, o_isn', o_isnn', t_bool, t_int, nxt_nx, nxt_rt, nxt_bk, nxt_ct, nxt_if, rb_rt, rb_nx, rb_if, p_nm, p_tup, p_lst, p_nil, p_cons, cmO, c_nm, c_tup, c_lst, c_nil, c_cons, stO, Ow.tags, frz_n, frz_c, ff_nil, ff_cons, f1_none, f1_sh, f1_top, f1_own, w_nil, w_cons, List.set_cons_zero, List.set_cons_succ, intD, lstD, lvl, forF, whlC, lcF, and_self, Bool.not_eq_true', decide_eq_true_eq, decide_eq_false_iff_not, Bool.and_eq_true, Bool.and_eq_false_imp, and_true, true_and, own_q, oq_own, oq_top, put_o, put_t, io_int, io_bool, io_str, io_own, hasT_n, hasT_c, Nat.reduceBEq, Bool.false_and, Bool.and_false, Bool.true_and, Bool.and_true, Bool.or_false, Bool.false_or, Bool.or_true, Bool.true_or, beq_self_eq_true, not_true_eq_false, not_false_eq_true, List.append_assoc, dl_e, dt_e, ta_n, ta_c, List.all_cons, List.all_nil, Nat.zero_le, call_q, cq_0, cq_1, cq_2, atD_0, atD_1, vr_pair, nmS_pair, si_list, si_tup, y_lc, reduceCtorEq, y_tcons, y_tnil, ite_sb, pk_var, pq_sh, pq_top, pq_own, pk_op, pk_call, pk_lit, pk_con, pk_lst, pk_tup, pk_lc, pk_ife, pk_or, pk_and, nmS_list, nmT_ints, nmT_snoc, vr_int, vr_bool, vr_str, vr_none, o_rev, o_slc1, t_none, t_list, t_tup, isn_none, isn_int, isn_tup, isn_list, isn_bool, io_none, o_addl, List.isEmpty_cons, List.isEmpty_nil, s_par3, s_appK, s_ret2, r2_own, s_appM, s_forT, io_lsh, io_top, bq_ft, bq_tf, f6, f7]
theorem minI_le : ∀ (l : List Int) (m : Int), minI m l ≤ m ∧ (∀ x ∈ l, minI m l ≤ x) ∧ (minI m l = m ∨ minI m l ∈ l)
  | [], m => ⟨Int.le_refl _, fun x h => (by cases h), .inl rfl⟩
  | y :: l, m => by
    show minI (if y < m then y else m) l ≤ m ∧ (∀ x ∈ y :: l, minI (if y < m then y else m) l ≤ x) ∧ (minI (if y < m then y else m) l = m ∨ minI (if y < m then y else m) l ∈ y :: l)
    obtain ⟨z, hz⟩ : ∃ z, z = (if y < m then y else m) := ⟨_, rfl⟩
    have zm : z ≤ m ∧ z ≤ y ∧ (z = m ∨ z = y) := by rw [hz]; split <;> omega
    rw [← hz]
    obtain ⟨h1, h2, h3⟩ := minI_le l z
    refine ⟨by omega, fun x hx => ?_, ?_⟩
    · rcases List.mem_cons.mp hx with q | q
      · rw [q]; omega
      · exact h2 x q
    · rcases h3 with q | q
      · rcases zm.2.2 with w | w
        · exact .inl (q.trans w)
        · exact .inr (by rw [q, w]; exact List.mem_cons_self ..)
      · exact .inr (List.mem_cons_of_mem _ q)
def lensD (cs : List Col) : List D := cs.map fun c => .int (c.length : Int)
theorem min_lens (cs : List Col) (h : cs ≠ []) : ∃ L : Nat, (∀ c ∈ cs, L ≤ c.length) ∧ ∀ g, opR .min1 [(.list (lensD cs), g)] = some (.int (L : Int), .sh []) := by
  cases cs with
  | nil => exact absurd rfl h
  | cons c cs =>
    obtain ⟨h1, h2, h3⟩ := minI_le (cs.map fun c => (c.length : Int)) (c.length : Int)
    have nn : 0 ≤ minI (c.length : Int) (cs.map fun c => (c.length : Int)) := by
      rcases h3 with z | z
      · rw [z]; omega
      · obtain ⟨x, _, e⟩ := List.mem_map.mp z
        rw [← e]; omega
    obtain ⟨L, hL⟩ : ∃ L : Nat, minI (c.length : Int) (cs.map fun c => (c.length : Int)) = (L : Int) := ⟨_, (Int.toNat_of_nonneg nn).symm⟩
    refine ⟨L, fun x hx => ?_, fun g => ?_⟩
    · rcases List.mem_cons.mp hx with z | z
      · rw [z]; omega
      · have := h2 _ (List.mem_map.mpr ⟨x, z, rfl⟩)
        omega
    · have e : lensD (c :: cs) = ((c.length : Int) :: cs.map fun c => (c.length : Int)).map .int := by unfold lensD; rw [List.map_cons, List.map_cons, List.map_map]; rfl
      rw [e]
      simp only [opR, opF, List.map, oExt, to_ints]
      have e2 : toInts (PyData.int (c.length : Int) :: (cs.map fun (c : Col) => (c.length : Int)).map PyData.int) = some ((c.length : Int) :: cs.map fun (c : Col) => (c.length : Int)) := to_ints ((c.length : Int) :: cs.map fun (c : Col) => (c.length : Int))
      rw [e2]
      simp only [hL, nmS_int]
theorem nT_lens (cs : List Col) (g : List Tag) : nmT (.list (lensD cs)) g = .own := nmT_map (fun _ => rfl) cs
theorem deed1_ok (dr : D) (k w t : Nat) (hw : 1 ≤ w ∧ w ≤ 4) (ds : List Deed) (ok : okAll w ds) (hn : ds.length ≤ 900) (mix : ∀ i many : Int, 0 ≤ i → 0 < many → ∃ m : Nat, Φ 10 [dr, .int i, .int many] = some (.int (m : Int), 0) ∧ (m : Int) < many) :
    ∃ d, okD w (St w ds).1 d ∧ ∃ ρ', forF Φ W (.nm 3) b0_law_deeds (.int (t : Int)) [some (dr, .sh []), some (.int (k : Int), .sh []), some (.int (w : Int), .sh []), none, some (.list (ds.map encD), .own), some (.list (lensD (St w ds).1), .own), none, none, none, none, none, none, none] = some (.nx ρ') ∧
      wipeR [3, 6, 7, 8, 9, 10] ρ' = [some (dr, .sh []), some (.int (k : Int), .sh []), some (.int (w : Int), .sh []), none, some (.list ((ds ++ [d]).map encD), .own), some (.list (lensD (St w (ds ++ [d])).1), .own), none, none, none, none, none, none, none] := by
  have m4 : mulOk 4 (t : Int) = true := mul_ok_l (by decide)
  obtain ⟨f, e1, h1⟩ := mix ((k : Int) + 1 + 4 * (t : Int)) (w : Int) (by omega) (by omega)
  obtain ⟨x, e2, h2⟩ := mix ((k : Int) + 1 + 4 * (t : Int) + 1) ((w : Int) - (f : Int)) (by omega) (by omega)
  have sl := St_len w ds
  obtain ⟨sub, hsub⟩ : ∃ sub, sub = ((St w ds).1.drop f).take (x + 1) := ⟨_, rfl⟩
  have sne : sub ≠ [] := fun z => by
    have : sub.length = 0 := by rw [z]; rfl
    rw [hsub, List.length_take, List.length_drop] at this
    omega
  obtain ⟨L, hL, mL⟩ := min_lens sub sne
  have ct : cutD (lensD (St w ds).1) (some (f : Int)) (some ((f : Int) + (x : Int) + 1)) = lensD sub := by
    have e : (f : Int) + (x : Int) + 1 = ((f + x + 1 : Nat) : Int) := by omega
    rw [e, cut_both, hsub]
    unfold lensD
    rw [List.map_take, List.map_drop]
    congr 1
    omega
  have slc : ∀ g h k, opR (.slc true true) [(.list (lensD (St w ds).1), g), (.int (f : Int), h), (.int ((f : Int) + (x : Int) + 1), k)] = some (.list (lensD sub), .own) := fun g h k => by
    simp only [opR, opF, List.map, oSlc, ct, nT_lens]
  obtain ⟨z5, e3, h3⟩ := mix ((k : Int) + 1 + 4 * (t : Int) + 2) 5 (by omega) (by omega)
  have lt : ds.length < 1000000 := by omega
  have lc1 : (St w ds).1.length ≤ 1000000 := by omega
  have lcL : (lensD (St w ds).1).length ≤ 1000000 := by unfold lensD; rw [List.length_map]; exact lc1
  by_cases q : (L : Int) = 0 ∨ (z5 : Int) < 3
  · -- a lay
    obtain ⟨c2, e4, h4⟩ := mix 1 2 (by omega) (by omega)
    have a2 : ∃ v : Int, 1 ≤ v ∧ v ≤ 9 ∧ atD [.int 2, .int 9] (c2 : Int) = some (.int v) := by
      have : (c2 : Int) = 0 ∨ (c2 : Int) = 1 := by omega
      rcases this with z | z
      · rw [z]; exact ⟨2, by omega, by omega, rfl⟩
      · rw [z]; exact ⟨9, by omega, by omega, rfl⟩
    obtain ⟨v, v1, v2, ea⟩ := a2
    obtain ⟨m, e5, h5⟩ := mix ((k : Int) + 1 + 4 * (t : Int) + 3) v (by omega) (by omega)
    refine ⟨.lay (1 + m), ⟨by omega, by omega⟩, ?_⟩
    have em : (ds ++ [Deed.lay (1 + m)]).map encD = ds.map encD ++ [.tuple [.str "lay", .int (1 + (m : Int))]] := by
      rw [List.map_append]
      show _ ++ [PyData.tuple [.str "lay", .int ((1 + m : Nat) : Int)]] = _
      rw [Int.natCast_add]
      rfl
    have lcH : ∀ (g : List Tag) (b0 b1 b2 b3 b4 b5 b6 b7 b8 b9 b10 b12 : Option R), lcRun (lcF Φ [11] (.op .add (.cons (.var 11) (.cons (.lit (.int 1)) .nil))) (.nm 11) .nil g [b0, b1, b2, b3, b4, b5, b6, b7, b8, b9, b10, none, b12]) (lensD (St w ds).1) = some ((St w ds).1.map fun c => ((PyData.int ((c.length : Int) + 1), Ow.sh []) : R)) := fun g b0 b1 b2 b3 b4 b5 b6 b7 b8 b9 b10 b12 => by
      refine lc_map (fun c : Col => PyData.int (c.length : Int)) _ _ _ fun c hc => ?_
      simp -implicitDefEqProofs only [List.map, param, List.length_cons, List.length_nil, s_cons, s_nil, s_iff, s_asg, s_par, s_drop, s_app, s_for, s_whl, s_kill, s_brk, s_cnt, s_pass, s_nev, s_retv, s_retN, r_lit, r_con, r_op, r_call, r_and, r_or, r_ife, r_chain, r_lst, r_tup, r_lc, rv, y_op, y_call, y_and, y_or, y_ife, y_chain, y_one, y_more, y_lst, y_tup, y_nil, y_cons, y_pnil, y_pcons, y_var, y_lit, y_con, y_ex, y_rng1, y_rng2, y_enum, y_zip, Nat.sub_self, List.replicate, List.cons_append, List.nil_append, List.append_nil, List.getElem?_cons_zero, List.getElem?_cons_succ, vr_sh, vr_own, vr_top, Option.bind_some, Option.map_some, Option.bind_none, Option.map_none, f_le, f_lt, f_gt, f_ge, boolD_some, cho_some, nmS_boolD, nmS_int, nmS_str, nmS_none, nmS_nil, Nat.reduceSub, Nat.reduceAdd, Nat.reduceLT, Nat.reduceLeDiff, ite_b, ite_true, ite_false, if_true, if_false, Bool.false_eq_true, o_neg', o_not', o_add', o_sub', o_mul', o_div', o_mod', o_abs', o_int', o_intb', o_min', o_max', o_gcd', o_lt', o_le', o_gt', o_ge', o_eq', o_ne', o_lenl, o_lent, o_idxl, o_idxt, o_isn', o_isnn', t_bool, t_int, nxt_nx, nxt_rt, nxt_bk, nxt_ct, nxt_if, rb_rt, rb_nx, rb_if, p_nm, p_tup, p_lst, p_nil, p_cons, cmO, c_nm, c_tup, c_lst, c_nil, c_cons, stO, Ow.tags, frz_n, frz_c, ff_nil, ff_cons, f1_none, f1_sh, f1_top, f1_own, w_nil, w_cons, List.set_cons_zero, List.set_cons_succ, intD, lstD, lvl, forF, whlC, lcF, and_self, Bool.not_eq_true', decide_eq_true_eq, decide_eq_false_iff_not, Bool.and_eq_true, Bool.and_eq_false_imp, and_true, true_and, own_q, oq_own, oq_top, put_o, put_t, io_int, io_bool, io_str, io_own, hasT_n, hasT_c, Nat.reduceBEq, Bool.false_and, Bool.and_false, Bool.true_and, Bool.and_true, Bool.or_false, Bool.false_or, Bool.or_true, Bool.true_or, beq_self_eq_true, not_true_eq_false, not_false_eq_true, List.append_assoc, dl_e, dt_e, ta_n, ta_c, List.all_cons, List.all_nil, Nat.zero_le, call_q, cq_0, cq_1, cq_2, atD_0, atD_1, vr_pair, nmS_pair, si_list, si_tup, y_lc, reduceCtorEq, y_tcons, y_tnil, ite_sb, pk_var, pq_sh, pq_top, pq_own, pk_op, pk_call, pk_lit, pk_con, pk_lst, pk_tup, pk_lc, pk_ife, pk_or, pk_and, nmS_list, nmT_ints, nmT_snoc, vr_int, vr_bool, vr_str, vr_none, o_rev, o_slc1, t_none, t_list, t_tup, isn_none, isn_int, isn_tup, isn_list, isn_bool, io_none, o_addl, List.isEmpty_cons, List.isEmpty_nil, s_par3, s_appK, s_ret2, r2_own, s_appM, s_forT, io_lsh, io_top, bq_ft, bq_tf]
    have eH : ((St w ds).1.map fun c => ((PyData.int ((c.length : Int) + 1), Ow.sh []) : R)).map (fun x => x.1) = lensD (St w (ds ++ [Deed.lay (1 + m)])).1 := by
      rw [St_snoc]
      unfold lensD
      show _ = ((St w ds).1.map fun col => col ++ [((1 + m), (St w ds).2)]).map _
      rw [List.map_map, List.map_map]
      apply List.map_congr_left
      intro c hc
      simp
    have oH : ((St w ds).1.map fun c => ((PyData.int ((c.length : Int) + 1), Ow.sh []) : R)).all isOwn = true := by
      rw [List.all_map]
      exact List.all_eq_true.mpr fun x _ => rfl
    rw [em, ← eH]
    unfold b0_law_deeds
    by_cases q1 : (L : Int) = 0
    · apply Exists.intro
      apply And.intro
      · simp -implicitDefEqProofs only [List.map, param, List.length_cons, List.length_nil, s_cons, s_nil, s_iff, s_asg, s_par, s_drop, s_app, s_for, s_whl, s_kill, s_brk, s_cnt, s_pass, s_nev, s_retv, s_retN, r_lit, r_con, r_op, r_call, r_and, r_or, r_ife, r_chain, r_lst, r_tup, r_lc, rv, y_op, y_call, y_and, y_or, y_ife, y_chain, y_one, y_more, y_lst, y_tup, y_nil, y_cons, y_pnil, y_pcons, y_var, y_lit, y_con, y_ex, y_rng1, y_rng2, y_enum, y_zip, Nat.sub_self, List.replicate, List.cons_append, List.nil_append, List.append_nil, List.getElem?_cons_zero, List.getElem?_cons_succ, vr_sh, vr_own, vr_top, Option.bind_some, Option.map_some, Option.bind_none, Option.map_none, f_le, f_lt, f_gt, f_ge, boolD_some, cho_some, nmS_boolD, nmS_int, nmS_str, nmS_none, nmS_nil, Nat.reduceSub, Nat.reduceAdd, Nat.reduceLT, Nat.reduceLeDiff, ite_b, ite_true, ite_false, if_true, if_false, Bool.false_eq_true, o_neg', o_not', o_add', o_sub', o_mul', o_div', o_mod', o_abs', o_int', o_intb', o_min', o_max', o_gcd', o_lt', o_le', o_gt', o_ge', o_eq', o_ne', o_lenl, o_lent, o_idxl, o_idxt, o_isn', o_isnn', t_bool, t_int, nxt_nx, nxt_rt, nxt_bk, nxt_ct, nxt_if, rb_rt, rb_nx, rb_if, p_nm, p_tup, p_lst, p_nil, p_cons, cmO, c_nm, c_tup, c_lst, c_nil, c_cons, stO, Ow.tags, frz_n, frz_c, ff_nil, ff_cons, f1_none, f1_sh, f1_top, f1_own, w_nil, w_cons, List.set_cons_zero, List.set_cons_succ, intD, lstD, lvl, forF, whlC, lcF, and_self, Bool.not_eq_true', decide_eq_true_eq, decide_eq_false_iff_not, Bool.and_eq_true, Bool.and_eq_false_imp, and_true, true_and, own_q, oq_own, oq_top, put_o, put_t, io_int, io_bool, io_str, io_own, hasT_n, hasT_c, Nat.reduceBEq, Bool.false_and, Bool.and_false, Bool.true_and, Bool.and_true, Bool.or_false, Bool.false_or, Bool.or_true, Bool.true_or, beq_self_eq_true, not_true_eq_false, not_false_eq_true, List.append_assoc, dl_e, dt_e, ta_n, ta_c, List.all_cons, List.all_nil, Nat.zero_le, call_q, cq_0, cq_1, cq_2, atD_0, atD_1, vr_pair, nmS_pair, si_list, si_tup, y_lc, reduceCtorEq, y_tcons, y_tnil, ite_sb, pk_var, pq_sh, pq_top, pq_own, pk_op, pk_call, pk_lit, pk_con, pk_lst, pk_tup, pk_lc, pk_ife, pk_or, pk_and, nmS_list, nmT_ints, nmT_snoc, vr_int, vr_bool, vr_str, vr_none, o_rev, o_slc1, t_none, t_list, t_tup, isn_none, isn_int, isn_tup, isn_list, isn_bool, io_none, o_addl, List.isEmpty_cons, List.isEmpty_nil, s_par3, s_appK, s_ret2, r2_own, s_appM, s_forT, io_lsh, io_top, bq_ft, bq_tf, m4, e1, e2, slc, mL, q1, e3, e4, ea, e5, lt, List.length_map, lcL, lcH, oH]
        rfl
      · simp -implicitDefEqProofs only [List.map, param, List.length_cons, List.length_nil, s_cons, s_nil, s_iff, s_asg, s_par, s_drop, s_app, s_for, s_whl, s_kill, s_brk, s_cnt, s_pass, s_nev, s_retv, s_retN, r_lit, r_con, r_op, r_call, r_and, r_or, r_ife, r_chain, r_lst, r_tup, r_lc, rv, y_op, y_call, y_and, y_or, y_ife, y_chain, y_one, y_more, y_lst, y_tup, y_nil, y_cons, y_pnil, y_pcons, y_var, y_lit, y_con, y_ex, y_rng1, y_rng2, y_enum, y_zip, Nat.sub_self, List.replicate, List.cons_append, List.nil_append, List.append_nil, List.getElem?_cons_zero, List.getElem?_cons_succ, vr_sh, vr_own, vr_top, Option.bind_some, Option.map_some, Option.bind_none, Option.map_none, f_le, f_lt, f_gt, f_ge, boolD_some, cho_some, nmS_boolD, nmS_int, nmS_str, nmS_none, nmS_nil, Nat.reduceSub, Nat.reduceAdd, Nat.reduceLT, Nat.reduceLeDiff, ite_b, ite_true, ite_false, if_true, if_false, Bool.false_eq_true, o_neg', o_not', o_add', o_sub', o_mul', o_div', o_mod', o_abs', o_int', o_intb', o_min', o_max', o_gcd', o_lt', o_le', o_gt', o_ge', o_eq', o_ne', o_lenl, o_lent, o_idxl, o_idxt, o_isn', o_isnn', t_bool, t_int, nxt_nx, nxt_rt, nxt_bk, nxt_ct, nxt_if, rb_rt, rb_nx, rb_if, p_nm, p_tup, p_lst, p_nil, p_cons, cmO, c_nm, c_tup, c_lst, c_nil, c_cons, stO, Ow.tags, frz_n, frz_c, ff_nil, ff_cons, f1_none, f1_sh, f1_top, f1_own, w_nil, w_cons, List.set_cons_zero, List.set_cons_succ, intD, lstD, lvl, forF, whlC, lcF, and_self, Bool.not_eq_true', decide_eq_true_eq, decide_eq_false_iff_not, Bool.and_eq_true, Bool.and_eq_false_imp, and_true, true_and, own_q, oq_own, oq_top, put_o, put_t, io_int, io_bool, io_str, io_own, hasT_n, hasT_c, Nat.reduceBEq, Bool.false_and, Bool.and_false, Bool.true_and, Bool.and_true, Bool.or_false, Bool.false_or, Bool.or_true, Bool.true_or, beq_self_eq_true, not_true_eq_false, not_false_eq_true, List.append_assoc, dl_e, dt_e, ta_n, ta_c, List.all_cons, List.all_nil, Nat.zero_le, call_q, cq_0, cq_1, cq_2, atD_0, atD_1, vr_pair, nmS_pair, si_list, si_tup, y_lc, reduceCtorEq, y_tcons, y_tnil, ite_sb, pk_var, pq_sh, pq_top, pq_own, pk_op, pk_call, pk_lit, pk_con, pk_lst, pk_tup, pk_lc, pk_ife, pk_or, pk_and, nmS_list, nmT_ints, nmT_snoc, vr_int, vr_bool, vr_str, vr_none, o_rev, o_slc1, t_none, t_list, t_tup, isn_none, isn_int, isn_tup, isn_list, isn_bool, io_none, o_addl, List.isEmpty_cons, List.isEmpty_nil, s_par3, s_appK, s_ret2, r2_own, s_appM, s_forT, io_lsh, io_top, bq_ft, bq_tf]
    · have q2 : (z5 : Int) < 3 := by rcases q with z | z; exact absurd z q1; exact z
      apply Exists.intro
      apply And.intro
      · simp -implicitDefEqProofs only [List.map, param, List.length_cons, List.length_nil, s_cons, s_nil, s_iff, s_asg, s_par, s_drop, s_app, s_for, s_whl, s_kill, s_brk, s_cnt, s_pass, s_nev, s_retv, s_retN, r_lit, r_con, r_op, r_call, r_and, r_or, r_ife, r_chain, r_lst, r_tup, r_lc, rv, y_op, y_call, y_and, y_or, y_ife, y_chain, y_one, y_more, y_lst, y_tup, y_nil, y_cons, y_pnil, y_pcons, y_var, y_lit, y_con, y_ex, y_rng1, y_rng2, y_enum, y_zip, Nat.sub_self, List.replicate, List.cons_append, List.nil_append, List.append_nil, List.getElem?_cons_zero, List.getElem?_cons_succ, vr_sh, vr_own, vr_top, Option.bind_some, Option.map_some, Option.bind_none, Option.map_none, f_le, f_lt, f_gt, f_ge, boolD_some, cho_some, nmS_boolD, nmS_int, nmS_str, nmS_none, nmS_nil, Nat.reduceSub, Nat.reduceAdd, Nat.reduceLT, Nat.reduceLeDiff, ite_b, ite_true, ite_false, if_true, if_false, Bool.false_eq_true, o_neg', o_not', o_add', o_sub', o_mul', o_div', o_mod', o_abs', o_int', o_intb', o_min', o_max', o_gcd', o_lt', o_le', o_gt', o_ge', o_eq', o_ne', o_lenl, o_lent, o_idxl, o_idxt, o_isn', o_isnn', t_bool, t_int, nxt_nx, nxt_rt, nxt_bk, nxt_ct, nxt_if, rb_rt, rb_nx, rb_if, p_nm, p_tup, p_lst, p_nil, p_cons, cmO, c_nm, c_tup, c_lst, c_nil, c_cons, stO, Ow.tags, frz_n, frz_c, ff_nil, ff_cons, f1_none, f1_sh, f1_top, f1_own, w_nil, w_cons, List.set_cons_zero, List.set_cons_succ, intD, lstD, lvl, forF, whlC, lcF, and_self, Bool.not_eq_true', decide_eq_true_eq, decide_eq_false_iff_not, Bool.and_eq_true, Bool.and_eq_false_imp, and_true, true_and, own_q, oq_own, oq_top, put_o, put_t, io_int, io_bool, io_str, io_own, hasT_n, hasT_c, Nat.reduceBEq, Bool.false_and, Bool.and_false, Bool.true_and, Bool.and_true, Bool.or_false, Bool.false_or, Bool.or_true, Bool.true_or, beq_self_eq_true, not_true_eq_false, not_false_eq_true, List.append_assoc, dl_e, dt_e, ta_n, ta_c, List.all_cons, List.all_nil, Nat.zero_le, call_q, cq_0, cq_1, cq_2, atD_0, atD_1, vr_pair, nmS_pair, si_list, si_tup, y_lc, reduceCtorEq, y_tcons, y_tnil, ite_sb, pk_var, pq_sh, pq_top, pq_own, pk_op, pk_call, pk_lit, pk_con, pk_lst, pk_tup, pk_lc, pk_ife, pk_or, pk_and, nmS_list, nmT_ints, nmT_snoc, vr_int, vr_bool, vr_str, vr_none, o_rev, o_slc1, t_none, t_list, t_tup, isn_none, isn_int, isn_tup, isn_list, isn_bool, io_none, o_addl, List.isEmpty_cons, List.isEmpty_nil, s_par3, s_appK, s_ret2, r2_own, s_appM, s_forT, io_lsh, io_top, bq_ft, bq_tf, m4, e1, e2, slc, mL, q1, q2, e3, e4, ea, e5, lt, List.length_map, lcL, lcH, oH]
        rfl
      · simp -implicitDefEqProofs only [List.map, param, List.length_cons, List.length_nil, s_cons, s_nil, s_iff, s_asg, s_par, s_drop, s_app, s_for, s_whl, s_kill, s_brk, s_cnt, s_pass, s_nev, s_retv, s_retN, r_lit, r_con, r_op, r_call, r_and, r_or, r_ife, r_chain, r_lst, r_tup, r_lc, rv, y_op, y_call, y_and, y_or, y_ife, y_chain, y_one, y_more, y_lst, y_tup, y_nil, y_cons, y_pnil, y_pcons, y_var, y_lit, y_con, y_ex, y_rng1, y_rng2, y_enum, y_zip, Nat.sub_self, List.replicate, List.cons_append, List.nil_append, List.append_nil, List.getElem?_cons_zero, List.getElem?_cons_succ, vr_sh, vr_own, vr_top, Option.bind_some, Option.map_some, Option.bind_none, Option.map_none, f_le, f_lt, f_gt, f_ge, boolD_some, cho_some, nmS_boolD, nmS_int, nmS_str, nmS_none, nmS_nil, Nat.reduceSub, Nat.reduceAdd, Nat.reduceLT, Nat.reduceLeDiff, ite_b, ite_true, ite_false, if_true, if_false, Bool.false_eq_true, o_neg', o_not', o_add', o_sub', o_mul', o_div', o_mod', o_abs', o_int', o_intb', o_min', o_max', o_gcd', o_lt', o_le', o_gt', o_ge', o_eq', o_ne', o_lenl, o_lent, o_idxl, o_idxt, o_isn', o_isnn', t_bool, t_int, nxt_nx, nxt_rt, nxt_bk, nxt_ct, nxt_if, rb_rt, rb_nx, rb_if, p_nm, p_tup, p_lst, p_nil, p_cons, cmO, c_nm, c_tup, c_lst, c_nil, c_cons, stO, Ow.tags, frz_n, frz_c, ff_nil, ff_cons, f1_none, f1_sh, f1_top, f1_own, w_nil, w_cons, List.set_cons_zero, List.set_cons_succ, intD, lstD, lvl, forF, whlC, lcF, and_self, Bool.not_eq_true', decide_eq_true_eq, decide_eq_false_iff_not, Bool.and_eq_true, Bool.and_eq_false_imp, and_true, true_and, own_q, oq_own, oq_top, put_o, put_t, io_int, io_bool, io_str, io_own, hasT_n, hasT_c, Nat.reduceBEq, Bool.false_and, Bool.and_false, Bool.true_and, Bool.and_true, Bool.or_false, Bool.false_or, Bool.or_true, Bool.true_or, beq_self_eq_true, not_true_eq_false, not_false_eq_true, List.append_assoc, dl_e, dt_e, ta_n, ta_c, List.all_cons, List.all_nil, Nat.zero_le, call_q, cq_0, cq_1, cq_2, atD_0, atD_1, vr_pair, nmS_pair, si_list, si_tup, y_lc, reduceCtorEq, y_tcons, y_tnil, ite_sb, pk_var, pq_sh, pq_top, pq_own, pk_op, pk_call, pk_lit, pk_con, pk_lst, pk_tup, pk_lc, pk_ife, pk_or, pk_and, nmS_list, nmT_ints, nmT_snoc, vr_int, vr_bool, vr_str, vr_none, o_rev, o_slc1, t_none, t_list, t_tup, isn_none, isn_int, isn_tup, isn_list, isn_bool, io_none, o_addl, List.isEmpty_cons, List.isEmpty_nil, s_par3, s_appK, s_ret2, r2_own, s_appM, s_forT, io_lsh, io_top, bq_ft, bq_tf]
  · have q1 : ¬ (L : Int) = 0 := fun z => q (.inl z)
    have q2 : ¬ (z5 : Int) < 3 := fun z => q (.inr z)
    obtain ⟨m, e5, h5⟩ := mix ((k : Int) + 1 + 4 * (t : Int) + 3) (L : Int) (by omega) (by omega)
    refine ⟨.cut f (f + x) (1 + m), ⟨by omega, by omega, by omega, fun c col hc hi => ?_⟩, ?_⟩
    · unfold inC at hi
      simp at hi
      have : col ∈ sub := by
        rw [hsub]
        refine List.mem_of_getElem? (i := c - f) ?_
        rw [List.getElem?_take, if_pos (by omega), List.getElem?_drop, show f + (c - f) = c by omega]
        exact hc
      have := hL col this
      omega
    · have em : (ds ++ [Deed.cut f (f + x) (1 + m)]).map encD = ds.map encD ++ [.tuple [.str "cut", .int (f : Int), .int ((f : Int) + (x : Int)), .int (1 + (m : Int))]] := by
        rw [List.map_append]
        show _ ++ [PyData.tuple [.str "cut", .int (f : Int), .int ((f + x : Nat) : Int), .int ((1 + m : Nat) : Int)]] = _
        rw [Int.natCast_add, Int.natCast_add]
        rfl
      have mm : ∀ i : Int, 0 ≤ i → i ≤ 1 → mulOk (1 + (m : Int)) i = true := fun i h h' => mul_ok_r (small_ok (by omega) (by omega))
      have lcH : ∀ (g : List Tag) (b0 b1 b2 b3 b4 b6 b9 b11 : Option R), lcRun (lcF Φ [12] (.op .sub (.cons (.op .idx (.cons (.var 5) (.cons (.var 12) .nil))) (.cons (.op .mul (.cons (.var 10) (.cons (.op .int (.cons (.chain (.var 7) .le (.var 12) (.one .le (.var 8))) .nil)) .nil))) .nil))) (.nm 12) .nil g [b0, b1, b2, b3, b4, some (.list (lensD (St w ds).1), .own), b6, some (.int (f : Int), .sh []), some (.int ((f : Int) + (x : Int)), .sh []), b9, some (.int (1 + (m : Int)), .sh []), b11, none]) ((List.range w).map fun (c : Nat) => PyData.int (c : Int)) =
          some ((List.range w).map fun (c : Nat) => ((PyData.int ((((St w ds).1.getD c []).length : Int) - (1 + (m : Int)) * (if inC f (f + x) c = true then 1 else 0)), Ow.sh []) : R)) := fun g b0 b1 b2 b3 b4 b6 b9 b11 => by
        refine lc_map (fun (c : Nat) => PyData.int (c : Int)) _ _ _ fun c hc => ?_
        have hc' := List.mem_range.mp hc
        have gc : (St w ds).1[c]? = some ((St w ds).1.getD c []) := by
          rw [List.getD_eq_getElem?_getD, List.getElem?_eq_getElem (by omega)]
          rfl
        have at1 := at_get (fun c : Col => PyData.int (c.length : Int)) (St w ds).1 c _ gc
        have mo := mm 1 (by omega) (by omega)
        have mz := mm 0 (by omega) (by omega)
        unfold lensD
        generalize (St w ds).1.getD c [] = col at *
        by_cases k1 : (f : Int) ≤ (c : Int)
        · by_cases k2 : (c : Int) ≤ (f : Int) + (x : Int)
          · have e : inC f (f + x) c = true := by unfold inC; simp; omega
            simp -implicitDefEqProofs only [List.map, param, List.length_cons, List.length_nil, s_cons, s_nil, s_iff, s_asg, s_par, s_drop, s_app, s_for, s_whl, s_kill, s_brk, s_cnt, s_pass, s_nev, s_retv, s_retN, r_lit, r_con, r_op, r_call, r_and, r_or, r_ife, r_chain, r_lst, r_tup, r_lc, rv, y_op, y_call, y_and, y_or, y_ife, y_chain, y_one, y_more, y_lst, y_tup, y_nil, y_cons, y_pnil, y_pcons, y_var, y_lit, y_con, y_ex, y_rng1, y_rng2, y_enum, y_zip, Nat.sub_self, List.replicate, List.cons_append, List.nil_append, List.append_nil, List.getElem?_cons_zero, List.getElem?_cons_succ, vr_sh, vr_own, vr_top, Option.bind_some, Option.map_some, Option.bind_none, Option.map_none, f_le, f_lt, f_gt, f_ge, boolD_some, cho_some, nmS_boolD, nmS_int, nmS_str, nmS_none, nmS_nil, Nat.reduceSub, Nat.reduceAdd, Nat.reduceLT, Nat.reduceLeDiff, ite_b, ite_true, ite_false, if_true, if_false, Bool.false_eq_true, o_neg', o_not', o_add', o_sub', o_mul', o_div', o_mod', o_abs', o_int', o_intb', o_min', o_max', o_gcd', o_lt', o_le', o_gt', o_ge', o_eq', o_ne', o_lenl, o_lent, o_idxl, o_idxt, o_isn', o_isnn', t_bool, t_int, nxt_nx, nxt_rt, nxt_bk, nxt_ct, nxt_if, rb_rt, rb_nx, rb_if, p_nm, p_tup, p_lst, p_nil, p_cons, cmO, c_nm, c_tup, c_lst, c_nil, c_cons, stO, Ow.tags, frz_n, frz_c, ff_nil, ff_cons, f1_none, f1_sh, f1_top, f1_own, w_nil, w_cons, List.set_cons_zero, List.set_cons_succ, intD, lstD, lvl, forF, whlC, lcF, and_self, Bool.not_eq_true', decide_eq_true_eq, decide_eq_false_iff_not, Bool.and_eq_true, Bool.and_eq_false_imp, and_true, true_and, own_q, oq_own, oq_top, put_o, put_t, io_int, io_bool, io_str, io_own, hasT_n, hasT_c, Nat.reduceBEq, Bool.false_and, Bool.and_false, Bool.true_and, Bool.and_true, Bool.or_false, Bool.false_or, Bool.or_true, Bool.true_or, beq_self_eq_true, not_true_eq_false, not_false_eq_true, List.append_assoc, dl_e, dt_e, ta_n, ta_c, List.all_cons, List.all_nil, Nat.zero_le, call_q, cq_0, cq_1, cq_2, atD_0, atD_1, vr_pair, nmS_pair, si_list, si_tup, y_lc, reduceCtorEq, y_tcons, y_tnil, ite_sb, pk_var, pq_sh, pq_top, pq_own, pk_op, pk_call, pk_lit, pk_con, pk_lst, pk_tup, pk_lc, pk_ife, pk_or, pk_and, nmS_list, nmT_ints, nmT_snoc, vr_int, vr_bool, vr_str, vr_none, o_rev, o_slc1, t_none, t_list, t_tup, isn_none, isn_int, isn_tup, isn_list, isn_bool, io_none, o_addl, List.isEmpty_cons, List.isEmpty_nil, s_par3, s_appK, s_ret2, r2_own, s_appM, s_forT, io_lsh, io_top, bq_ft, bq_tf, at1, k1, k2, e, mo, decide_true]
          · have e : inC f (f + x) c = false := by unfold inC; simp; omega
            simp -implicitDefEqProofs only [List.map, param, List.length_cons, List.length_nil, s_cons, s_nil, s_iff, s_asg, s_par, s_drop, s_app, s_for, s_whl, s_kill, s_brk, s_cnt, s_pass, s_nev, s_retv, s_retN, r_lit, r_con, r_op, r_call, r_and, r_or, r_ife, r_chain, r_lst, r_tup, r_lc, rv, y_op, y_call, y_and, y_or, y_ife, y_chain, y_one, y_more, y_lst, y_tup, y_nil, y_cons, y_pnil, y_pcons, y_var, y_lit, y_con, y_ex, y_rng1, y_rng2, y_enum, y_zip, Nat.sub_self, List.replicate, List.cons_append, List.nil_append, List.append_nil, List.getElem?_cons_zero, List.getElem?_cons_succ, vr_sh, vr_own, vr_top, Option.bind_some, Option.map_some, Option.bind_none, Option.map_none, f_le, f_lt, f_gt, f_ge, boolD_some, cho_some, nmS_boolD, nmS_int, nmS_str, nmS_none, nmS_nil, Nat.reduceSub, Nat.reduceAdd, Nat.reduceLT, Nat.reduceLeDiff, ite_b, ite_true, ite_false, if_true, if_false, Bool.false_eq_true, o_neg', o_not', o_add', o_sub', o_mul', o_div', o_mod', o_abs', o_int', o_intb', o_min', o_max', o_gcd', o_lt', o_le', o_gt', o_ge', o_eq', o_ne', o_lenl, o_lent, o_idxl, o_idxt, o_isn', o_isnn', t_bool, t_int, nxt_nx, nxt_rt, nxt_bk, nxt_ct, nxt_if, rb_rt, rb_nx, rb_if, p_nm, p_tup, p_lst, p_nil, p_cons, cmO, c_nm, c_tup, c_lst, c_nil, c_cons, stO, Ow.tags, frz_n, frz_c, ff_nil, ff_cons, f1_none, f1_sh, f1_top, f1_own, w_nil, w_cons, List.set_cons_zero, List.set_cons_succ, intD, lstD, lvl, forF, whlC, lcF, and_self, Bool.not_eq_true', decide_eq_true_eq, decide_eq_false_iff_not, Bool.and_eq_true, Bool.and_eq_false_imp, and_true, true_and, own_q, oq_own, oq_top, put_o, put_t, io_int, io_bool, io_str, io_own, hasT_n, hasT_c, Nat.reduceBEq, Bool.false_and, Bool.and_false, Bool.true_and, Bool.and_true, Bool.or_false, Bool.false_or, Bool.or_true, Bool.true_or, beq_self_eq_true, not_true_eq_false, not_false_eq_true, List.append_assoc, dl_e, dt_e, ta_n, ta_c, List.all_cons, List.all_nil, Nat.zero_le, call_q, cq_0, cq_1, cq_2, atD_0, atD_1, vr_pair, nmS_pair, si_list, si_tup, y_lc, reduceCtorEq, y_tcons, y_tnil, ite_sb, pk_var, pq_sh, pq_top, pq_own, pk_op, pk_call, pk_lit, pk_con, pk_lst, pk_tup, pk_lc, pk_ife, pk_or, pk_and, nmS_list, nmT_ints, nmT_snoc, vr_int, vr_bool, vr_str, vr_none, o_rev, o_slc1, t_none, t_list, t_tup, isn_none, isn_int, isn_tup, isn_list, isn_bool, io_none, o_addl, List.isEmpty_cons, List.isEmpty_nil, s_par3, s_appK, s_ret2, r2_own, s_appM, s_forT, io_lsh, io_top, bq_ft, bq_tf, at1, k1, k2, e, mz, decide_false]
        · have e : inC f (f + x) c = false := by unfold inC; simp; omega
          simp -implicitDefEqProofs only [List.map, param, List.length_cons, List.length_nil, s_cons, s_nil, s_iff, s_asg, s_par, s_drop, s_app, s_for, s_whl, s_kill, s_brk, s_cnt, s_pass, s_nev, s_retv, s_retN, r_lit, r_con, r_op, r_call, r_and, r_or, r_ife, r_chain, r_lst, r_tup, r_lc, rv, y_op, y_call, y_and, y_or, y_ife, y_chain, y_one, y_more, y_lst, y_tup, y_nil, y_cons, y_pnil, y_pcons, y_var, y_lit, y_con, y_ex, y_rng1, y_rng2, y_enum, y_zip, Nat.sub_self, List.replicate, List.cons_append, List.nil_append, List.append_nil, List.getElem?_cons_zero, List.getElem?_cons_succ, vr_sh, vr_own, vr_top, Option.bind_some, Option.map_some, Option.bind_none, Option.map_none, f_le, f_lt, f_gt, f_ge, boolD_some, cho_some, nmS_boolD, nmS_int, nmS_str, nmS_none, nmS_nil, Nat.reduceSub, Nat.reduceAdd, Nat.reduceLT, Nat.reduceLeDiff, ite_b, ite_true, ite_false, if_true, if_false, Bool.false_eq_true, o_neg', o_not', o_add', o_sub', o_mul', o_div', o_mod', o_abs', o_int', o_intb', o_min', o_max', o_gcd', o_lt', o_le', o_gt', o_ge', o_eq', o_ne', o_lenl, o_lent, o_idxl, o_idxt, o_isn', o_isnn', t_bool, t_int, nxt_nx, nxt_rt, nxt_bk, nxt_ct, nxt_if, rb_rt, rb_nx, rb_if, p_nm, p_tup, p_lst, p_nil, p_cons, cmO, c_nm, c_tup, c_lst, c_nil, c_cons, stO, Ow.tags, frz_n, frz_c, ff_nil, ff_cons, f1_none, f1_sh, f1_top, f1_own, w_nil, w_cons, List.set_cons_zero, List.set_cons_succ, intD, lstD, lvl, forF, whlC, lcF, and_self, Bool.not_eq_true', decide_eq_true_eq, decide_eq_false_iff_not, Bool.and_eq_true, Bool.and_eq_false_imp, and_true, true_and, own_q, oq_own, oq_top, put_o, put_t, io_int, io_bool, io_str, io_own, hasT_n, hasT_c, Nat.reduceBEq, Bool.false_and, Bool.and_false, Bool.true_and, Bool.and_true, Bool.or_false, Bool.false_or, Bool.or_true, Bool.true_or, beq_self_eq_true, not_true_eq_false, not_false_eq_true, List.append_assoc, dl_e, dt_e, ta_n, ta_c, List.all_cons, List.all_nil, Nat.zero_le, call_q, cq_0, cq_1, cq_2, atD_0, atD_1, vr_pair, nmS_pair, si_list, si_tup, y_lc, reduceCtorEq, y_tcons, y_tnil, ite_sb, pk_var, pq_sh, pq_top, pq_own, pk_op, pk_call, pk_lit, pk_con, pk_lst, pk_tup, pk_lc, pk_ife, pk_or, pk_and, nmS_list, nmT_ints, nmT_snoc, vr_int, vr_bool, vr_str, vr_none, o_rev, o_slc1, t_none, t_list, t_tup, isn_none, isn_int, isn_tup, isn_list, isn_bool, io_none, o_addl, List.isEmpty_cons, List.isEmpty_nil, s_par3, s_appK, s_ret2, r2_own, s_appM, s_forT, io_lsh, io_top, bq_ft, bq_tf, at1, k1, e, mz]
      have eH : ((List.range w).map fun (c : Nat) => ((PyData.int ((((St w ds).1.getD c []).length : Int) - (1 + (m : Int)) * (if inC f (f + x) c = true then 1 else 0)), Ow.sh []) : R)).map (fun x => x.1) = lensD (St w (ds ++ [Deed.cut f (f + x) (1 + m)])).1 := by
        rw [St_snoc]
        unfold lensD
        show _ = ((St w ds).1.mapIdx (cutC f (f + x) (1 + m))).map _
        rw [List.map_map]
        apply List.ext_getElem
        · simp [sl]
        · intro c h1' h2'
          rw [List.length_map, List.length_range] at h1'
          have gd : (St w ds).1.getD c [] = (St w ds).1[c] := by rw [List.getD_eq_getElem?_getD, List.getElem?_eq_getElem (by omega)]; rfl
          rw [List.getElem_map, List.getElem_map, List.getElem_range, List.getElem_mapIdx]
          show PyData.int _ = PyData.int _
          congr 1
          rw [gd]
          unfold cutC
          by_cases e : inC f (f + x) c = true
          · rw [if_pos e, if_pos e, List.length_take]
            have : (St w ds).1[c] ∈ sub := by
              unfold inC at e
              simp at e
              rw [hsub]
              refine List.mem_of_getElem? (i := c - f) ?_
              rw [List.getElem?_take, if_pos (by omega), List.getElem?_drop, show f + (c - f) = c by omega]
              exact List.getElem?_eq_getElem (by omega)
            have := hL _ this
            omega
          · rw [if_neg e, if_neg e]
            omega
      have oH : ((List.range w).map fun (c : Nat) => ((PyData.int ((((St w ds).1.getD c []).length : Int) - (1 + (m : Int)) * (if inC f (f + x) c = true then 1 else 0)), Ow.sh []) : R)).all isOwn = true := by
        rw [List.all_map]
        exact List.all_eq_true.mpr fun x _ => rfl
      have r1 : rngOk (w : Int) = true := rng_ok (by omega) (by omega)
      have en : (w : Int).toNat = w := Int.toNat_natCast w
      have lw : w ≤ 1000000 := by omega
      rw [em, ← eH]
      unfold b0_law_deeds
      apply Exists.intro
      apply And.intro
      · simp -implicitDefEqProofs only [List.map, param, List.length_cons, List.length_nil, s_cons, s_nil, s_iff, s_asg, s_par, s_drop, s_app, s_for, s_whl, s_kill, s_brk, s_cnt, s_pass, s_nev, s_retv, s_retN, r_lit, r_con, r_op, r_call, r_and, r_or, r_ife, r_chain, r_lst, r_tup, r_lc, rv, y_op, y_call, y_and, y_or, y_ife, y_chain, y_one, y_more, y_lst, y_tup, y_nil, y_cons, y_pnil, y_pcons, y_var, y_lit, y_con, y_ex, y_rng1, y_rng2, y_enum, y_zip, Nat.sub_self, List.replicate, List.cons_append, List.nil_append, List.append_nil, List.getElem?_cons_zero, List.getElem?_cons_succ, vr_sh, vr_own, vr_top, Option.bind_some, Option.map_some, Option.bind_none, Option.map_none, f_le, f_lt, f_gt, f_ge, boolD_some, cho_some, nmS_boolD, nmS_int, nmS_str, nmS_none, nmS_nil, Nat.reduceSub, Nat.reduceAdd, Nat.reduceLT, Nat.reduceLeDiff, ite_b, ite_true, ite_false, if_true, if_false, Bool.false_eq_true, o_neg', o_not', o_add', o_sub', o_mul', o_div', o_mod', o_abs', o_int', o_intb', o_min', o_max', o_gcd', o_lt', o_le', o_gt', o_ge', o_eq', o_ne', o_lenl, o_lent, o_idxl, o_idxt, o_isn', o_isnn', t_bool, t_int, nxt_nx, nxt_rt, nxt_bk, nxt_ct, nxt_if, rb_rt, rb_nx, rb_if, p_nm, p_tup, p_lst, p_nil, p_cons, cmO, c_nm, c_tup, c_lst, c_nil, c_cons, stO, Ow.tags, frz_n, frz_c, ff_nil, ff_cons, f1_none, f1_sh, f1_top, f1_own, w_nil, w_cons, List.set_cons_zero, List.set_cons_succ, intD, lstD, lvl, forF, whlC, lcF, and_self, Bool.not_eq_true', decide_eq_true_eq, decide_eq_false_iff_not, Bool.and_eq_true, Bool.and_eq_false_imp, and_true, true_and, own_q, oq_own, oq_top, put_o, put_t, io_int, io_bool, io_str, io_own, hasT_n, hasT_c, Nat.reduceBEq, Bool.false_and, Bool.and_false, Bool.true_and, Bool.and_true, Bool.or_false, Bool.false_or, Bool.or_true, Bool.true_or, beq_self_eq_true, not_true_eq_false, not_false_eq_true, List.append_assoc, dl_e, dt_e, ta_n, ta_c, List.all_cons, List.all_nil, Nat.zero_le, call_q, cq_0, cq_1, cq_2, atD_0, atD_1, vr_pair, nmS_pair, si_list, si_tup, y_lc, reduceCtorEq, y_tcons, y_tnil, ite_sb, pk_var, pq_sh, pq_top, pq_own, pk_op, pk_call, pk_lit, pk_con, pk_lst, pk_tup, pk_lc, pk_ife, pk_or, pk_and, nmS_list, nmT_ints, nmT_snoc, vr_int, vr_bool, vr_str, vr_none, o_rev, o_slc1, t_none, t_list, t_tup, isn_none, isn_int, isn_tup, isn_list, isn_bool, io_none, o_addl, List.isEmpty_cons, List.isEmpty_nil, s_par3, s_appK, s_ret2, r2_own, s_appM, s_forT, io_lsh, io_top, bq_ft, bq_tf, m4, e1, e2, slc, mL, q1, q2, e3, e5, lt, List.length_map, List.length_range, r1, en, range_items, lw, lcH, oH]
        rfl
      · simp -implicitDefEqProofs only [List.map, param, List.length_cons, List.length_nil, s_cons, s_nil, s_iff, s_asg, s_par, s_drop, s_app, s_for, s_whl, s_kill, s_brk, s_cnt, s_pass, s_nev, s_retv, s_retN, r_lit, r_con, r_op, r_call, r_and, r_or, r_ife, r_chain, r_lst, r_tup, r_lc, rv, y_op, y_call, y_and, y_or, y_ife, y_chain, y_one, y_more, y_lst, y_tup, y_nil, y_cons, y_pnil, y_pcons, y_var, y_lit, y_con, y_ex, y_rng1, y_rng2, y_enum, y_zip, Nat.sub_self, List.replicate, List.cons_append, List.nil_append, List.append_nil, List.getElem?_cons_zero, List.getElem?_cons_succ, vr_sh, vr_own, vr_top, Option.bind_some, Option.map_some, Option.bind_none, Option.map_none, f_le, f_lt, f_gt, f_ge, boolD_some, cho_some, nmS_boolD, nmS_int, nmS_str, nmS_none, nmS_nil, Nat.reduceSub, Nat.reduceAdd, Nat.reduceLT, Nat.reduceLeDiff, ite_b, ite_true, ite_false, if_true, if_false, Bool.false_eq_true, o_neg', o_not', o_add', o_sub', o_mul', o_div', o_mod', o_abs', o_int', o_intb', o_min', o_max', o_gcd', o_lt', o_le', o_gt', o_ge', o_eq', o_ne', o_lenl, o_lent, o_idxl, o_idxt, o_isn', o_isnn', t_bool, t_int, nxt_nx, nxt_rt, nxt_bk, nxt_ct, nxt_if, rb_rt, rb_nx, rb_if, p_nm, p_tup, p_lst, p_nil, p_cons, cmO, c_nm, c_tup, c_lst, c_nil, c_cons, stO, Ow.tags, frz_n, frz_c, ff_nil, ff_cons, f1_none, f1_sh, f1_top, f1_own, w_nil, w_cons, List.set_cons_zero, List.set_cons_succ, intD, lstD, lvl, forF, whlC, lcF, and_self, Bool.not_eq_true', decide_eq_true_eq, decide_eq_false_iff_not, Bool.and_eq_true, Bool.and_eq_false_imp, and_true, true_and, own_q, oq_own, oq_top, put_o, put_t, io_int, io_bool, io_str, io_own, hasT_n, hasT_c, Nat.reduceBEq, Bool.false_and, Bool.and_false, Bool.true_and, Bool.and_true, Bool.or_false, Bool.false_or, Bool.or_true, Bool.true_or, beq_self_eq_true, not_true_eq_false, not_false_eq_true, List.append_assoc, dl_e, dt_e, ta_n, ta_c, List.all_cons, List.all_nil, Nat.zero_le, call_q, cq_0, cq_1, cq_2, atD_0, atD_1, vr_pair, nmS_pair, si_list, si_tup, y_lc, reduceCtorEq, y_tcons, y_tnil, ite_sb, pk_var, pq_sh, pq_top, pq_own, pk_op, pk_call, pk_lit, pk_con, pk_lst, pk_tup, pk_lc, pk_ife, pk_or, pk_and, nmS_list, nmT_ints, nmT_snoc, vr_int, vr_bool, vr_str, vr_none, o_rev, o_slc1, t_none, t_list, t_tup, isn_none, isn_int, isn_tup, isn_list, isn_bool, io_none, o_addl, List.isEmpty_cons, List.isEmpty_nil, s_par3, s_appK, s_ret2, r2_own, s_appM, s_forT, io_lsh, io_top, bq_ft, bq_tf]
theorem mul_rep (w : Nat) (hw : w ≤ 100) (g h : List Tag) : opR .mul [(.list [.int 0], g), (.int (w : Int), h)] = some (.list (lensD (List.replicate w ([] : Col))), .own) := by
  have e : (List.replicate w [PyData.int 0]).flatten = lensD (List.replicate w ([] : Col)) := by
    unfold lensD
    rw [List.map_replicate]
    show (List.replicate w [PyData.int 0]).flatten = List.replicate w (PyData.int 0)
    simp
  have c : (w : Int) ≤ 1000000 ∧ -1000000 ≤ (w : Int) ∧ [PyData.int 0].length * w ≤ 1000000 := by
    refine ⟨by omega, by omega, ?_⟩
    show 1 * w ≤ 1000000
    omega
  simp only [opR, opF, List.map, oMul, Int.toNat_natCast]
  rw [if_pos c]
  simp only [e, nT_lens]
theorem deeds_ok (dr : D) (k w : Nat) (hw : 1 ≤ w ∧ w ≤ 4) (mix : ∀ i many : Int, 0 ≤ i → 0 < many → ∃ m : Nat, Φ 10 [dr, .int i, .int many] = some (.int (m : Int), 0) ∧ (m : Int) < many) :
    ∃ ds, okAll w ds ∧ ds.length ≤ 40 ∧ runFd Φ W fd_law_deeds [dr, .int (k : Int), .int (w : Int)] = some (encDs ds, 2) := by
  obtain ⟨n, e1, h1⟩ := mix (k : Int) 41 (by omega) (by omega)
  have key := for_inv (k := [3, 6, 7, 8, 9, 10]) (fun (t : Nat) => PyData.int (t : Int)) (fun i ρ => ∃ ds, okAll w ds ∧ ds.length = i ∧ ρ = [some (dr, .sh []), some (.int (k : Int), .sh []), some (.int (w : Int), .sh []), none, some (.list (ds.map encD), .own), some (.list (lensD (St w ds).1), .own), none, none, none, none, none, none, none])
    (forF Φ W (.nm 3) b0_law_deeds) (fun i ρ ⟨ds, a, b, e⟩ => ⟨ds, a, b, by rw [e]; simp -implicitDefEqProofs only [List.map, param, List.length_cons, List.length_nil, s_cons, s_nil, s_iff, s_asg, s_par, s_drop, s_app, s_for, s_whl, s_kill, s_brk, s_cnt, s_pass, s_nev, s_retv, s_retN, r_lit, r_con, r_op, r_call, r_and, r_or, r_ife, r_chain, r_lst, r_tup, r_lc, rv, y_op, y_call, y_and, y_or, y_ife, y_chain, y_one, y_more, y_lst, y_tup, y_nil, y_cons, y_pnil, y_pcons, y_var, y_lit, y_con, y_ex, y_rng1, y_rng2, y_enum, y_zip, Nat.sub_self, List.replicate, List.cons_append, List.nil_append, List.append_nil, List.getElem?_cons_zero, List.getElem?_cons_succ, vr_sh, vr_own, vr_top, Option.bind_some, Option.map_some, Option.bind_none, Option.map_none, f_le, f_lt, f_gt, f_ge, boolD_some, cho_some, nmS_boolD, nmS_int, nmS_str, nmS_none, nmS_nil, Nat.reduceSub, Nat.reduceAdd, Nat.reduceLT, Nat.reduceLeDiff, ite_b, ite_true, ite_false, if_true, if_false, Bool.false_eq_true, o_neg', o_not', o_add', o_sub', o_mul', o_div', o_mod', o_abs', o_int', o_intb', o_min', o_max', o_gcd', o_lt', o_le', o_gt', o_ge', o_eq', o_ne', o_lenl, o_lent, o_idxl, o_idxt, o_isn', o_isnn', t_bool, t_int, nxt_nx, nxt_rt, nxt_bk, nxt_ct, nxt_if, rb_rt, rb_nx, rb_if, p_nm, p_tup, p_lst, p_nil, p_cons, cmO, c_nm, c_tup, c_lst, c_nil, c_cons, stO, Ow.tags, frz_n, frz_c, ff_nil, ff_cons, f1_none, f1_sh, f1_top, f1_own, w_nil, w_cons, List.set_cons_zero, List.set_cons_succ, intD, lstD, lvl, forF, whlC, lcF, and_self, Bool.not_eq_true', decide_eq_true_eq, decide_eq_false_iff_not, Bool.and_eq_true, Bool.and_eq_false_imp, and_true, true_and, own_q, oq_own, oq_top, put_o, put_t, io_int, io_bool, io_str, io_own, hasT_n, hasT_c, Nat.reduceBEq, Bool.false_and, Bool.and_false, Bool.true_and, Bool.and_true, Bool.or_false, Bool.false_or, Bool.or_true, Bool.true_or, beq_self_eq_true, not_true_eq_false, not_false_eq_true, List.append_assoc, dl_e, dt_e, ta_n, ta_c, List.all_cons, List.all_nil, Nat.zero_le, call_q, cq_0, cq_1, cq_2, atD_0, atD_1, vr_pair, nmS_pair, si_list, si_tup, y_lc, reduceCtorEq, y_tcons, y_tnil, ite_sb, pk_var, pq_sh, pq_top, pq_own, pk_op, pk_call, pk_lit, pk_con, pk_lst, pk_tup, pk_lc, pk_ife, pk_or, pk_and, nmS_list, nmT_ints, nmT_snoc, vr_int, vr_bool, vr_str, vr_none, o_rev, o_slc1, t_none, t_list, t_tup, isn_none, isn_int, isn_tup, isn_list, isn_bool, io_none, o_addl, List.isEmpty_cons, List.isEmpty_nil, s_par3, s_appK, s_ret2, r2_own, s_appM, s_forT, io_lsh, io_top, bq_ft, bq_tf]⟩) (List.range n) 0 [some (dr, .sh []), some (.int (k : Int), .sh []), some (.int (w : Int), .sh []), none, some (.list [], .own), some (.list (lensD (List.replicate w ([] : Col))), .own), none, none, none, none, none, none, none] ⟨[], fun i d h => (by cases h), rfl, rfl⟩ (fun j t ρ ht hI => ?_)
  · obtain ⟨ρ', e, ds, h2, h3, e3⟩ := key
    rw [List.length_range, Nat.zero_add] at h3
    refine ⟨ds, h2, by omega, ?_⟩
    rw [e3] at e
    have r1 : rngOk (n : Int) = true := rng_ok (by omega) (by omega)
    have en : (n : Int).toNat = n := Int.toNat_natCast n
    have mr := mul_rep w (by omega)
    unfold encDs
    unfold fd_law_deeds
    refine (run_fd (by rfl)).trans ?_
    simp -implicitDefEqProofs only [List.map, param, List.length_cons, List.length_nil, s_cons, s_nil, s_iff, s_asg, s_par, s_drop, s_app, s_for, s_whl, s_kill, s_brk, s_cnt, s_pass, s_nev, s_retv, s_retN, r_lit, r_con, r_op, r_call, r_and, r_or, r_ife, r_chain, r_lst, r_tup, r_lc, rv, y_op, y_call, y_and, y_or, y_ife, y_chain, y_one, y_more, y_lst, y_tup, y_nil, y_cons, y_pnil, y_pcons, y_var, y_lit, y_con, y_ex, y_rng1, y_rng2, y_enum, y_zip, Nat.sub_self, List.replicate, List.cons_append, List.nil_append, List.append_nil, List.getElem?_cons_zero, List.getElem?_cons_succ, vr_sh, vr_own, vr_top, Option.bind_some, Option.map_some, Option.bind_none, Option.map_none, f_le, f_lt, f_gt, f_ge, boolD_some, cho_some, nmS_boolD, nmS_int, nmS_str, nmS_none, nmS_nil, Nat.reduceSub, Nat.reduceAdd, Nat.reduceLT, Nat.reduceLeDiff, ite_b, ite_true, ite_false, if_true, if_false, Bool.false_eq_true, o_neg', o_not', o_add', o_sub', o_mul', o_div', o_mod', o_abs', o_int', o_intb', o_min', o_max', o_gcd', o_lt', o_le', o_gt', o_ge', o_eq', o_ne', o_lenl, o_lent, o_idxl, o_idxt, o_isn', o_isnn', t_bool, t_int, nxt_nx, nxt_rt, nxt_bk, nxt_ct, nxt_if, rb_rt, rb_nx, rb_if, p_nm, p_tup, p_lst, p_nil, p_cons, cmO, c_nm, c_tup, c_lst, c_nil, c_cons, stO, Ow.tags, frz_n, frz_c, ff_nil, ff_cons, f1_none, f1_sh, f1_top, f1_own, w_nil, w_cons, List.set_cons_zero, List.set_cons_succ, intD, lstD, lvl, forF, whlC, lcF, and_self, Bool.not_eq_true', decide_eq_true_eq, decide_eq_false_iff_not, Bool.and_eq_true, Bool.and_eq_false_imp, and_true, true_and, own_q, oq_own, oq_top, put_o, put_t, io_int, io_bool, io_str, io_own, hasT_n, hasT_c, Nat.reduceBEq, Bool.false_and, Bool.and_false, Bool.true_and, Bool.and_true, Bool.or_false, Bool.false_or, Bool.or_true, Bool.true_or, beq_self_eq_true, not_true_eq_false, not_false_eq_true, List.append_assoc, dl_e, dt_e, ta_n, ta_c, List.all_cons, List.all_nil, Nat.zero_le, call_q, cq_0, cq_1, cq_2, atD_0, atD_1, vr_pair, nmS_pair, si_list, si_tup, y_lc, reduceCtorEq, y_tcons, y_tnil, ite_sb, pk_var, pq_sh, pq_top, pq_own, pk_op, pk_call, pk_lit, pk_con, pk_lst, pk_tup, pk_lc, pk_ife, pk_or, pk_and, nmS_list, nmT_ints, nmT_snoc, vr_int, vr_bool, vr_str, vr_none, o_rev, o_slc1, t_none, t_list, t_tup, isn_none, isn_int, isn_tup, isn_list, isn_bool, io_none, o_addl, List.isEmpty_cons, List.isEmpty_nil, s_par3, s_appK, s_ret2, r2_own, s_appM, s_forT, io_lsh, io_top, bq_ft, bq_tf, mr, e1, r1, en, range_items, e]
  · obtain ⟨ds, a, b, rfl⟩ := hI
    obtain ⟨rfl, ht'⟩ := range_at ht
    obtain ⟨d, c1, ρ', c2, c3⟩ := deed1_ok (Φ := Φ) (W := W) dr k w t hw ds a (by omega) mix
    exact ⟨ρ', .inl c2, ds ++ [d], okAll_snoc a c1, by rw [List.length_append, b]; rfl, c3⟩
end
end Cl
namespace Cl
open PySem L2 Z
/-! ### k10: the law -/
section
variable {Φ : Fn} {W : Nat} {ρ : Rho} {k : List Nat}
/-- the columns behind j of a cut's columns -/
def cutP (f l d n : Nat) (cs : List Col) : List Col := cs.mapIdx fun i col => if i < f + n then cutC f l d i col else col
theorem cutP_0 (f l d : Nat) (cs : List Col) : cutP f l d 0 cs = cs := by
  unfold cutP
  apply List.ext_getElem
  · simp
  · intro i h1 h2
    rw [List.getElem_mapIdx]
    split
    · unfold cutC
      rw [if_neg (by unfold inC; simp; omega)]
    · rfl
theorem cutP_all (f l d : Nat) (cs : List Col) (h : f ≤ l) : cutP f l d (l + 1 - f) cs = cs.mapIdx (cutC f l d) := by
  unfold cutP
  apply List.ext_getElem
  · simp
  · intro i h1 h2
    rw [List.getElem_mapIdx, List.getElem_mapIdx]
    split
    · rfl
    · unfold cutC
      rw [if_neg (by unfold inC; simp; omega)]
theorem cutP_len (f l d n : Nat) (cs : List Col) : (cutP f l d n cs).length = cs.length := List.length_mapIdx
theorem cutP_at (f l d n : Nat) (cs : List Col) (h : f + n < cs.length) : (cutP f l d n cs)[f + n]? = some (cs.getD (f + n) []) := by
  unfold cutP
  rw [List.getElem?_mapIdx, List.getD_eq_getElem?_getD, List.getElem?_eq_getElem h]
  show some (if f + n < f + n then _ else _) = _
  rw [if_neg (by omega)]
  rfl
theorem cutP_succ (f l d n : Nat) (cs : List Col) (h : f + n < cs.length) (hl : f + n ≤ l) : (cutP f l d n cs).set (f + n) ((cs.getD (f + n) []).take ((cs.getD (f + n) []).length - d)) = cutP f l d (n + 1) cs := by
  unfold cutP
  apply List.ext_getElem
  · simp
  · intro i h1 h2
    rw [List.getElem_set, List.getElem_mapIdx, List.getElem_mapIdx]
    by_cases q : f + n = i
    · subst q
      have gd : cs.getD (f + n) [] = cs[f + n] := by rw [List.getD_eq_getElem?_getD, List.getElem?_eq_getElem h]; rfl
      rw [if_pos rfl, if_pos (by omega), gd]
      unfold cutC
      rw [if_pos (by unfold inC; simp; omega)]
    · rw [if_neg q]
      by_cases r : i < f + n
      · rw [if_pos r, if_pos (by omega)]
      · rw [if_neg r, if_neg (by omega)]
theorem part_take (cs : List Col) (f l d n : Nat) (h : n < l + 1 - f) : (partOf cs f l d).take (n + 1) = (partOf cs f l d).take n ++ [(f + n, marks ((cs.getD (f + n) []).drop ((cs.getD (f + n) []).length - d)))] := by
  have g : (partOf cs f l d)[n]? = some (f + n, marks ((cs.getD (f + n) []).drop ((cs.getD (f + n) []).length - d))) := by
    unfold partOf
    rw [List.getElem?_map, List.getElem?_range h]
    rfl
  rw [List.take_add_one, g]
  rfl
theorem lcM (ks : List Nat) (p0 p1 : Nat) (a : E) (ρ : Rho) (g : List Tag) (col : Col) (h : ∀ m : Mk, (lcF Φ ks a (.tp (.cons (.nm p0) (.cons (.nm p1) .nil))) .nil g ρ (encM m)) = some (some (.int (m.1 : Int), .sh []))) : lcRun (lcF Φ ks a (.tp (.cons (.nm p0) (.cons (.nm p1) .nil))) .nil g ρ) (col.map encM) = some (col.map fun m => ((PyData.int (m.1 : Int), Ow.sh []) : R)) := lc_map encM _ _ col fun m _ => h m
theorem eiM (col : Col) : (col.map fun m => ((PyData.int (m.1 : Int), Ow.sh []) : R)).map (fun x => x.1) = (marks col).map fun (n : Nat) => PyData.int (n : Int) := by unfold marks; rw [List.map_map, List.map_map]; rfl
theorem oiM {α : Type} (f : α → Int) (col : List α) : (col.map fun m => ((PyData.int (f m), Ow.sh []) : R)).all isOwn = true := by
  rw [List.all_map]
  exact List.all_eq_true.mpr fun x _ => rfl
theorem cut1_ok (w : Nat) (a0 : Option R) (dr kp : List D) (ks : Str) (dl : List D) (cs : List Col) (hcs : cs.length = w) (hw : w ≤ 900) (hb : ∀ c ∈ cs, c.length ≤ 900) (f l d : Nat) (ok : okD w cs (.cut f l d)) (ls : List Nat) (rw' : List D) (j : Nat) (hj : j < l + 1 - f) :
    ∃ ρ', forF Φ W (.nm 7) b3_law (.int ((f : Int) + (j : Int))) [a0, some (.list dr, .own), some (.int (w : Int), .sh []), some (.list dl, .sh []), some (.str ks, .sh []), some (encD (.cut f l d), .sh []), none, none, some (encCols (cutP f l d j cs), .own), some (encNs ls, .own), some (.list rw', .own), none, none, none, none, some (.list (((partOf cs f l d).take j).map encQ), .own), none, none, none, none, none] = some (.nx ρ') ∧
      wipeR [7] ρ' = [a0, some (.list dr, .own), some (.int (w : Int), .sh []), some (.list dl, .sh []), some (.str ks, .sh []), some (encD (.cut f l d), .sh []), none, none, some (encCols (cutP f l d (j + 1) cs), .own), some (encNs ls, .own), some (.list rw', .own), none, none, none, none, some (.list (((partOf cs f l d).take (j + 1)).map encQ), .own), none, none, none, none, none] := by
  obtain ⟨o1, o2, o3, o4⟩ := ok
  have gl : f + j < cs.length := by omega
  have gc : cs[f + j]? = some (cs.getD (f + j) []) := by
    rw [List.getD_eq_getElem?_getD, List.getElem?_eq_getElem gl]
    rfl
  have hd := o4 (f + j) _ gc (by unfold inC; simp; omega)
  have hbl := hb _ (List.mem_of_getElem? gc)
  have at1 := at_get encCol (cutP f l d j cs) (f + j) _ (cutP_at f l d j cs gl)
  have ej : ((f + j : Nat) : Int) = (f : Int) + (j : Int) := by omega
  rw [ej] at at1
  have i3 : ∀ g h, opR .idx [(encD (.cut f l d), g), (.int 3, h)] = some (.int (d : Int), .sh []) := fun g h => by unfold encD; simp -implicitDefEqProofs only [List.map, param, List.length_cons, List.length_nil, s_cons, s_nil, s_iff, s_asg, s_par, s_drop, s_app, s_for, s_whl, s_kill, s_brk, s_cnt, s_pass, s_nev, s_retv, s_retN, r_lit, r_con, r_op, r_call, r_and, r_or, r_ife, r_chain, r_lst, r_tup, r_lc, rv, y_op, y_call, y_and, y_or, y_ife, y_chain, y_one, y_more, y_lst, y_tup, y_nil, y_cons, y_pnil, y_pcons, y_var, y_lit, y_con, y_ex, y_rng1, y_rng2, y_enum, y_zip, Nat.sub_self, List.replicate, List.cons_append, List.nil_append, List.append_nil, List.getElem?_cons_zero, List.getElem?_cons_succ, vr_sh, vr_own, vr_top, Option.bind_some, Option.map_some, Option.bind_none, Option.map_none, f_le, f_lt, f_gt, f_ge, boolD_some, cho_some, nmS_boolD, nmS_int, nmS_str, nmS_none, nmS_nil, Nat.reduceSub, Nat.reduceAdd, Nat.reduceLT, Nat.reduceLeDiff, ite_b, ite_true, ite_false, if_true, if_false, Bool.false_eq_true, o_neg', o_not', o_add', o_sub', o_mul', o_div', o_mod', o_abs', o_int', o_intb', o_min', o_max', o_gcd', o_lt', o_le', o_gt', o_ge', o_eq', o_ne', o_lenl, o_lent, o_idxl, o_idxt, o_isn', o_isnn', t_bool, t_int, nxt_nx, nxt_rt, nxt_bk, nxt_ct, nxt_if, rb_rt, rb_nx, rb_if, p_nm, p_tup, p_lst, p_nil, p_cons, cmO, c_nm, c_tup, c_lst, c_nil, c_cons, stO, Ow.tags, frz_n, frz_c, ff_nil, ff_cons, f1_none, f1_sh, f1_top, f1_own, w_nil, w_cons, List.set_cons_zero, List.set_cons_succ, intD, lstD, lvl, forF, whlC, lcF, and_self, Bool.not_eq_true', decide_eq_true_eq, decide_eq_false_iff_not, Bool.and_eq_true, Bool.and_eq_false_imp, and_true, true_and, own_q, oq_own, oq_top, put_o, put_t, io_int, io_bool, io_str, io_own, hasT_n, hasT_c, Nat.reduceBEq, Bool.false_and, Bool.and_false, Bool.true_and, Bool.and_true, Bool.or_false, Bool.false_or, Bool.or_true, Bool.true_or, beq_self_eq_true, not_true_eq_false, not_false_eq_true, List.append_assoc, dl_e, dt_e, ta_n, ta_c, List.all_cons, List.all_nil, Nat.zero_le, call_q, cq_0, cq_1, cq_2, atD_0, atD_1, vr_pair, nmS_pair, si_list, si_tup, y_lc, reduceCtorEq, y_tcons, y_tnil, ite_sb, pk_var, pq_sh, pq_top, pq_own, pk_op, pk_call, pk_lit, pk_con, pk_lst, pk_tup, pk_lc, pk_ife, pk_or, pk_and, nmS_list, nmT_ints, nmT_snoc, vr_int, vr_bool, vr_str, vr_none, o_rev, o_slc1, t_none, t_list, t_tup, isn_none, isn_int, isn_tup, isn_list, isn_bool, io_none, o_addl, List.isEmpty_cons, List.isEmpty_nil, s_par3, s_appK, s_ret2, r2_own, s_appM, s_forT, io_lsh, io_top, bq_ft, bq_tf, a4_3]
  have lp : ((partOf cs f l d).take j).length < 1000000 := by
    rw [List.length_take]
    have e : (partOf cs f l d).length = l + 1 - f := by unfold partOf; rw [List.length_map, List.length_range]
    rw [e]
    omega
  rw [part_take cs f l d j hj, ← cutP_succ f l d j cs gl (by omega)]
  have ep : (((partOf cs f l d).take j ++ [(f + j, marks ((cs.getD (f + j) []).drop ((cs.getD (f + j) []).length - d)))]).map encQ) = ((partOf cs f l d).take j).map encQ ++ [.tuple [.int ((f : Int) + (j : Int)), encNs (marks ((cs.getD (f + j) []).drop ((cs.getD (f + j) []).length - d)))]] := by
    rw [List.map_append, ← ej]
    rfl
  have es : (((cutP f l d j cs).set (f + j) ((cs.getD (f + j) []).take ((cs.getD (f + j) []).length - d))).map encCol) = ((cutP f l d j cs).map encCol).set (f + j) (.list (((cs.getD (f + j) []).take ((cs.getD (f + j) []).length - d)).map encM)) := List.map_set
  rw [ep]
  unfold encCols
  rw [es]
  have gs : f + j < ((cutP f l d j cs).map encCol).length := by rw [List.length_map, cutP_len]; exact gl
  generalize cs.getD (f + j) [] = col at *
  have e1 : cutD (col.map encM) (some (-(d : Int))) none = (col.drop (col.length - d)).map encM := by
    have := cut_fromN (col.map encM) d ⟨o3, by rw [List.length_map]; exact hd⟩
    rw [this, List.length_map, List.map_drop]
  have e2 : cutD (col.map encM) none (some (-(d : Int))) = (col.take (col.length - d)).map encM := by
    have := cut_toN (col.map encM) d ⟨o3, by rw [List.length_map]; exact hd⟩
    rw [this, List.length_map, List.map_take]
  have sl : ∀ g h, opR (.slc false true) [(.list (col.map encM), g), (.int (-(d : Int)), h)] = some (.list ((col.take (col.length - d)).map encM), .own) := fun g h => by
    simp only [opR, opF, List.map, oSlc, e2, nTcol]
  have lk : (col.drop (col.length - d)).length ≤ 1000000 := by rw [List.length_drop]; omega
  have so : ∀ (x0 x1 x2 x3 x4 x5 x6 x7 : Option R) (r : Rho) (o : Ow), setQ 8 (x0 :: x1 :: x2 :: x3 :: x4 :: x5 :: x6 :: x7 :: some (.list ((cutP f l d j cs).map encCol), .own) :: r) (.list ((col.take (col.length - d)).map encM), .own) (.int ((f : Int) + (j : Int)), o) = some (.nx (x0 :: x1 :: x2 :: x3 :: x4 :: x5 :: x6 :: x7 :: some (.list (((cutP f l d j cs).map encCol).set (f + j) (.list ((col.take (col.length - d)).map encM))), .own) :: r)) := fun x0 x1 x2 x3 x4 x5 x6 x7 r o => by
    rw [← ej]
    exact set_own (u := 8) (d := .list ((col.take (col.length - d)).map encM)) (o := o) rfl gs
  have at1 : atD ((cutP f l d j cs).map encCol) ((f : Int) + (j : Int)) = some (.list (col.map encM)) := at1
  generalize cutP f l d j cs = cp at *
  generalize (partOf cs f l d).take j = pt at *
  have inn : ∀ (c2 : Col) (g : List Tag) (x8 x15 : Option R), lcRun (lcF Φ [19, 20] (.var 19) (.tp (.cons (.nm 19) (.cons (.nm 20) .nil))) .nil g [a0, some (.list dr, .own), some (.int (w : Int), .sh []), some (.list dl, .sh []), some (.str ks, .sh []), some (encD (.cut f l d), .sh []), none, some (.int ((f : Int) + (j : Int)), .sh []), x8, some (encNs ls, .own), some (.list rw', .own), none, none, none, none, x15, none, none, none, none, none]) (c2.map encM) = some (c2.map fun m => ((PyData.int (m.1 : Int), Ow.sh []) : R)) := fun c2 g x8 x15 => by
    refine lcM [19, 20] 19 20 _ _ g c2 fun m => ?_
    unfold encM
    simp -implicitDefEqProofs only [List.map, param, List.length_cons, List.length_nil, s_cons, s_nil, s_iff, s_asg, s_par, s_drop, s_app, s_for, s_whl, s_kill, s_brk, s_cnt, s_pass, s_nev, s_retv, s_retN, r_lit, r_con, r_op, r_call, r_and, r_or, r_ife, r_chain, r_lst, r_tup, r_lc, rv, y_op, y_call, y_and, y_or, y_ife, y_chain, y_one, y_more, y_lst, y_tup, y_nil, y_cons, y_pnil, y_pcons, y_var, y_lit, y_con, y_ex, y_rng1, y_rng2, y_enum, y_zip, Nat.sub_self, List.replicate, List.cons_append, List.nil_append, List.append_nil, List.getElem?_cons_zero, List.getElem?_cons_succ, vr_sh, vr_own, vr_top, Option.bind_some, Option.map_some, Option.bind_none, Option.map_none, f_le, f_lt, f_gt, f_ge, boolD_some, cho_some, nmS_boolD, nmS_int, nmS_str, nmS_none, nmS_nil, Nat.reduceSub, Nat.reduceAdd, Nat.reduceLT, Nat.reduceLeDiff, ite_b, ite_true, ite_false, if_true, if_false, Bool.false_eq_true, o_neg', o_not', o_add', o_sub', o_mul', o_div', o_mod', o_abs', o_int', o_intb', o_min', o_max', o_gcd', o_lt', o_le', o_gt', o_ge', o_eq', o_ne', o_lenl, o_lent, o_idxl, o_idxt, o_isn', o_isnn', t_bool, t_int, nxt_nx, nxt_rt, nxt_bk, nxt_ct, nxt_if, rb_rt, rb_nx, rb_if, p_nm, p_tup, p_lst, p_nil, p_cons, cmO, c_nm, c_tup, c_lst, c_nil, c_cons, stO, Ow.tags, frz_n, frz_c, ff_nil, ff_cons, f1_none, f1_sh, f1_top, f1_own, w_nil, w_cons, List.set_cons_zero, List.set_cons_succ, intD, lstD, lvl, forF, whlC, lcF, and_self, Bool.not_eq_true', decide_eq_true_eq, decide_eq_false_iff_not, Bool.and_eq_true, Bool.and_eq_false_imp, and_true, true_and, own_q, oq_own, oq_top, put_o, put_t, io_int, io_bool, io_str, io_own, hasT_n, hasT_c, Nat.reduceBEq, Bool.false_and, Bool.and_false, Bool.true_and, Bool.and_true, Bool.or_false, Bool.false_or, Bool.or_true, Bool.true_or, beq_self_eq_true, not_true_eq_false, not_false_eq_true, List.append_assoc, dl_e, dt_e, ta_n, ta_c, List.all_cons, List.all_nil, Nat.zero_le, call_q, cq_0, cq_1, cq_2, atD_0, atD_1, vr_pair, nmS_pair, si_list, si_tup, y_lc, reduceCtorEq, y_tcons, y_tnil, ite_sb, pk_var, pq_sh, pq_top, pq_own, pk_op, pk_call, pk_lit, pk_con, pk_lst, pk_tup, pk_lc, pk_ife, pk_or, pk_and, nmS_list, nmT_ints, nmT_snoc, vr_int, vr_bool, vr_str, vr_none, o_rev, o_slc1, t_none, t_list, t_tup, isn_none, isn_int, isn_tup, isn_list, isn_bool, io_none, o_addl, List.isEmpty_cons, List.isEmpty_nil, s_par3, s_appK, s_ret2, r2_own, s_appM, s_forT, io_lsh, io_top, bq_ft, bq_tf]
  unfold encNs at *
  unfold b3_law
  apply Exists.intro
  apply And.intro
  · simp -implicitDefEqProofs only [List.map, param, List.length_cons, List.length_nil, s_cons, s_nil, s_iff, s_asg, s_par, s_drop, s_app, s_for, s_whl, s_kill, s_brk, s_cnt, s_pass, s_nev, s_retv, s_retN, r_lit, r_con, r_op, r_call, r_and, r_or, r_ife, r_chain, r_lst, r_tup, r_lc, rv, y_op, y_call, y_and, y_or, y_ife, y_chain, y_one, y_more, y_lst, y_tup, y_nil, y_cons, y_pnil, y_pcons, y_var, y_lit, y_con, y_ex, y_rng1, y_rng2, y_enum, y_zip, Nat.sub_self, List.replicate, List.cons_append, List.nil_append, List.append_nil, List.getElem?_cons_zero, List.getElem?_cons_succ, vr_sh, vr_own, vr_top, Option.bind_some, Option.map_some, Option.bind_none, Option.map_none, f_le, f_lt, f_gt, f_ge, boolD_some, cho_some, nmS_boolD, nmS_int, nmS_str, nmS_none, nmS_nil, Nat.reduceSub, Nat.reduceAdd, Nat.reduceLT, Nat.reduceLeDiff, ite_b, ite_true, ite_false, if_true, if_false, Bool.false_eq_true, o_neg', o_not', o_add', o_sub', o_mul', o_div', o_mod', o_abs', o_int', o_intb', o_min', o_max', o_gcd', o_lt', o_le', o_gt', o_ge', o_eq', o_ne', o_lenl, o_lent, o_idxl, o_idxt, o_isn', o_isnn', t_bool, t_int, nxt_nx, nxt_rt, nxt_bk, nxt_ct, nxt_if, rb_rt, rb_nx, rb_if, p_nm, p_tup, p_lst, p_nil, p_cons, cmO, c_nm, c_tup, c_lst, c_nil, c_cons, stO, Ow.tags, frz_n, frz_c, ff_nil, ff_cons, f1_none, f1_sh, f1_top, f1_own, w_nil, w_cons, List.set_cons_zero, List.set_cons_succ, intD, lstD, lvl, forF, whlC, lcF, and_self, Bool.not_eq_true', decide_eq_true_eq, decide_eq_false_iff_not, Bool.and_eq_true, Bool.and_eq_false_imp, and_true, true_and, own_q, oq_own, oq_top, put_o, put_t, io_int, io_bool, io_str, io_own, hasT_n, hasT_c, Nat.reduceBEq, Bool.false_and, Bool.and_false, Bool.true_and, Bool.and_true, Bool.or_false, Bool.false_or, Bool.or_true, Bool.true_or, beq_self_eq_true, not_true_eq_false, not_false_eq_true, List.append_assoc, dl_e, dt_e, ta_n, ta_c, List.all_cons, List.all_nil, Nat.zero_le, call_q, cq_0, cq_1, cq_2, atD_0, atD_1, vr_pair, nmS_pair, si_list, si_tup, y_lc, reduceCtorEq, y_tcons, y_tnil, ite_sb, pk_var, pq_sh, pq_top, pq_own, pk_op, pk_call, pk_lit, pk_con, pk_lst, pk_tup, pk_lc, pk_ife, pk_or, pk_and, nmS_list, nmT_ints, nmT_snoc, vr_int, vr_bool, vr_str, vr_none, o_rev, o_slc1, t_none, t_list, t_tup, isn_none, isn_int, isn_tup, isn_list, isn_bool, io_none, o_addl, List.isEmpty_cons, List.isEmpty_nil, s_par3, s_appK, s_ret2, r2_own, s_appM, s_forT, io_lsh, io_top, bq_ft, bq_tf, s_setI, at1, i3, List.length_map, e1, nTcol, inn, eiM, oiM (fun m : Mk => (m.1 : Int)), lk, lp, sl, so]
    rfl
  · simp -implicitDefEqProofs only [List.map, param, List.length_cons, List.length_nil, s_cons, s_nil, s_iff, s_asg, s_par, s_drop, s_app, s_for, s_whl, s_kill, s_brk, s_cnt, s_pass, s_nev, s_retv, s_retN, r_lit, r_con, r_op, r_call, r_and, r_or, r_ife, r_chain, r_lst, r_tup, r_lc, rv, y_op, y_call, y_and, y_or, y_ife, y_chain, y_one, y_more, y_lst, y_tup, y_nil, y_cons, y_pnil, y_pcons, y_var, y_lit, y_con, y_ex, y_rng1, y_rng2, y_enum, y_zip, Nat.sub_self, List.replicate, List.cons_append, List.nil_append, List.append_nil, List.getElem?_cons_zero, List.getElem?_cons_succ, vr_sh, vr_own, vr_top, Option.bind_some, Option.map_some, Option.bind_none, Option.map_none, f_le, f_lt, f_gt, f_ge, boolD_some, cho_some, nmS_boolD, nmS_int, nmS_str, nmS_none, nmS_nil, Nat.reduceSub, Nat.reduceAdd, Nat.reduceLT, Nat.reduceLeDiff, ite_b, ite_true, ite_false, if_true, if_false, Bool.false_eq_true, o_neg', o_not', o_add', o_sub', o_mul', o_div', o_mod', o_abs', o_int', o_intb', o_min', o_max', o_gcd', o_lt', o_le', o_gt', o_ge', o_eq', o_ne', o_lenl, o_lent, o_idxl, o_idxt, o_isn', o_isnn', t_bool, t_int, nxt_nx, nxt_rt, nxt_bk, nxt_ct, nxt_if, rb_rt, rb_nx, rb_if, p_nm, p_tup, p_lst, p_nil, p_cons, cmO, c_nm, c_tup, c_lst, c_nil, c_cons, stO, Ow.tags, frz_n, frz_c, ff_nil, ff_cons, f1_none, f1_sh, f1_top, f1_own, w_nil, w_cons, List.set_cons_zero, List.set_cons_succ, intD, lstD, lvl, forF, whlC, lcF, and_self, Bool.not_eq_true', decide_eq_true_eq, decide_eq_false_iff_not, Bool.and_eq_true, Bool.and_eq_false_imp, and_true, true_and, own_q, oq_own, oq_top, put_o, put_t, io_int, io_bool, io_str, io_own, hasT_n, hasT_c, Nat.reduceBEq, Bool.false_and, Bool.and_false, Bool.true_and, Bool.and_true, Bool.or_false, Bool.false_or, Bool.or_true, Bool.true_or, beq_self_eq_true, not_true_eq_false, not_false_eq_true, List.append_assoc, dl_e, dt_e, ta_n, ta_c, List.all_cons, List.all_nil, Nat.zero_le, call_q, cq_0, cq_1, cq_2, atD_0, atD_1, vr_pair, nmS_pair, si_list, si_tup, y_lc, reduceCtorEq, y_tcons, y_tnil, ite_sb, pk_var, pq_sh, pq_top, pq_own, pk_op, pk_call, pk_lit, pk_con, pk_lst, pk_tup, pk_lc, pk_ife, pk_or, pk_and, nmS_list, nmT_ints, nmT_snoc, vr_int, vr_bool, vr_str, vr_none, o_rev, o_slc1, t_none, t_list, t_tup, isn_none, isn_int, isn_tup, isn_list, isn_bool, io_none, o_addl, List.isEmpty_cons, List.isEmpty_nil, s_par3, s_appK, s_ret2, r2_own, s_appM, s_forT, io_lsh, io_top, bq_ft, bq_tf]
theorem part_len (cs : List Col) (f l d : Nat) : (partOf cs f l d).length = l + 1 - f := by unfold partOf; rw [List.length_map, List.length_range]
theorem okS_fd (d : Deed) : ∀ g, nmS (encD d) g = .sh [] := fun g => nmS_flat (flatD d)
/-- the slots of the law while it walks the deeds -/
def rhoL (a0 : Option R) (dr : List D) (w : Nat) (dl : List D) (ks : Str) (a5 a7 : Option R) (cs : List Col) (ls : List Nat) (rw' : List D) (a15 : Option R) : Rho :=
  [a0, some (.list dr, .own), some (.int (w : Int), .sh []), some (.list dl, .sh []), some (.str ks, .sh []), a5, none, a7, some (encCols cs, .own), some (encNs ls, .own), some (.list rw', .own), none, none, none, none, a15, none, none, none, none, none]
theorem step_ok (w : Nat) (hw : w ≤ 900) (a0 : Option R) (dr : List D) (ks : Str) (dl : List D) (cs : List Col) (hcs : cs.length = w) (hb : ∀ c ∈ cs, c.length ≤ 900) (d : Deed) (ok : okD w cs d) (ls : List Nat) (hl : ls.length ≤ 900) (rs : List (List (Nat × List Nat))) (hr : rs.length ≤ 900) :
    ∃ ρ', forF Φ W (.nm 5) b4_law (encD d) (rhoL a0 dr w dl ks none none cs ls (rs.map encPart) none) = some (.nx ρ') ∧
      wipeR [0, 5, 7, 15] ρ' = rhoL none dr w dl ks none none (stepD cs ls.length d) (ls ++ lays [d]) ((rs ++ tkD cs d).map encPart) none := by
  have nd := okS_fd d
  cases d with
  | lay m =>
    have i1 : ∀ g h, opR .idx [(encD (.lay m), g), (.int 1, h)] = some (.int (m : Int), .sh []) := fun g h => by unfold encD; simp -implicitDefEqProofs only [List.map, param, List.length_cons, List.length_nil, s_cons, s_nil, s_iff, s_asg, s_par, s_drop, s_app, s_for, s_whl, s_kill, s_brk, s_cnt, s_pass, s_nev, s_retv, s_retN, r_lit, r_con, r_op, r_call, r_and, r_or, r_ife, r_chain, r_lst, r_tup, r_lc, rv, y_op, y_call, y_and, y_or, y_ife, y_chain, y_one, y_more, y_lst, y_tup, y_nil, y_cons, y_pnil, y_pcons, y_var, y_lit, y_con, y_ex, y_rng1, y_rng2, y_enum, y_zip, Nat.sub_self, List.replicate, List.cons_append, List.nil_append, List.append_nil, List.getElem?_cons_zero, List.getElem?_cons_succ, vr_sh, vr_own, vr_top, Option.bind_some, Option.map_some, Option.bind_none, Option.map_none, f_le, f_lt, f_gt, f_ge, boolD_some, cho_some, nmS_boolD, nmS_int, nmS_str, nmS_none, nmS_nil, Nat.reduceSub, Nat.reduceAdd, Nat.reduceLT, Nat.reduceLeDiff, ite_b, ite_true, ite_false, if_true, if_false, Bool.false_eq_true, o_neg', o_not', o_add', o_sub', o_mul', o_div', o_mod', o_abs', o_int', o_intb', o_min', o_max', o_gcd', o_lt', o_le', o_gt', o_ge', o_eq', o_ne', o_lenl, o_lent, o_idxl, o_idxt, o_isn', o_isnn', t_bool, t_int, nxt_nx, nxt_rt, nxt_bk, nxt_ct, nxt_if, rb_rt, rb_nx, rb_if, p_nm, p_tup, p_lst, p_nil, p_cons, cmO, c_nm, c_tup, c_lst, c_nil, c_cons, stO, Ow.tags, frz_n, frz_c, ff_nil, ff_cons, f1_none, f1_sh, f1_top, f1_own, w_nil, w_cons, List.set_cons_zero, List.set_cons_succ, intD, lstD, lvl, forF, whlC, lcF, and_self, Bool.not_eq_true', decide_eq_true_eq, decide_eq_false_iff_not, Bool.and_eq_true, Bool.and_eq_false_imp, and_true, true_and, own_q, oq_own, oq_top, put_o, put_t, io_int, io_bool, io_str, io_own, hasT_n, hasT_c, Nat.reduceBEq, Bool.false_and, Bool.and_false, Bool.true_and, Bool.and_true, Bool.or_false, Bool.false_or, Bool.or_true, Bool.true_or, beq_self_eq_true, not_true_eq_false, not_false_eq_true, List.append_assoc, dl_e, dt_e, ta_n, ta_c, List.all_cons, List.all_nil, Nat.zero_le, call_q, cq_0, cq_1, cq_2, atD_0, atD_1, vr_pair, nmS_pair, si_list, si_tup, y_lc, reduceCtorEq, y_tcons, y_tnil, ite_sb, pk_var, pq_sh, pq_top, pq_own, pk_op, pk_call, pk_lit, pk_con, pk_lst, pk_tup, pk_lc, pk_ife, pk_or, pk_and, nmS_list, nmT_ints, nmT_snoc, vr_int, vr_bool, vr_str, vr_none, o_rev, o_slc1, t_none, t_list, t_tup, isn_none, isn_int, isn_tup, isn_list, isn_bool, io_none, o_addl, List.isEmpty_cons, List.isEmpty_nil, s_par3, s_appK, s_ret2, r2_own, s_appM, s_forT, io_lsh, io_top, bq_ft, bq_tf]
    have er : (rs ++ tkD cs (.lay m)).map encPart = rs.map encPart := by unfold tkD; rw [List.append_nil]
    have el : lays [.lay m] = [m] := rfl
    have es : encNs (ls ++ [m]) = .list ((ls.map fun (n : Nat) => PyData.int (n : Int)) ++ [.int (m : Int)]) := by unfold encNs; rw [List.map_append]; rfl
    have nt : ∀ (c : Col) (g : List Tag), nmT (.list (c.map encM ++ [.tuple [.int (m : Int), .int (ls.length : Int)]])) g = .own := fun c g => nTc c _ _ g
    have lc : ∀ g, lcRun (lcF Φ [16] (.op .add (.cons (.var 16) (.cons (.lst (.cons (.tup (.cons (.op .idx (.cons (.var 5) (.cons (.lit (.int 1)) .nil))) (.cons (.op .len (.cons (.var 9) .nil)) .nil))) .nil)) .nil))) (.nm 16) .nil g
        [a0, some (.list dr, .own), some (.int (w : Int), .sh []), some (.list dl, .sh []), some (.str ks, .sh []), some (encD (.lay m), .sh []), none, none, some (encCols cs, .own), some (encNs ls, .own), some (.list (rs.map encPart), .own), none, none, none, none, none, none, none, none, none, none]) (cs.map encCol) = some (cs.map fun c => ((encCol (c ++ [(m, ls.length)]), Ow.own) : R)) := fun g => by
      refine lc_map encCol _ _ cs fun c hc => ?_
      have q : c.length + 1 ≤ 1000000 := by have := hb c hc; omega
      unfold encCol encNs
      rw [List.map_append]
      cases g with
      | nil => simp -implicitDefEqProofs only [List.map, param, List.length_cons, List.length_nil, s_cons, s_nil, s_iff, s_asg, s_par, s_drop, s_app, s_for, s_whl, s_kill, s_brk, s_cnt, s_pass, s_nev, s_retv, s_retN, r_lit, r_con, r_op, r_call, r_and, r_or, r_ife, r_chain, r_lst, r_tup, r_lc, rv, y_op, y_call, y_and, y_or, y_ife, y_chain, y_one, y_more, y_lst, y_tup, y_nil, y_cons, y_pnil, y_pcons, y_var, y_lit, y_con, y_ex, y_rng1, y_rng2, y_enum, y_zip, Nat.sub_self, List.replicate, List.cons_append, List.nil_append, List.append_nil, List.getElem?_cons_zero, List.getElem?_cons_succ, vr_sh, vr_own, vr_top, Option.bind_some, Option.map_some, Option.bind_none, Option.map_none, f_le, f_lt, f_gt, f_ge, boolD_some, cho_some, nmS_boolD, nmS_int, nmS_str, nmS_none, nmS_nil, Nat.reduceSub, Nat.reduceAdd, Nat.reduceLT, Nat.reduceLeDiff, ite_b, ite_true, ite_false, if_true, if_false, Bool.false_eq_true, o_neg', o_not', o_add', o_sub', o_mul', o_div', o_mod', o_abs', o_int', o_intb', o_min', o_max', o_gcd', o_lt', o_le', o_gt', o_ge', o_eq', o_ne', o_lenl, o_lent, o_idxl, o_idxt, o_isn', o_isnn', t_bool, t_int, nxt_nx, nxt_rt, nxt_bk, nxt_ct, nxt_if, rb_rt, rb_nx, rb_if, p_nm, p_tup, p_lst, p_nil, p_cons, cmO, c_nm, c_tup, c_lst, c_nil, c_cons, stO, Ow.tags, frz_n, frz_c, ff_nil, ff_cons, f1_none, f1_sh, f1_top, f1_own, w_nil, w_cons, List.set_cons_zero, List.set_cons_succ, intD, lstD, lvl, forF, whlC, lcF, and_self, Bool.not_eq_true', decide_eq_true_eq, decide_eq_false_iff_not, Bool.and_eq_true, Bool.and_eq_false_imp, and_true, true_and, own_q, oq_own, oq_top, put_o, put_t, io_int, io_bool, io_str, io_own, hasT_n, hasT_c, Nat.reduceBEq, Bool.false_and, Bool.and_false, Bool.true_and, Bool.and_true, Bool.or_false, Bool.false_or, Bool.or_true, Bool.true_or, beq_self_eq_true, not_true_eq_false, not_false_eq_true, List.append_assoc, dl_e, dt_e, ta_n, ta_c, List.all_cons, List.all_nil, Nat.zero_le, call_q, cq_0, cq_1, cq_2, atD_0, atD_1, vr_pair, nmS_pair, si_list, si_tup, y_lc, reduceCtorEq, y_tcons, y_tnil, ite_sb, pk_var, pq_sh, pq_top, pq_own, pk_op, pk_call, pk_lit, pk_con, pk_lst, pk_tup, pk_lc, pk_ife, pk_or, pk_and, nmS_list, nmT_ints, nmT_snoc, vr_int, vr_bool, vr_str, vr_none, o_rev, o_slc1, t_none, t_list, t_tup, isn_none, isn_int, isn_tup, isn_list, isn_bool, io_none, o_addl, List.isEmpty_cons, List.isEmpty_nil, s_par3, s_appK, s_ret2, r2_own, s_appM, s_forT, io_lsh, io_top, bq_ft, bq_tf, i1, List.length_map, q, nt, encM]
      | cons t g => simp -implicitDefEqProofs only [List.map, param, List.length_cons, List.length_nil, s_cons, s_nil, s_iff, s_asg, s_par, s_drop, s_app, s_for, s_whl, s_kill, s_brk, s_cnt, s_pass, s_nev, s_retv, s_retN, r_lit, r_con, r_op, r_call, r_and, r_or, r_ife, r_chain, r_lst, r_tup, r_lc, rv, y_op, y_call, y_and, y_or, y_ife, y_chain, y_one, y_more, y_lst, y_tup, y_nil, y_cons, y_pnil, y_pcons, y_var, y_lit, y_con, y_ex, y_rng1, y_rng2, y_enum, y_zip, Nat.sub_self, List.replicate, List.cons_append, List.nil_append, List.append_nil, List.getElem?_cons_zero, List.getElem?_cons_succ, vr_sh, vr_own, vr_top, Option.bind_some, Option.map_some, Option.bind_none, Option.map_none, f_le, f_lt, f_gt, f_ge, boolD_some, cho_some, nmS_boolD, nmS_int, nmS_str, nmS_none, nmS_nil, Nat.reduceSub, Nat.reduceAdd, Nat.reduceLT, Nat.reduceLeDiff, ite_b, ite_true, ite_false, if_true, if_false, Bool.false_eq_true, o_neg', o_not', o_add', o_sub', o_mul', o_div', o_mod', o_abs', o_int', o_intb', o_min', o_max', o_gcd', o_lt', o_le', o_gt', o_ge', o_eq', o_ne', o_lenl, o_lent, o_idxl, o_idxt, o_isn', o_isnn', t_bool, t_int, nxt_nx, nxt_rt, nxt_bk, nxt_ct, nxt_if, rb_rt, rb_nx, rb_if, p_nm, p_tup, p_lst, p_nil, p_cons, cmO, c_nm, c_tup, c_lst, c_nil, c_cons, stO, Ow.tags, frz_n, frz_c, ff_nil, ff_cons, f1_none, f1_sh, f1_top, f1_own, w_nil, w_cons, List.set_cons_zero, List.set_cons_succ, intD, lstD, lvl, forF, whlC, lcF, and_self, Bool.not_eq_true', decide_eq_true_eq, decide_eq_false_iff_not, Bool.and_eq_true, Bool.and_eq_false_imp, and_true, true_and, own_q, oq_own, oq_top, put_o, put_t, io_int, io_bool, io_str, io_own, hasT_n, hasT_c, Nat.reduceBEq, Bool.false_and, Bool.and_false, Bool.true_and, Bool.and_true, Bool.or_false, Bool.false_or, Bool.or_true, Bool.true_or, beq_self_eq_true, not_true_eq_false, not_false_eq_true, List.append_assoc, dl_e, dt_e, ta_n, ta_c, List.all_cons, List.all_nil, Nat.zero_le, call_q, cq_0, cq_1, cq_2, atD_0, atD_1, vr_pair, nmS_pair, si_list, si_tup, y_lc, reduceCtorEq, y_tcons, y_tnil, ite_sb, pk_var, pq_sh, pq_top, pq_own, pk_op, pk_call, pk_lit, pk_con, pk_lst, pk_tup, pk_lc, pk_ife, pk_or, pk_and, nmS_list, nmT_ints, nmT_snoc, vr_int, vr_bool, vr_str, vr_none, o_rev, o_slc1, t_none, t_list, t_tup, isn_none, isn_int, isn_tup, isn_list, isn_bool, io_none, o_addl, List.isEmpty_cons, List.isEmpty_nil, s_par3, s_appK, s_ret2, r2_own, s_appM, s_forT, io_lsh, io_top, bq_ft, bq_tf, i1, List.length_map, q, nt, encM]
    have e1 : (cs.map fun c => ((encCol (c ++ [(m, ls.length)]), Ow.own) : R)).map (fun x => x.1) = (stepD cs ls.length (.lay m)).map encCol := by unfold stepD; rw [List.map_map, List.map_map]; rfl
    have o1 : (cs.map fun c => ((encCol (c ++ [(m, ls.length)]), Ow.own) : R)).all isOwn = true := by
      rw [List.all_map]
      exact List.all_eq_true.mpr fun x _ => rfl
    have lc1 : cs.length ≤ 1000000 := by omega
    have ll : ls.length < 1000000 := by omega
    rw [er, el]
    unfold rhoL
    rw [es]
    unfold encCols encNs at *
    unfold b4_law
    apply Exists.intro
    apply And.intro
    · simp -implicitDefEqProofs only [List.map, param, List.length_cons, List.length_nil, s_cons, s_nil, s_iff, s_asg, s_par, s_drop, s_app, s_for, s_whl, s_kill, s_brk, s_cnt, s_pass, s_nev, s_retv, s_retN, r_lit, r_con, r_op, r_call, r_and, r_or, r_ife, r_chain, r_lst, r_tup, r_lc, rv, y_op, y_call, y_and, y_or, y_ife, y_chain, y_one, y_more, y_lst, y_tup, y_nil, y_cons, y_pnil, y_pcons, y_var, y_lit, y_con, y_ex, y_rng1, y_rng2, y_enum, y_zip, Nat.sub_self, List.replicate, List.cons_append, List.nil_append, List.append_nil, List.getElem?_cons_zero, List.getElem?_cons_succ, vr_sh, vr_own, vr_top, Option.bind_some, Option.map_some, Option.bind_none, Option.map_none, f_le, f_lt, f_gt, f_ge, boolD_some, cho_some, nmS_boolD, nmS_int, nmS_str, nmS_none, nmS_nil, Nat.reduceSub, Nat.reduceAdd, Nat.reduceLT, Nat.reduceLeDiff, ite_b, ite_true, ite_false, if_true, if_false, Bool.false_eq_true, o_neg', o_not', o_add', o_sub', o_mul', o_div', o_mod', o_abs', o_int', o_intb', o_min', o_max', o_gcd', o_lt', o_le', o_gt', o_ge', o_eq', o_ne', o_lenl, o_lent, o_idxl, o_idxt, o_isn', o_isnn', t_bool, t_int, nxt_nx, nxt_rt, nxt_bk, nxt_ct, nxt_if, rb_rt, rb_nx, rb_if, p_nm, p_tup, p_lst, p_nil, p_cons, cmO, c_nm, c_tup, c_lst, c_nil, c_cons, stO, Ow.tags, frz_n, frz_c, ff_nil, ff_cons, f1_none, f1_sh, f1_top, f1_own, w_nil, w_cons, List.set_cons_zero, List.set_cons_succ, intD, lstD, lvl, forF, whlC, lcF, and_self, Bool.not_eq_true', decide_eq_true_eq, decide_eq_false_iff_not, Bool.and_eq_true, Bool.and_eq_false_imp, and_true, true_and, own_q, oq_own, oq_top, put_o, put_t, io_int, io_bool, io_str, io_own, hasT_n, hasT_c, Nat.reduceBEq, Bool.false_and, Bool.and_false, Bool.true_and, Bool.and_true, Bool.or_false, Bool.false_or, Bool.or_true, Bool.true_or, beq_self_eq_true, not_true_eq_false, not_false_eq_true, List.append_assoc, dl_e, dt_e, ta_n, ta_c, List.all_cons, List.all_nil, Nat.zero_le, call_q, cq_0, cq_1, cq_2, atD_0, atD_1, vr_pair, nmS_pair, si_list, si_tup, y_lc, reduceCtorEq, y_tcons, y_tnil, ite_sb, pk_var, pq_sh, pq_top, pq_own, pk_op, pk_call, pk_lit, pk_con, pk_lst, pk_tup, pk_lc, pk_ife, pk_or, pk_and, nmS_list, nmT_ints, nmT_snoc, vr_int, vr_bool, vr_str, vr_none, o_rev, o_slc1, t_none, t_list, t_tup, isn_none, isn_int, isn_tup, isn_list, isn_bool, io_none, o_addl, List.isEmpty_cons, List.isEmpty_nil, s_par3, s_appK, s_ret2, r2_own, s_appM, s_forT, io_lsh, io_top, bq_ft, bq_tf, nd, ix_word, eq_word, isLay, i1, List.length_map, lc1, ll, lc, e1, o1]
      rfl
    · simp -implicitDefEqProofs only [List.map, param, List.length_cons, List.length_nil, s_cons, s_nil, s_iff, s_asg, s_par, s_drop, s_app, s_for, s_whl, s_kill, s_brk, s_cnt, s_pass, s_nev, s_retv, s_retN, r_lit, r_con, r_op, r_call, r_and, r_or, r_ife, r_chain, r_lst, r_tup, r_lc, rv, y_op, y_call, y_and, y_or, y_ife, y_chain, y_one, y_more, y_lst, y_tup, y_nil, y_cons, y_pnil, y_pcons, y_var, y_lit, y_con, y_ex, y_rng1, y_rng2, y_enum, y_zip, Nat.sub_self, List.replicate, List.cons_append, List.nil_append, List.append_nil, List.getElem?_cons_zero, List.getElem?_cons_succ, vr_sh, vr_own, vr_top, Option.bind_some, Option.map_some, Option.bind_none, Option.map_none, f_le, f_lt, f_gt, f_ge, boolD_some, cho_some, nmS_boolD, nmS_int, nmS_str, nmS_none, nmS_nil, Nat.reduceSub, Nat.reduceAdd, Nat.reduceLT, Nat.reduceLeDiff, ite_b, ite_true, ite_false, if_true, if_false, Bool.false_eq_true, o_neg', o_not', o_add', o_sub', o_mul', o_div', o_mod', o_abs', o_int', o_intb', o_min', o_max', o_gcd', o_lt', o_le', o_gt', o_ge', o_eq', o_ne', o_lenl, o_lent, o_idxl, o_idxt, o_isn', o_isnn', t_bool, t_int, nxt_nx, nxt_rt, nxt_bk, nxt_ct, nxt_if, rb_rt, rb_nx, rb_if, p_nm, p_tup, p_lst, p_nil, p_cons, cmO, c_nm, c_tup, c_lst, c_nil, c_cons, stO, Ow.tags, frz_n, frz_c, ff_nil, ff_cons, f1_none, f1_sh, f1_top, f1_own, w_nil, w_cons, List.set_cons_zero, List.set_cons_succ, intD, lstD, lvl, forF, whlC, lcF, and_self, Bool.not_eq_true', decide_eq_true_eq, decide_eq_false_iff_not, Bool.and_eq_true, Bool.and_eq_false_imp, and_true, true_and, own_q, oq_own, oq_top, put_o, put_t, io_int, io_bool, io_str, io_own, hasT_n, hasT_c, Nat.reduceBEq, Bool.false_and, Bool.and_false, Bool.true_and, Bool.and_true, Bool.or_false, Bool.false_or, Bool.or_true, Bool.true_or, beq_self_eq_true, not_true_eq_false, not_false_eq_true, List.append_assoc, dl_e, dt_e, ta_n, ta_c, List.all_cons, List.all_nil, Nat.zero_le, call_q, cq_0, cq_1, cq_2, atD_0, atD_1, vr_pair, nmS_pair, si_list, si_tup, y_lc, reduceCtorEq, y_tcons, y_tnil, ite_sb, pk_var, pq_sh, pq_top, pq_own, pk_op, pk_call, pk_lit, pk_con, pk_lst, pk_tup, pk_lc, pk_ife, pk_or, pk_and, nmS_list, nmT_ints, nmT_snoc, vr_int, vr_bool, vr_str, vr_none, o_rev, o_slc1, t_none, t_list, t_tup, isn_none, isn_int, isn_tup, isn_list, isn_bool, io_none, o_addl, List.isEmpty_cons, List.isEmpty_nil, s_par3, s_appK, s_ret2, r2_own, s_appM, s_forT, io_lsh, io_top, bq_ft, bq_tf]
  | cut f l dd =>
    have i1 : ∀ g h, opR .idx [(encD (.cut f l dd), g), (.int 1, h)] = some (.int (f : Int), .sh []) := fun g h => by unfold encD; simp -implicitDefEqProofs only [List.map, param, List.length_cons, List.length_nil, s_cons, s_nil, s_iff, s_asg, s_par, s_drop, s_app, s_for, s_whl, s_kill, s_brk, s_cnt, s_pass, s_nev, s_retv, s_retN, r_lit, r_con, r_op, r_call, r_and, r_or, r_ife, r_chain, r_lst, r_tup, r_lc, rv, y_op, y_call, y_and, y_or, y_ife, y_chain, y_one, y_more, y_lst, y_tup, y_nil, y_cons, y_pnil, y_pcons, y_var, y_lit, y_con, y_ex, y_rng1, y_rng2, y_enum, y_zip, Nat.sub_self, List.replicate, List.cons_append, List.nil_append, List.append_nil, List.getElem?_cons_zero, List.getElem?_cons_succ, vr_sh, vr_own, vr_top, Option.bind_some, Option.map_some, Option.bind_none, Option.map_none, f_le, f_lt, f_gt, f_ge, boolD_some, cho_some, nmS_boolD, nmS_int, nmS_str, nmS_none, nmS_nil, Nat.reduceSub, Nat.reduceAdd, Nat.reduceLT, Nat.reduceLeDiff, ite_b, ite_true, ite_false, if_true, if_false, Bool.false_eq_true, o_neg', o_not', o_add', o_sub', o_mul', o_div', o_mod', o_abs', o_int', o_intb', o_min', o_max', o_gcd', o_lt', o_le', o_gt', o_ge', o_eq', o_ne', o_lenl, o_lent, o_idxl, o_idxt, o_isn', o_isnn', t_bool, t_int, nxt_nx, nxt_rt, nxt_bk, nxt_ct, nxt_if, rb_rt, rb_nx, rb_if, p_nm, p_tup, p_lst, p_nil, p_cons, cmO, c_nm, c_tup, c_lst, c_nil, c_cons, stO, Ow.tags, frz_n, frz_c, ff_nil, ff_cons, f1_none, f1_sh, f1_top, f1_own, w_nil, w_cons, List.set_cons_zero, List.set_cons_succ, intD, lstD, lvl, forF, whlC, lcF, and_self, Bool.not_eq_true', decide_eq_true_eq, decide_eq_false_iff_not, Bool.and_eq_true, Bool.and_eq_false_imp, and_true, true_and, own_q, oq_own, oq_top, put_o, put_t, io_int, io_bool, io_str, io_own, hasT_n, hasT_c, Nat.reduceBEq, Bool.false_and, Bool.and_false, Bool.true_and, Bool.and_true, Bool.or_false, Bool.false_or, Bool.or_true, Bool.true_or, beq_self_eq_true, not_true_eq_false, not_false_eq_true, List.append_assoc, dl_e, dt_e, ta_n, ta_c, List.all_cons, List.all_nil, Nat.zero_le, call_q, cq_0, cq_1, cq_2, atD_0, atD_1, vr_pair, nmS_pair, si_list, si_tup, y_lc, reduceCtorEq, y_tcons, y_tnil, ite_sb, pk_var, pq_sh, pq_top, pq_own, pk_op, pk_call, pk_lit, pk_con, pk_lst, pk_tup, pk_lc, pk_ife, pk_or, pk_and, nmS_list, nmT_ints, nmT_snoc, vr_int, vr_bool, vr_str, vr_none, o_rev, o_slc1, t_none, t_list, t_tup, isn_none, isn_int, isn_tup, isn_list, isn_bool, io_none, o_addl, List.isEmpty_cons, List.isEmpty_nil, s_par3, s_appK, s_ret2, r2_own, s_appM, s_forT, io_lsh, io_top, bq_ft, bq_tf, a4_1]
    have i2 : ∀ g h, opR .idx [(encD (.cut f l dd), g), (.int 2, h)] = some (.int (l : Int), .sh []) := fun g h => by unfold encD; simp -implicitDefEqProofs only [List.map, param, List.length_cons, List.length_nil, s_cons, s_nil, s_iff, s_asg, s_par, s_drop, s_app, s_for, s_whl, s_kill, s_brk, s_cnt, s_pass, s_nev, s_retv, s_retN, r_lit, r_con, r_op, r_call, r_and, r_or, r_ife, r_chain, r_lst, r_tup, r_lc, rv, y_op, y_call, y_and, y_or, y_ife, y_chain, y_one, y_more, y_lst, y_tup, y_nil, y_cons, y_pnil, y_pcons, y_var, y_lit, y_con, y_ex, y_rng1, y_rng2, y_enum, y_zip, Nat.sub_self, List.replicate, List.cons_append, List.nil_append, List.append_nil, List.getElem?_cons_zero, List.getElem?_cons_succ, vr_sh, vr_own, vr_top, Option.bind_some, Option.map_some, Option.bind_none, Option.map_none, f_le, f_lt, f_gt, f_ge, boolD_some, cho_some, nmS_boolD, nmS_int, nmS_str, nmS_none, nmS_nil, Nat.reduceSub, Nat.reduceAdd, Nat.reduceLT, Nat.reduceLeDiff, ite_b, ite_true, ite_false, if_true, if_false, Bool.false_eq_true, o_neg', o_not', o_add', o_sub', o_mul', o_div', o_mod', o_abs', o_int', o_intb', o_min', o_max', o_gcd', o_lt', o_le', o_gt', o_ge', o_eq', o_ne', o_lenl, o_lent, o_idxl, o_idxt, o_isn', o_isnn', t_bool, t_int, nxt_nx, nxt_rt, nxt_bk, nxt_ct, nxt_if, rb_rt, rb_nx, rb_if, p_nm, p_tup, p_lst, p_nil, p_cons, cmO, c_nm, c_tup, c_lst, c_nil, c_cons, stO, Ow.tags, frz_n, frz_c, ff_nil, ff_cons, f1_none, f1_sh, f1_top, f1_own, w_nil, w_cons, List.set_cons_zero, List.set_cons_succ, intD, lstD, lvl, forF, whlC, lcF, and_self, Bool.not_eq_true', decide_eq_true_eq, decide_eq_false_iff_not, Bool.and_eq_true, Bool.and_eq_false_imp, and_true, true_and, own_q, oq_own, oq_top, put_o, put_t, io_int, io_bool, io_str, io_own, hasT_n, hasT_c, Nat.reduceBEq, Bool.false_and, Bool.and_false, Bool.true_and, Bool.and_true, Bool.or_false, Bool.false_or, Bool.or_true, Bool.true_or, beq_self_eq_true, not_true_eq_false, not_false_eq_true, List.append_assoc, dl_e, dt_e, ta_n, ta_c, List.all_cons, List.all_nil, Nat.zero_le, call_q, cq_0, cq_1, cq_2, atD_0, atD_1, vr_pair, nmS_pair, si_list, si_tup, y_lc, reduceCtorEq, y_tcons, y_tnil, ite_sb, pk_var, pq_sh, pq_top, pq_own, pk_op, pk_call, pk_lit, pk_con, pk_lst, pk_tup, pk_lc, pk_ife, pk_or, pk_and, nmS_list, nmT_ints, nmT_snoc, vr_int, vr_bool, vr_str, vr_none, o_rev, o_slc1, t_none, t_list, t_tup, isn_none, isn_int, isn_tup, isn_list, isn_bool, io_none, o_addl, List.isEmpty_cons, List.isEmpty_nil, s_par3, s_appK, s_ret2, r2_own, s_appM, s_forT, io_lsh, io_top, bq_ft, bq_tf, a4_2]
    have o2 := ok.2.1
    have r1 : rngOk (f : Int) = true := rng_ok (by have := ok.1; omega) (by have := ok.1; omega)
    have r2 : rngOk ((l : Int) + 1) = true := rng_ok (by omega) (by omega)
    have en : ((l : Int) + 1 - (f : Int)).toNat = l + 1 - f := by have := ok.1; omega
    have er : rangeD (f : Int) (l + 1 - f) = (List.range (l + 1 - f)).map fun (j : Nat) => PyData.int ((f : Int) + (j : Int)) := rfl
    have key := for_inv (k := [7]) (fun (j : Nat) => PyData.int ((f : Int) + (j : Int))) (fun i ρ => ρ = rhoL a0 dr w dl ks (some (encD (.cut f l dd), .sh [])) none (cutP f l dd i cs) ls (rs.map encPart) (some (.list (((partOf cs f l dd).take i).map encQ), .own)))
      (forF Φ W (.nm 7) b3_law) (fun i ρ e => by rw [e]; unfold rhoL; simp -implicitDefEqProofs only [List.map, param, List.length_cons, List.length_nil, s_cons, s_nil, s_iff, s_asg, s_par, s_drop, s_app, s_for, s_whl, s_kill, s_brk, s_cnt, s_pass, s_nev, s_retv, s_retN, r_lit, r_con, r_op, r_call, r_and, r_or, r_ife, r_chain, r_lst, r_tup, r_lc, rv, y_op, y_call, y_and, y_or, y_ife, y_chain, y_one, y_more, y_lst, y_tup, y_nil, y_cons, y_pnil, y_pcons, y_var, y_lit, y_con, y_ex, y_rng1, y_rng2, y_enum, y_zip, Nat.sub_self, List.replicate, List.cons_append, List.nil_append, List.append_nil, List.getElem?_cons_zero, List.getElem?_cons_succ, vr_sh, vr_own, vr_top, Option.bind_some, Option.map_some, Option.bind_none, Option.map_none, f_le, f_lt, f_gt, f_ge, boolD_some, cho_some, nmS_boolD, nmS_int, nmS_str, nmS_none, nmS_nil, Nat.reduceSub, Nat.reduceAdd, Nat.reduceLT, Nat.reduceLeDiff, ite_b, ite_true, ite_false, if_true, if_false, Bool.false_eq_true, o_neg', o_not', o_add', o_sub', o_mul', o_div', o_mod', o_abs', o_int', o_intb', o_min', o_max', o_gcd', o_lt', o_le', o_gt', o_ge', o_eq', o_ne', o_lenl, o_lent, o_idxl, o_idxt, o_isn', o_isnn', t_bool, t_int, nxt_nx, nxt_rt, nxt_bk, nxt_ct, nxt_if, rb_rt, rb_nx, rb_if, p_nm, p_tup, p_lst, p_nil, p_cons, cmO, c_nm, c_tup, c_lst, c_nil, c_cons, stO, Ow.tags, frz_n, frz_c, ff_nil, ff_cons, f1_none, f1_sh, f1_top, f1_own, w_nil, w_cons, List.set_cons_zero, List.set_cons_succ, intD, lstD, lvl, forF, whlC, lcF, and_self, Bool.not_eq_true', decide_eq_true_eq, decide_eq_false_iff_not, Bool.and_eq_true, Bool.and_eq_false_imp, and_true, true_and, own_q, oq_own, oq_top, put_o, put_t, io_int, io_bool, io_str, io_own, hasT_n, hasT_c, Nat.reduceBEq, Bool.false_and, Bool.and_false, Bool.true_and, Bool.and_true, Bool.or_false, Bool.false_or, Bool.or_true, Bool.true_or, beq_self_eq_true, not_true_eq_false, not_false_eq_true, List.append_assoc, dl_e, dt_e, ta_n, ta_c, List.all_cons, List.all_nil, Nat.zero_le, call_q, cq_0, cq_1, cq_2, atD_0, atD_1, vr_pair, nmS_pair, si_list, si_tup, y_lc, reduceCtorEq, y_tcons, y_tnil, ite_sb, pk_var, pq_sh, pq_top, pq_own, pk_op, pk_call, pk_lit, pk_con, pk_lst, pk_tup, pk_lc, pk_ife, pk_or, pk_and, nmS_list, nmT_ints, nmT_snoc, vr_int, vr_bool, vr_str, vr_none, o_rev, o_slc1, t_none, t_list, t_tup, isn_none, isn_int, isn_tup, isn_list, isn_bool, io_none, o_addl, List.isEmpty_cons, List.isEmpty_nil, s_par3, s_appK, s_ret2, r2_own, s_appM, s_forT, io_lsh, io_top, bq_ft, bq_tf]) (List.range (l + 1 - f)) 0 _ rfl (fun j x ρ hx e => ?_)
    · obtain ⟨ρ', e, e2⟩ := key
      have pta : (partOf cs f l dd).take (l + 1 - f) = partOf cs f l dd := List.take_of_length_le (by rw [part_len]; exact Nat.le_refl _)
      rw [e2, List.length_range, Nat.zero_add, cutP_all _ _ _ _ ok.1, pta, cutP_0] at e
      have el : lays [.cut f l dd] = [] := rfl
      have et : (rs ++ tkD cs (.cut f l dd)).map encPart = rs.map encPart ++ [.list ((partOf cs f l dd).map encQ)] := by rw [List.map_append]; rfl
      have am : ∀ ρ : Rho, appMQ 10 15 ρ (some (some (.list (rs.map encPart), .own))) (some (some (.list ((partOf cs f l dd).map encQ), .own))) = some (.nx ((ρ.set 15 none).set 10 (some (.list (rs.map encPart ++ [.list ((partOf cs f l dd).map encQ)]), .own)))) := fun ρ => am_own (by decide) (by rw [List.length_map]; omega)
      have es : stepD cs ls.length (.cut f l dd) = cs.mapIdx (cutC f l dd) := rfl
      have e0 : ([] : List D) = ((partOf cs f l dd).take 0).map encQ := rfl
      rw [el, et, es, List.append_nil]
      unfold rhoL at *
      unfold b4_law
      rw [List.take_zero, List.map_nil] at e
      apply Exists.intro
      apply And.intro
      · simp -implicitDefEqProofs only [List.map, param, List.length_cons, List.length_nil, s_cons, s_nil, s_iff, s_asg, s_par, s_drop, s_app, s_for, s_whl, s_kill, s_brk, s_cnt, s_pass, s_nev, s_retv, s_retN, r_lit, r_con, r_op, r_call, r_and, r_or, r_ife, r_chain, r_lst, r_tup, r_lc, rv, y_op, y_call, y_and, y_or, y_ife, y_chain, y_one, y_more, y_lst, y_tup, y_nil, y_cons, y_pnil, y_pcons, y_var, y_lit, y_con, y_ex, y_rng1, y_rng2, y_enum, y_zip, Nat.sub_self, List.replicate, List.cons_append, List.nil_append, List.append_nil, List.getElem?_cons_zero, List.getElem?_cons_succ, vr_sh, vr_own, vr_top, Option.bind_some, Option.map_some, Option.bind_none, Option.map_none, f_le, f_lt, f_gt, f_ge, boolD_some, cho_some, nmS_boolD, nmS_int, nmS_str, nmS_none, nmS_nil, Nat.reduceSub, Nat.reduceAdd, Nat.reduceLT, Nat.reduceLeDiff, ite_b, ite_true, ite_false, if_true, if_false, Bool.false_eq_true, o_neg', o_not', o_add', o_sub', o_mul', o_div', o_mod', o_abs', o_int', o_intb', o_min', o_max', o_gcd', o_lt', o_le', o_gt', o_ge', o_eq', o_ne', o_lenl, o_lent, o_idxl, o_idxt, o_isn', o_isnn', t_bool, t_int, nxt_nx, nxt_rt, nxt_bk, nxt_ct, nxt_if, rb_rt, rb_nx, rb_if, p_nm, p_tup, p_lst, p_nil, p_cons, cmO, c_nm, c_tup, c_lst, c_nil, c_cons, stO, Ow.tags, frz_n, frz_c, ff_nil, ff_cons, f1_none, f1_sh, f1_top, f1_own, w_nil, w_cons, List.set_cons_zero, List.set_cons_succ, intD, lstD, lvl, forF, whlC, lcF, and_self, Bool.not_eq_true', decide_eq_true_eq, decide_eq_false_iff_not, Bool.and_eq_true, Bool.and_eq_false_imp, and_true, true_and, own_q, oq_own, oq_top, put_o, put_t, io_int, io_bool, io_str, io_own, hasT_n, hasT_c, Nat.reduceBEq, Bool.false_and, Bool.and_false, Bool.true_and, Bool.and_true, Bool.or_false, Bool.false_or, Bool.or_true, Bool.true_or, beq_self_eq_true, not_true_eq_false, not_false_eq_true, List.append_assoc, dl_e, dt_e, ta_n, ta_c, List.all_cons, List.all_nil, Nat.zero_le, call_q, cq_0, cq_1, cq_2, atD_0, atD_1, vr_pair, nmS_pair, si_list, si_tup, y_lc, reduceCtorEq, y_tcons, y_tnil, ite_sb, pk_var, pq_sh, pq_top, pq_own, pk_op, pk_call, pk_lit, pk_con, pk_lst, pk_tup, pk_lc, pk_ife, pk_or, pk_and, nmS_list, nmT_ints, nmT_snoc, vr_int, vr_bool, vr_str, vr_none, o_rev, o_slc1, t_none, t_list, t_tup, isn_none, isn_int, isn_tup, isn_list, isn_bool, io_none, o_addl, List.isEmpty_cons, List.isEmpty_nil, s_par3, s_appK, s_ret2, r2_own, s_appM, s_forT, io_lsh, io_top, bq_ft, bq_tf, nd, ix_word, eq_word, isLay, i1, i2, r1, r2, en, er, e, am]
        rfl
      · simp -implicitDefEqProofs only [List.map, param, List.length_cons, List.length_nil, s_cons, s_nil, s_iff, s_asg, s_par, s_drop, s_app, s_for, s_whl, s_kill, s_brk, s_cnt, s_pass, s_nev, s_retv, s_retN, r_lit, r_con, r_op, r_call, r_and, r_or, r_ife, r_chain, r_lst, r_tup, r_lc, rv, y_op, y_call, y_and, y_or, y_ife, y_chain, y_one, y_more, y_lst, y_tup, y_nil, y_cons, y_pnil, y_pcons, y_var, y_lit, y_con, y_ex, y_rng1, y_rng2, y_enum, y_zip, Nat.sub_self, List.replicate, List.cons_append, List.nil_append, List.append_nil, List.getElem?_cons_zero, List.getElem?_cons_succ, vr_sh, vr_own, vr_top, Option.bind_some, Option.map_some, Option.bind_none, Option.map_none, f_le, f_lt, f_gt, f_ge, boolD_some, cho_some, nmS_boolD, nmS_int, nmS_str, nmS_none, nmS_nil, Nat.reduceSub, Nat.reduceAdd, Nat.reduceLT, Nat.reduceLeDiff, ite_b, ite_true, ite_false, if_true, if_false, Bool.false_eq_true, o_neg', o_not', o_add', o_sub', o_mul', o_div', o_mod', o_abs', o_int', o_intb', o_min', o_max', o_gcd', o_lt', o_le', o_gt', o_ge', o_eq', o_ne', o_lenl, o_lent, o_idxl, o_idxt, o_isn', o_isnn', t_bool, t_int, nxt_nx, nxt_rt, nxt_bk, nxt_ct, nxt_if, rb_rt, rb_nx, rb_if, p_nm, p_tup, p_lst, p_nil, p_cons, cmO, c_nm, c_tup, c_lst, c_nil, c_cons, stO, Ow.tags, frz_n, frz_c, ff_nil, ff_cons, f1_none, f1_sh, f1_top, f1_own, w_nil, w_cons, List.set_cons_zero, List.set_cons_succ, intD, lstD, lvl, forF, whlC, lcF, and_self, Bool.not_eq_true', decide_eq_true_eq, decide_eq_false_iff_not, Bool.and_eq_true, Bool.and_eq_false_imp, and_true, true_and, own_q, oq_own, oq_top, put_o, put_t, io_int, io_bool, io_str, io_own, hasT_n, hasT_c, Nat.reduceBEq, Bool.false_and, Bool.and_false, Bool.true_and, Bool.and_true, Bool.or_false, Bool.false_or, Bool.or_true, Bool.true_or, beq_self_eq_true, not_true_eq_false, not_false_eq_true, List.append_assoc, dl_e, dt_e, ta_n, ta_c, List.all_cons, List.all_nil, Nat.zero_le, call_q, cq_0, cq_1, cq_2, atD_0, atD_1, vr_pair, nmS_pair, si_list, si_tup, y_lc, reduceCtorEq, y_tcons, y_tnil, ite_sb, pk_var, pq_sh, pq_top, pq_own, pk_op, pk_call, pk_lit, pk_con, pk_lst, pk_tup, pk_lc, pk_ife, pk_or, pk_and, nmS_list, nmT_ints, nmT_snoc, vr_int, vr_bool, vr_str, vr_none, o_rev, o_slc1, t_none, t_list, t_tup, isn_none, isn_int, isn_tup, isn_list, isn_bool, io_none, o_addl, List.isEmpty_cons, List.isEmpty_nil, s_par3, s_appK, s_ret2, r2_own, s_appM, s_forT, io_lsh, io_top, bq_ft, bq_tf]
    · subst e
      obtain ⟨jl, rfl⟩ : j < l + 1 - f ∧ x = j := by
        obtain ⟨h1, h2⟩ := List.getElem?_eq_some_iff.mp hx
        rw [List.length_range] at h1
        rw [List.getElem_range] at h2
        exact ⟨h1, h2.symm⟩
      rw [Nat.zero_add]
      obtain ⟨ρ', c1, c2⟩ := cut1_ok (Φ := Φ) (W := W) w a0 dr [] ks dl cs hcs hw hb f l dd ok ls (rs.map encPart) x jl
      exact ⟨ρ', .inl c1, c2⟩
theorem okAll_init {w : Nat} {l : List Deed} {a : Deed} (ho : okAll w (l ++ [a])) : okAll w l ∧ okD w (St w l).1 a := by
  constructor
  · intro i d hd
    have hi := (List.getElem?_eq_some_iff.mp hd).1
    have := ho i d (by rw [List.getElem?_append_left hi]; exact hd)
    rwa [List.take_append_of_le_length (by omega)] at this
  · have := ho l.length a (by rw [List.getElem?_append_right (Nat.le_refl _), Nat.sub_self]; rfl)
    rwa [List.take_left] at this
theorem lays_bd (w : Nat) : ∀ ds : List Deed, okAll w ds → ∀ m ∈ lays ds, 1 ≤ m ∧ m ≤ 9 := by
  refine snoc_ind _ (fun _ m h => by cases h) fun l a ih ho m hm => ?_
  obtain ⟨h1, h2⟩ := okAll_init ho
  rw [lays_app] at hm
  rcases List.mem_append.mp hm with z | z
  · exact ih h1 m z
  · cases a with
    | lay n =>
      have : m = n := by simpa [lays] using z
      rw [this]
      exact h2
    | cut _ _ _ => cases z
theorem col_bd (w : Nat) (ds : List Deed) (ho : okAll w ds) : ∀ col ∈ (St w ds).1, ∀ m ∈ col, m.1 ≤ 9 ∧ m.2 < ds.length := fun col hc m hm => by
  have h := (St_colOk w ds col hc).2 m hm
  have h1 := (List.getElem?_eq_some_iff.mp h).1
  have h2 := lays_len ds
  exact ⟨(lays_bd w ds ho m.1 (List.mem_of_getElem? h)).2, by omega⟩
theorem tk_bd (w : Nat) : ∀ ds : List Deed, okAll w ds → (tk w ds).length ≤ ds.length ∧ ∀ p ∈ tk w ds, p.length ≤ w ∧ ∀ q ∈ p, q.1 < w ∧ q.2.length ≤ ds.length ∧ ∀ m ∈ q.2, m ≤ 9 := by
  refine snoc_ind _ (fun _ => ⟨Nat.le_refl _, fun p h => by cases h⟩) fun l a ih ho => ?_
  obtain ⟨h1, h2⟩ := okAll_init ho
  obtain ⟨i1, i2⟩ := ih h1
  rw [tk_snoc, List.length_append, List.length_append, List.length_singleton]
  constructor
  · cases a <;> simp [tkD] <;> omega
  · intro p hp
    rcases List.mem_append.mp hp with z | z
    · obtain ⟨a1, a2⟩ := i2 p z
      refine ⟨a1, fun q hq => ?_⟩
      obtain ⟨b1, b2, b3⟩ := a2 q hq
      exact ⟨b1, by omega, b3⟩
    · cases a with
      | lay m => cases z
      | cut f l2 d =>
        obtain ⟨o1, o2, o3, o4⟩ := h2
        have e : p = partOf (St w l).1 f l2 d := by simpa [tkD] using z
        rw [e]
        refine ⟨by rw [part_len]; omega, fun q hq => ?_⟩
        unfold partOf at hq
        obtain ⟨i, hi, rfl⟩ := List.mem_map.mp hq
        have hi' := List.mem_range.mp hi
        have gc : (St w l).1[f + i]? = some ((St w l).1.getD (f + i) []) := by
          rw [List.getD_eq_getElem?_getD, List.getElem?_eq_getElem (by rw [St_len]; omega)]
          rfl
        have mc := List.mem_of_getElem? gc
        refine ⟨by show f + i < w; omega, ?_, ?_⟩
        · show (marks _).length ≤ _
          unfold marks
          rw [List.length_map, List.length_drop]
          have := St_bd w l _ mc
          omega
        · intro m hm
          obtain ⟨mk, h3, rfl⟩ := List.mem_map.mp hm
          exact (col_bd w l h1 _ mc mk (List.mem_of_mem_drop h3)).1
theorem wee_lay : weeD (.str "lay") = true := by decide +kernel
theorem wee_cut : weeD (.str "cut") = true := by decide +kernel
theorem wee_ns (xs : List Nat) (h : ∀ x ∈ xs, x ≤ 99) : weeD (encNs xs) = true := by
  unfold encNs weeD
  exact wees_map _ fun x hx => wee_int (by omega) (by have := h x hx; omega)
theorem dep_ns (xs : List Nat) : (encNs xs).depth ≤ 1 := by
  unfold encNs PyData.depth
  have := depth_map (enc := fun (n : Nat) => PyData.int (n : Int)) 0 xs (fun _ _ => by rw [depth_int]; exact Nat.le_refl _)
  omega
theorem nod_ns (xs : List Nat) : nodes (encNs xs) ≤ 1 + xs.length := by
  show 1 + nodesAll _ ≤ _
  have := nodes_map (enc := fun (n : Nat) => PyData.int (n : Int)) 1 xs (fun _ _ => Nat.le_refl _)
  omega
theorem wee_sec (s : List (List Nat)) (h : ∀ c ∈ s, ∀ x ∈ c, x ≤ 99) : weeD (encSec s) = true := by
  unfold encSec weeD
  exact wees_map _ fun c hc => wee_ns c (h c hc)
theorem dep_sec (s : List (List Nat)) : (encSec s).depth ≤ 2 := by
  unfold encSec PyData.depth
  have := depth_map (enc := encNs) 1 s (fun c _ => dep_ns c)
  omega
theorem nod_sec (s : List (List Nat)) (k : Nat) (h : ∀ c ∈ s, c.length ≤ k) : nodes (encSec s) ≤ 1 + (1 + k) * s.length := by
  show 1 + nodesAll _ ≤ _
  have := nodes_map (enc := encNs) (1 + k) s (fun c hc => by have := nod_ns c; have := h c hc; omega)
  omega
theorem wee_q (q : Nat × List Nat) (h1 : q.1 ≤ 99) (h2 : ∀ m ∈ q.2, m ≤ 99) : weeD (encQ q) = true := by
  show (weeD (.int (q.1 : Int)) && (weeD (encNs q.2) && true)) = true
  rw [wee_int (by omega) (by omega), wee_ns q.2 h2]
  rfl
theorem dep_q (q : Nat × List Nat) : (encQ q).depth ≤ 2 := by
  have := dep_ns q.2
  unfold encQ PyData.depth PyData.depthAll PyData.depthAll PyData.depthAll
  rw [depth_int]
  omega
theorem nod_q (q : Nat × List Nat) : nodes (encQ q) ≤ 3 + q.2.length := by
  have := nod_ns q.2
  show 1 + (1 + (nodes (encNs q.2) + 0)) ≤ _
  omega
theorem tk_wee (w : Nat) (hw : w ≤ 4) (ds : List Deed) (hn : ds.length ≤ 41) (ho : okAll w ds) : weeD (encTk (tk w ds)) = true ∧ (encTk (tk w ds)).depth ≤ 64 ∧ nodes (encTk (tk w ds)) ≤ 7500 := by
  obtain ⟨h1, h2⟩ := tk_bd w ds ho
  refine ⟨?_, ?_, ?_⟩
  · unfold encTk weeD
    refine wees_map _ fun p hp => ?_
    unfold encPart weeD
    refine wees_map _ fun q hq => ?_
    obtain ⟨a, b, c⟩ := (h2 p hp).2 q hq
    exact wee_q q (by omega) fun m hm => by have := c m hm; omega
  · unfold encTk PyData.depth
    have := depth_map (enc := encPart) 3 (tk w ds) (fun p _ => by
      unfold encPart PyData.depth
      have := depth_map (enc := encQ) 2 p (fun q _ => dep_q q)
      omega)
    omega
  · show 1 + nodesAll ((tk w ds).map encPart) ≤ _
    have := nodes_map (enc := encPart) 180 (tk w ds) (fun p hp => by
      show 1 + nodesAll (p.map encQ) ≤ _
      have := nodes_map (enc := encQ) 44 p (fun q hq => by
        have := nod_q q
        have := ((h2 p hp).2 q hq).2.1
        omega)
      have := (h2 p hp).1
      omega)
    omega
theorem sec_bd (w : Nat) (ds : List Deed) (ho : okAll w ds) : ∀ c ∈ secV w ds, c.length ≤ ds.length ∧ ∀ x ∈ c, x ≤ 9 := fun c hc => by
  obtain ⟨col, h1, rfl⟩ := List.mem_map.mp hc
  refine ⟨by unfold marks; rw [List.length_map]; exact St_bd w ds col h1, fun x hx => ?_⟩
  obtain ⟨m, h2, rfl⟩ := List.mem_map.mp hx
  exact (col_bd w ds ho col h1 m h2).1
theorem num_bd (w : Nat) (ds : List Deed) (ho : okAll w ds) : ∀ c ∈ numV w ds, c.length ≤ ds.length ∧ ∀ x ∈ c, x < ds.length := fun c hc => by
  obtain ⟨col, h1, rfl⟩ := List.mem_map.mp hc
  refine ⟨by rw [List.length_map]; exact St_bd w ds col h1, fun x hx => ?_⟩
  obtain ⟨m, h2, rfl⟩ := List.mem_map.mp hx
  exact (col_bd w ds ho col h1 m h2).2
theorem sec_len (w : Nat) (ds : List Deed) : (secV w ds).length = w := by unfold secV; rw [List.length_map, St_len]
theorem num_len (w : Nat) (ds : List Deed) : (numV w ds).length = w := by unfold numV; rw [List.length_map, St_len]
theorem sec_wee (w : Nat) (hw : w ≤ 4) (ds : List Deed) (hn : ds.length ≤ 41) (ho : okAll w ds) : weeD (encSec (secV w ds)) = true ∧ (encSec (secV w ds)).depth ≤ 64 ∧ nodes (encSec (secV w ds)) ≤ 7500 := by
  have h := sec_bd w ds ho
  refine ⟨wee_sec _ fun c hc x hx => by have := (h c hc).2 x hx; omega, by have := dep_sec (secV w ds); omega, ?_⟩
  have := nod_sec (secV w ds) 41 fun c hc => by have := (h c hc).1; omega
  rw [sec_len] at this
  omega
theorem acc_wee (w : Nat) (hw : w ≤ 4) (ds : List Deed) (hn : ds.length ≤ 41) (ho : okAll w ds) : weeD (encAcc w ds) = true ∧ (encAcc w ds).depth ≤ 64 ∧ nodes (encAcc w ds) ≤ 7500 := by
  have h := num_bd w ds ho
  have hl := lays_bd w ds ho
  have hll := lays_len ds
  refine ⟨?_, ?_, ?_⟩
  · show (weeD (encNs (lays ds)) && (weeD (encSec (numV w ds)) && true)) = true
    rw [wee_ns _ fun m hm => by have := hl m hm; omega, wee_sec _ fun c hc x hx => by have := (h c hc).2 x hx; omega]
    rfl
  · have := dep_sec (numV w ds)
    have := dep_ns (lays ds)
    unfold encAcc PyData.depth PyData.depthAll PyData.depthAll PyData.depthAll
    omega
  · have := nod_sec (numV w ds) 41 fun c hc => by have := (h c hc).1; omega
    rw [num_len] at this
    have := nod_ns (lays ds)
    show 1 + (nodes (encNs (lays ds)) + (nodes (encSec (numV w ds)) + 0)) ≤ _
    omega
theorem deed_wee (w : Nat) (hw : w ≤ 4) (d : Deed) (h : okS w d) (hd : ∀ f l dd, d = .cut f l dd → dd ≤ 99) : weeD (encD d) = true := by
  cases d with
  | lay m =>
    show (weeD (.str "lay") && (weeD (.int (m : Int)) && true)) = true
    rw [wee_lay, wee_int (by omega) (by have := h.2; omega)]
    rfl
  | cut f l dd =>
    obtain ⟨h1, h2, h3⟩ := h
    have := hd f l dd rfl
    show (weeD (.str "cut") && (weeD (.int (f : Int)) && (weeD (.int (l : Int)) && (weeD (.int (dd : Int)) && true)))) = true
    rw [wee_cut, wee_int (by omega) (by omega), wee_int (by omega) (by omega), wee_int (by omega) (by omega)]
    rfl
theorem ds_wee (w : Nat) (hw : w ≤ 4) (ds : List Deed) (hn : ds.length ≤ 41) (ho : okAll w ds) : weeD (encDs ds) = true ∧ (encDs ds).depth ≤ 64 ∧ nodes (encDs ds) ≤ 7500 := by
  refine ⟨?_, ?_, ?_⟩
  · unfold encDs weeD
    refine wees_map _ fun d hd => ?_
    obtain ⟨i, hi⟩ := List.mem_iff_getElem?.mp hd
    have ok := ho i d hi
    refine deed_wee w hw d (okS_of ok) fun f l dd e => ?_
    subst e
    obtain ⟨o1, o2, o3, o4⟩ := ok
    have gc : (St w (ds.take i)).1[f]? = some ((St w (ds.take i)).1.getD f []) := by
      rw [List.getD_eq_getElem?_getD, List.getElem?_eq_getElem (by rw [St_len]; omega)]
      rfl
    have h1 := o4 f _ gc (by unfold inC; simp; omega)
    have h2 := St_bd w (ds.take i) _ (List.mem_of_getElem? gc)
    rw [List.length_take] at h2
    omega
  · unfold encDs PyData.depth
    have := depth_map (enc := encD) 1 ds (fun d _ => by
      cases d <;> simp [encD, PyData.depth, PyData.depthAll])
    omega
  · show 1 + nodesAll (ds.map encD) ≤ _
    have := nodes_map (enc := encD) 5 ds (fun d _ => by
      cases d with
      | lay m => exact (by decide : 3 ≤ 5)
      | cut a b c => exact (by decide : 5 ≤ 5))
    omega
end
end Cl
namespace Cl
open PySem L2 Z
/-! ### k10: the law's end -/
section
variable {Φ : Fn} {W : Nat} {ρ : Rho} {k : List Nat}
theorem walk_ok (w : Nat) (hw : w ≤ 4) (a0 : Option R) (dr : List D) (ks : Str) (ds : List Deed) (hn : ds.length ≤ 40) (ok : okAll w ds) :
    forRun (forF Φ W (.nm 5) b4_law) [0, 5, 7, 15] (ds.map encD) (rhoL a0 dr w (ds.map encD) ks none none (List.replicate w []) [] [] none) =
      some (.nx (rhoL none dr w (ds.map encD) ks none none (St w ds).1 (lays ds) ((tk w ds).map encPart) none)) := by
  have key := for_invw (k := [0, 5, 7, 15]) encD (fun i ρ => ∃ a0, ρ = rhoL a0 dr w (ds.map encD) ks none none (St w (ds.take i)).1 (lays (ds.take i)) ((tk w (ds.take i)).map encPart) none)
    (forF Φ W (.nm 5) b4_law) ds 0 (rhoL a0 dr w (ds.map encD) ks none none (List.replicate w []) [] [] none) ⟨a0, rfl⟩ (fun j d ρ hd hI => ?_)
  · obtain ⟨ρ', e1, b0, e2⟩ := key
    rw [Nat.zero_add, List.take_length] at e2
    rw [e1, e2]
    unfold rhoL
    simp -implicitDefEqProofs only [List.map, param, List.length_cons, List.length_nil, s_cons, s_nil, s_iff, s_asg, s_par, s_drop, s_app, s_for, s_whl, s_kill, s_brk, s_cnt, s_pass, s_nev, s_retv, s_retN, r_lit, r_con, r_op, r_call, r_and, r_or, r_ife, r_chain, r_lst, r_tup, r_lc, rv, y_op, y_call, y_and, y_or, y_ife, y_chain, y_one, y_more, y_lst, y_tup, y_nil, y_cons, y_pnil, y_pcons, y_var, y_lit, y_con, y_ex, y_rng1, y_rng2, y_enum, y_zip, Nat.sub_self, List.replicate, List.cons_append, List.nil_append, List.append_nil, List.getElem?_cons_zero, List.getElem?_cons_succ, vr_sh, vr_own, vr_top, Option.bind_some, Option.map_some, Option.bind_none, Option.map_none, f_le, f_lt, f_gt, f_ge, boolD_some, cho_some, nmS_boolD, nmS_int, nmS_str, nmS_none, nmS_nil, Nat.reduceSub, Nat.reduceAdd, Nat.reduceLT, Nat.reduceLeDiff, ite_b, ite_true, ite_false, if_true, if_false, Bool.false_eq_true, o_neg', o_not', o_add', o_sub', o_mul', o_div', o_mod', o_abs', o_int', o_intb', o_min', o_max', o_gcd', o_lt', o_le', o_gt', o_ge', o_eq', o_ne', o_lenl, o_lent, o_idxl, o_idxt, o_isn', o_isnn', t_bool, t_int, nxt_nx, nxt_rt, nxt_bk, nxt_ct, nxt_if, rb_rt, rb_nx, rb_if, p_nm, p_tup, p_lst, p_nil, p_cons, cmO, c_nm, c_tup, c_lst, c_nil, c_cons, stO, Ow.tags, frz_n, frz_c, ff_nil, ff_cons, f1_none, f1_sh, f1_top, f1_own, w_nil, w_cons, List.set_cons_zero, List.set_cons_succ, intD, lstD, lvl, forF, whlC, lcF, and_self, Bool.not_eq_true', decide_eq_true_eq, decide_eq_false_iff_not, Bool.and_eq_true, Bool.and_eq_false_imp, and_true, true_and, own_q, oq_own, oq_top, put_o, put_t, io_int, io_bool, io_str, io_own, hasT_n, hasT_c, Nat.reduceBEq, Bool.false_and, Bool.and_false, Bool.true_and, Bool.and_true, Bool.or_false, Bool.false_or, Bool.or_true, Bool.true_or, beq_self_eq_true, not_true_eq_false, not_false_eq_true, List.append_assoc, dl_e, dt_e, ta_n, ta_c, List.all_cons, List.all_nil, Nat.zero_le, call_q, cq_0, cq_1, cq_2, atD_0, atD_1, vr_pair, nmS_pair, si_list, si_tup, y_lc, reduceCtorEq, y_tcons, y_tnil, ite_sb, pk_var, pq_sh, pq_top, pq_own, pk_op, pk_call, pk_lit, pk_con, pk_lst, pk_tup, pk_lc, pk_ife, pk_or, pk_and, nmS_list, nmT_ints, nmT_snoc, vr_int, vr_bool, vr_str, vr_none, o_rev, o_slc1, t_none, t_list, t_tup, isn_none, isn_int, isn_tup, isn_list, isn_bool, io_none, o_addl, List.isEmpty_cons, List.isEmpty_nil, s_par3, s_appK, s_ret2, r2_own, s_appM, s_forT, io_lsh, io_top, bq_ft, bq_tf]
  · obtain ⟨b0, rfl⟩ := hI
    rw [Nat.zero_add]
    have jl := (List.getElem?_eq_some_iff.mp hd).1
    have okj := ok j d hd
    have et : ds.take (j + 1) = ds.take j ++ [d] := by rw [List.take_add_one, hd]; rfl
    have tl : (tk w (ds.take j)).length ≤ 40 := by
      have gen : ∀ l : List Deed, (tk w l).length ≤ l.length := by
        refine snoc_ind _ (Nat.le_refl _) fun l a ih => ?_
        rw [tk_snoc, List.length_append, List.length_append, List.length_singleton]
        cases a <;> simp [tkD] <;> omega
      have := gen (ds.take j)
      rw [List.length_take] at this
      omega
    have ll : (lays (ds.take j)).length ≤ 40 := by
      have := lays_len (ds.take j)
      rw [List.length_take] at this
      omega
    obtain ⟨ρ', c1, c2⟩ := step_ok (Φ := Φ) (W := W) w (by omega) b0 dr ks (ds.map encD) (St w (ds.take j)).1 (St_len w _) (fun c hc => by
      have := St_bd w (ds.take j) c hc
      rw [List.length_take] at this
      omega) d okj (lays (ds.take j)) (by omega) (tk w (ds.take j)) (by omega)
    refine ⟨ρ', c1, none, ?_⟩
    rw [c2, et, St_snoc, lays_app, tk_snoc, St_num]
theorem isnt_true (g h : List Tag) : opR .isnt [(.bool true, g), (.bool true, h)] = some (.bool false, .sh []) := by
  simp only [opR, opF, List.map, oIs, nmS_boolD]
  rfl
/-- the law's slots behind the walk -/
def rhoE (dr : List D) (w : Nat) (dl : List D) (ks : Str) (sec : List (List Nat)) (a7 : Option R) (cs : List Col) (ls : List Nat) (rw' : List D) (x11 x12 x13 a14 a15 a17 a18 : Option R) : Rho :=
  [none, some (.list dr, .own), some (.int (w : Int), .sh []), some (.list dl, .own), some (.str ks, .sh []), none, some (encSec sec, .own), a7, some (encCols cs, .own), some (encNs ls, .own), some (.list rw', .own), x11, x12, x13, a14, a15, none, a17, a18, none, none]
def nsD (xs : List Nat) : List D := xs.map fun (n : Nat) => .int (n : Int)
theorem nT_ns (xs : List Nat) (g : List Tag) : nmT (.list (nsD xs)) g = .own := nmT_map (fun _ => rfl) xs
theorem fl_ns (xs : List Nat) : flats (nsD xs) = true := flats_map (fun _ => rfl) xs
theorem add_ns (a b : List Nat) (h : a.length + b.length ≤ 1000000) (g k : List Tag) : opR .add [(.list (nsD a), g), (.list (nsD b), k)] = some (.list (nsD (a ++ b)), .own) := by
  have e : nsD a ++ nsD b = nsD (a ++ b) := by unfold nsD; rw [List.map_append]
  have l : (nsD a).length + (nsD b).length ≤ 1000000 := by unfold nsD; rw [List.length_map, List.length_map]; exact h
  rw [o_addl, if_pos l, e, nT_ns]
theorem b0_ok (ρ1 : List (Option R)) (r2 : List (Option R)) (c : Nat) (acc : List Nat) (p : List (Nat × List Nat)) (hp : ∀ q ∈ p, q.2.length ≤ 100) (n : Nat) (hn : acc.length + 100 * p.length ≤ 900000)
    (x0 x1 x2 x3 x4 x5 x6 x8 x9 x10 x11 x12 x13 x15 x16 x19 x20 : Option R) :
    ∃ ρ', forRun (forF Φ W (.tp (.cons (.nm 17) (.cons (.nm 18) .nil))) b0_law) [17, 18] (p.map encQ) [x0, x1, x2, x3, x4, x5, x6, some (.int (c : Int), .sh []), x8, x9, x10, x11, x12, x13, some (.list (nsD acc), .own), x15, x16, none, none, x19, x20] = some (.nx ρ') ∧
      ρ' = [x0, x1, x2, x3, x4, x5, x6, some (.int (c : Int), .sh []), x8, x9, x10, x11, x12, x13, some (.list (nsD (acc ++ p.flatMap (atC c))), .own), x15, x16, none, none, x19, x20] := by
  have key := for_inv (k := [17, 18]) encQ (fun i ρ => ρ = [x0, x1, x2, x3, x4, x5, x6, some (.int (c : Int), .sh []), x8, x9, x10, x11, x12, x13, some (.list (nsD (acc ++ (p.take i).flatMap (atC c))), .own), x15, x16, none, none, x19, x20])
    (forF Φ W (.tp (.cons (.nm 17) (.cons (.nm 18) .nil))) b0_law) (fun i ρ e => by rw [e]; simp -implicitDefEqProofs only [List.map, param, List.length_cons, List.length_nil, s_cons, s_nil, s_iff, s_asg, s_par, s_drop, s_app, s_for, s_whl, s_kill, s_brk, s_cnt, s_pass, s_nev, s_retv, s_retN, r_lit, r_con, r_op, r_call, r_and, r_or, r_ife, r_chain, r_lst, r_tup, r_lc, rv, y_op, y_call, y_and, y_or, y_ife, y_chain, y_one, y_more, y_lst, y_tup, y_nil, y_cons, y_pnil, y_pcons, y_var, y_lit, y_con, y_ex, y_rng1, y_rng2, y_enum, y_zip, Nat.sub_self, List.replicate, List.cons_append, List.nil_append, List.append_nil, List.getElem?_cons_zero, List.getElem?_cons_succ, vr_sh, vr_own, vr_top, Option.bind_some, Option.map_some, Option.bind_none, Option.map_none, f_le, f_lt, f_gt, f_ge, boolD_some, cho_some, nmS_boolD, nmS_int, nmS_str, nmS_none, nmS_nil, Nat.reduceSub, Nat.reduceAdd, Nat.reduceLT, Nat.reduceLeDiff, ite_b, ite_true, ite_false, if_true, if_false, Bool.false_eq_true, o_neg', o_not', o_add', o_sub', o_mul', o_div', o_mod', o_abs', o_int', o_intb', o_min', o_max', o_gcd', o_lt', o_le', o_gt', o_ge', o_eq', o_ne', o_lenl, o_lent, o_idxl, o_idxt, o_isn', o_isnn', t_bool, t_int, nxt_nx, nxt_rt, nxt_bk, nxt_ct, nxt_if, rb_rt, rb_nx, rb_if, p_nm, p_tup, p_lst, p_nil, p_cons, cmO, c_nm, c_tup, c_lst, c_nil, c_cons, stO, Ow.tags, frz_n, frz_c, ff_nil, ff_cons, f1_none, f1_sh, f1_top, f1_own, w_nil, w_cons, List.set_cons_zero, List.set_cons_succ, intD, lstD, lvl, forF, whlC, lcF, and_self, Bool.not_eq_true', decide_eq_true_eq, decide_eq_false_iff_not, Bool.and_eq_true, Bool.and_eq_false_imp, and_true, true_and, own_q, oq_own, oq_top, put_o, put_t, io_int, io_bool, io_str, io_own, hasT_n, hasT_c, Nat.reduceBEq, Bool.false_and, Bool.and_false, Bool.true_and, Bool.and_true, Bool.or_false, Bool.false_or, Bool.or_true, Bool.true_or, beq_self_eq_true, not_true_eq_false, not_false_eq_true, List.append_assoc, dl_e, dt_e, ta_n, ta_c, List.all_cons, List.all_nil, Nat.zero_le, call_q, cq_0, cq_1, cq_2, atD_0, atD_1, vr_pair, nmS_pair, si_list, si_tup, y_lc, reduceCtorEq, y_tcons, y_tnil, ite_sb, pk_var, pq_sh, pq_top, pq_own, pk_op, pk_call, pk_lit, pk_con, pk_lst, pk_tup, pk_lc, pk_ife, pk_or, pk_and, nmS_list, nmT_ints, nmT_snoc, vr_int, vr_bool, vr_str, vr_none, o_rev, o_slc1, t_none, t_list, t_tup, isn_none, isn_int, isn_tup, isn_list, isn_bool, io_none, o_addl, List.isEmpty_cons, List.isEmpty_nil, s_par3, s_appK, s_ret2, r2_own, s_appM, s_forT, io_lsh, io_top, bq_ft, bq_tf]) p 0 [x0, x1, x2, x3, x4, x5, x6, some (.int (c : Int), .sh []), x8, x9, x10, x11, x12, x13, some (.list (nsD acc), .own), x15, x16, none, none, x19, x20] (by simp) (fun j q ρ hq e => ?_)
  · obtain ⟨ρ', e1, e2⟩ := key
    rw [Nat.zero_add, List.take_length] at e2
    exact ⟨ρ', e1, e2⟩
  · subst e
    rw [Nat.zero_add]
    have jl := (List.getElem?_eq_some_iff.mp hq).1
    have et : p.take (j + 1) = p.take j ++ [q] := by rw [List.take_add_one, hq]; rfl
    have mq := hp q (List.mem_of_getElem? hq)
    have bd : ((p.take j).flatMap (atC c)).length ≤ 100 * j := by
      have gen : ∀ l : List (Nat × List Nat), (∀ q ∈ l, q.2.length ≤ 100) → (l.flatMap (atC c)).length ≤ 100 * l.length := fun l => by
        induction l with
        | nil => intro _; exact Nat.le_refl _
        | cons a l ih =>
          intro h
          rw [List.flatMap_cons, List.length_append, List.length_cons]
          have a1 := h a (List.mem_cons_self ..)
          have a2 := ih fun q hq => h q (List.mem_cons_of_mem _ hq)
          have a3 : (atC c a).length ≤ 100 := by
            unfold atC
            split
            · exact a1
            · exact Nat.zero_le _
          omega
      have := gen (p.take j) fun q hq => hp q (List.mem_of_mem_take hq)
      rw [List.length_take] at this
      omega
    have la : (acc ++ (p.take j).flatMap (atC c)).length + q.2.length ≤ 1000000 := by rw [List.length_append]; omega
    have ad := add_ns (acc ++ (p.take j).flatMap (atC c)) q.2 la
    have e2 : acc ++ (p.take (j + 1)).flatMap (atC c) = (acc ++ (p.take j).flatMap (atC c)) ++ atC c q := by
      rw [et, List.flatMap_append, List.append_assoc]
      simp
    rw [e2]
    generalize acc ++ (p.take j).flatMap (atC c) = y at *
    have eq2 : encQ q = .tuple [.int (q.1 : Int), .list (nsD q.2)] := rfl
    rw [eq2]
    unfold b0_law
    by_cases e : q.1 = c
    · have ei : (q.1 : Int) = (c : Int) := by omega
      have ea : atC c q = q.2 := by unfold atC; rw [if_pos e]
      rw [ea]
      apply Exists.intro
      apply And.intro
      · apply Or.inl
        simp -implicitDefEqProofs only [List.map, param, List.length_cons, List.length_nil, s_cons, s_nil, s_iff, s_asg, s_par, s_drop, s_app, s_for, s_whl, s_kill, s_brk, s_cnt, s_pass, s_nev, s_retv, s_retN, r_lit, r_con, r_op, r_call, r_and, r_or, r_ife, r_chain, r_lst, r_tup, r_lc, rv, y_op, y_call, y_and, y_or, y_ife, y_chain, y_one, y_more, y_lst, y_tup, y_nil, y_cons, y_pnil, y_pcons, y_var, y_lit, y_con, y_ex, y_rng1, y_rng2, y_enum, y_zip, Nat.sub_self, List.replicate, List.cons_append, List.nil_append, List.append_nil, List.getElem?_cons_zero, List.getElem?_cons_succ, vr_sh, vr_own, vr_top, Option.bind_some, Option.map_some, Option.bind_none, Option.map_none, f_le, f_lt, f_gt, f_ge, boolD_some, cho_some, nmS_boolD, nmS_int, nmS_str, nmS_none, nmS_nil, Nat.reduceSub, Nat.reduceAdd, Nat.reduceLT, Nat.reduceLeDiff, ite_b, ite_true, ite_false, if_true, if_false, Bool.false_eq_true, o_neg', o_not', o_add', o_sub', o_mul', o_div', o_mod', o_abs', o_int', o_intb', o_min', o_max', o_gcd', o_lt', o_le', o_gt', o_ge', o_eq', o_ne', o_lenl, o_lent, o_idxl, o_idxt, o_isn', o_isnn', t_bool, t_int, nxt_nx, nxt_rt, nxt_bk, nxt_ct, nxt_if, rb_rt, rb_nx, rb_if, p_nm, p_tup, p_lst, p_nil, p_cons, cmO, c_nm, c_tup, c_lst, c_nil, c_cons, stO, Ow.tags, frz_n, frz_c, ff_nil, ff_cons, f1_none, f1_sh, f1_top, f1_own, w_nil, w_cons, List.set_cons_zero, List.set_cons_succ, intD, lstD, lvl, forF, whlC, lcF, and_self, Bool.not_eq_true', decide_eq_true_eq, decide_eq_false_iff_not, Bool.and_eq_true, Bool.and_eq_false_imp, and_true, true_and, own_q, oq_own, oq_top, put_o, put_t, io_int, io_bool, io_str, io_own, hasT_n, hasT_c, Nat.reduceBEq, Bool.false_and, Bool.and_false, Bool.true_and, Bool.and_true, Bool.or_false, Bool.false_or, Bool.or_true, Bool.true_or, beq_self_eq_true, not_true_eq_false, not_false_eq_true, List.append_assoc, dl_e, dt_e, ta_n, ta_c, List.all_cons, List.all_nil, Nat.zero_le, call_q, cq_0, cq_1, cq_2, atD_0, atD_1, vr_pair, nmS_pair, si_list, si_tup, y_lc, reduceCtorEq, y_tcons, y_tnil, ite_sb, pk_var, pq_sh, pq_top, pq_own, pk_op, pk_call, pk_lit, pk_con, pk_lst, pk_tup, pk_lc, pk_ife, pk_or, pk_and, nmS_list, nmT_ints, nmT_snoc, vr_int, vr_bool, vr_str, vr_none, o_rev, o_slc1, t_none, t_list, t_tup, isn_none, isn_int, isn_tup, isn_list, isn_bool, io_none, o_addl, List.isEmpty_cons, List.isEmpty_nil, s_par3, s_appK, s_ret2, r2_own, s_appM, s_forT, io_lsh, io_top, bq_ft, bq_tf, ei, ad, decide_true]
        rfl
      · simp -implicitDefEqProofs only [List.map, param, List.length_cons, List.length_nil, s_cons, s_nil, s_iff, s_asg, s_par, s_drop, s_app, s_for, s_whl, s_kill, s_brk, s_cnt, s_pass, s_nev, s_retv, s_retN, r_lit, r_con, r_op, r_call, r_and, r_or, r_ife, r_chain, r_lst, r_tup, r_lc, rv, y_op, y_call, y_and, y_or, y_ife, y_chain, y_one, y_more, y_lst, y_tup, y_nil, y_cons, y_pnil, y_pcons, y_var, y_lit, y_con, y_ex, y_rng1, y_rng2, y_enum, y_zip, Nat.sub_self, List.replicate, List.cons_append, List.nil_append, List.append_nil, List.getElem?_cons_zero, List.getElem?_cons_succ, vr_sh, vr_own, vr_top, Option.bind_some, Option.map_some, Option.bind_none, Option.map_none, f_le, f_lt, f_gt, f_ge, boolD_some, cho_some, nmS_boolD, nmS_int, nmS_str, nmS_none, nmS_nil, Nat.reduceSub, Nat.reduceAdd, Nat.reduceLT, Nat.reduceLeDiff, ite_b, ite_true, ite_false, if_true, if_false, Bool.false_eq_true, o_neg', o_not', o_add', o_sub', o_mul', o_div', o_mod', o_abs', o_int', o_intb', o_min', o_max', o_gcd', o_lt', o_le', o_gt', o_ge', o_eq', o_ne', o_lenl, o_lent, o_idxl, o_idxt, o_isn', o_isnn', t_bool, t_int, nxt_nx, nxt_rt, nxt_bk, nxt_ct, nxt_if, rb_rt, rb_nx, rb_if, p_nm, p_tup, p_lst, p_nil, p_cons, cmO, c_nm, c_tup, c_lst, c_nil, c_cons, stO, Ow.tags, frz_n, frz_c, ff_nil, ff_cons, f1_none, f1_sh, f1_top, f1_own, w_nil, w_cons, List.set_cons_zero, List.set_cons_succ, intD, lstD, lvl, forF, whlC, lcF, and_self, Bool.not_eq_true', decide_eq_true_eq, decide_eq_false_iff_not, Bool.and_eq_true, Bool.and_eq_false_imp, and_true, true_and, own_q, oq_own, oq_top, put_o, put_t, io_int, io_bool, io_str, io_own, hasT_n, hasT_c, Nat.reduceBEq, Bool.false_and, Bool.and_false, Bool.true_and, Bool.and_true, Bool.or_false, Bool.false_or, Bool.or_true, Bool.true_or, beq_self_eq_true, not_true_eq_false, not_false_eq_true, List.append_assoc, dl_e, dt_e, ta_n, ta_c, List.all_cons, List.all_nil, Nat.zero_le, call_q, cq_0, cq_1, cq_2, atD_0, atD_1, vr_pair, nmS_pair, si_list, si_tup, y_lc, reduceCtorEq, y_tcons, y_tnil, ite_sb, pk_var, pq_sh, pq_top, pq_own, pk_op, pk_call, pk_lit, pk_con, pk_lst, pk_tup, pk_lc, pk_ife, pk_or, pk_and, nmS_list, nmT_ints, nmT_snoc, vr_int, vr_bool, vr_str, vr_none, o_rev, o_slc1, t_none, t_list, t_tup, isn_none, isn_int, isn_tup, isn_list, isn_bool, io_none, o_addl, List.isEmpty_cons, List.isEmpty_nil, s_par3, s_appK, s_ret2, r2_own, s_appM, s_forT, io_lsh, io_top, bq_ft, bq_tf]
    · have ei : ¬ (q.1 : Int) = (c : Int) := by omega
      have ea : atC c q = [] := by unfold atC; rw [if_neg e]
      rw [ea, List.append_nil]
      apply Exists.intro
      apply And.intro
      · apply Or.inl
        simp -implicitDefEqProofs only [List.map, param, List.length_cons, List.length_nil, s_cons, s_nil, s_iff, s_asg, s_par, s_drop, s_app, s_for, s_whl, s_kill, s_brk, s_cnt, s_pass, s_nev, s_retv, s_retN, r_lit, r_con, r_op, r_call, r_and, r_or, r_ife, r_chain, r_lst, r_tup, r_lc, rv, y_op, y_call, y_and, y_or, y_ife, y_chain, y_one, y_more, y_lst, y_tup, y_nil, y_cons, y_pnil, y_pcons, y_var, y_lit, y_con, y_ex, y_rng1, y_rng2, y_enum, y_zip, Nat.sub_self, List.replicate, List.cons_append, List.nil_append, List.append_nil, List.getElem?_cons_zero, List.getElem?_cons_succ, vr_sh, vr_own, vr_top, Option.bind_some, Option.map_some, Option.bind_none, Option.map_none, f_le, f_lt, f_gt, f_ge, boolD_some, cho_some, nmS_boolD, nmS_int, nmS_str, nmS_none, nmS_nil, Nat.reduceSub, Nat.reduceAdd, Nat.reduceLT, Nat.reduceLeDiff, ite_b, ite_true, ite_false, if_true, if_false, Bool.false_eq_true, o_neg', o_not', o_add', o_sub', o_mul', o_div', o_mod', o_abs', o_int', o_intb', o_min', o_max', o_gcd', o_lt', o_le', o_gt', o_ge', o_eq', o_ne', o_lenl, o_lent, o_idxl, o_idxt, o_isn', o_isnn', t_bool, t_int, nxt_nx, nxt_rt, nxt_bk, nxt_ct, nxt_if, rb_rt, rb_nx, rb_if, p_nm, p_tup, p_lst, p_nil, p_cons, cmO, c_nm, c_tup, c_lst, c_nil, c_cons, stO, Ow.tags, frz_n, frz_c, ff_nil, ff_cons, f1_none, f1_sh, f1_top, f1_own, w_nil, w_cons, List.set_cons_zero, List.set_cons_succ, intD, lstD, lvl, forF, whlC, lcF, and_self, Bool.not_eq_true', decide_eq_true_eq, decide_eq_false_iff_not, Bool.and_eq_true, Bool.and_eq_false_imp, and_true, true_and, own_q, oq_own, oq_top, put_o, put_t, io_int, io_bool, io_str, io_own, hasT_n, hasT_c, Nat.reduceBEq, Bool.false_and, Bool.and_false, Bool.true_and, Bool.and_true, Bool.or_false, Bool.false_or, Bool.or_true, Bool.true_or, beq_self_eq_true, not_true_eq_false, not_false_eq_true, List.append_assoc, dl_e, dt_e, ta_n, ta_c, List.all_cons, List.all_nil, Nat.zero_le, call_q, cq_0, cq_1, cq_2, atD_0, atD_1, vr_pair, nmS_pair, si_list, si_tup, y_lc, reduceCtorEq, y_tcons, y_tnil, ite_sb, pk_var, pq_sh, pq_top, pq_own, pk_op, pk_call, pk_lit, pk_con, pk_lst, pk_tup, pk_lc, pk_ife, pk_or, pk_and, nmS_list, nmT_ints, nmT_snoc, vr_int, vr_bool, vr_str, vr_none, o_rev, o_slc1, t_none, t_list, t_tup, isn_none, isn_int, isn_tup, isn_list, isn_bool, io_none, o_addl, List.isEmpty_cons, List.isEmpty_nil, s_par3, s_appK, s_ret2, r2_own, s_appM, s_forT, io_lsh, io_top, bq_ft, bq_tf, ei]
        rfl
      · simp -implicitDefEqProofs only [List.map, param, List.length_cons, List.length_nil, s_cons, s_nil, s_iff, s_asg, s_par, s_drop, s_app, s_for, s_whl, s_kill, s_brk, s_cnt, s_pass, s_nev, s_retv, s_retN, r_lit, r_con, r_op, r_call, r_and, r_or, r_ife, r_chain, r_lst, r_tup, r_lc, rv, y_op, y_call, y_and, y_or, y_ife, y_chain, y_one, y_more, y_lst, y_tup, y_nil, y_cons, y_pnil, y_pcons, y_var, y_lit, y_con, y_ex, y_rng1, y_rng2, y_enum, y_zip, Nat.sub_self, List.replicate, List.cons_append, List.nil_append, List.append_nil, List.getElem?_cons_zero, List.getElem?_cons_succ, vr_sh, vr_own, vr_top, Option.bind_some, Option.map_some, Option.bind_none, Option.map_none, f_le, f_lt, f_gt, f_ge, boolD_some, cho_some, nmS_boolD, nmS_int, nmS_str, nmS_none, nmS_nil, Nat.reduceSub, Nat.reduceAdd, Nat.reduceLT, Nat.reduceLeDiff, ite_b, ite_true, ite_false, if_true, if_false, Bool.false_eq_true, o_neg', o_not', o_add', o_sub', o_mul', o_div', o_mod', o_abs', o_int', o_intb', o_min', o_max', o_gcd', o_lt', o_le', o_gt', o_ge', o_eq', o_ne', o_lenl, o_lent, o_idxl, o_idxt, o_isn', o_isnn', t_bool, t_int, nxt_nx, nxt_rt, nxt_bk, nxt_ct, nxt_if, rb_rt, rb_nx, rb_if, p_nm, p_tup, p_lst, p_nil, p_cons, cmO, c_nm, c_tup, c_lst, c_nil, c_cons, stO, Ow.tags, frz_n, frz_c, ff_nil, ff_cons, f1_none, f1_sh, f1_top, f1_own, w_nil, w_cons, List.set_cons_zero, List.set_cons_succ, intD, lstD, lvl, forF, whlC, lcF, and_self, Bool.not_eq_true', decide_eq_true_eq, decide_eq_false_iff_not, Bool.and_eq_true, Bool.and_eq_false_imp, and_true, true_and, own_q, oq_own, oq_top, put_o, put_t, io_int, io_bool, io_str, io_own, hasT_n, hasT_c, Nat.reduceBEq, Bool.false_and, Bool.and_false, Bool.true_and, Bool.and_true, Bool.or_false, Bool.false_or, Bool.or_true, Bool.true_or, beq_self_eq_true, not_true_eq_false, not_false_eq_true, List.append_assoc, dl_e, dt_e, ta_n, ta_c, List.all_cons, List.all_nil, Nat.zero_le, call_q, cq_0, cq_1, cq_2, atD_0, atD_1, vr_pair, nmS_pair, si_list, si_tup, y_lc, reduceCtorEq, y_tcons, y_tnil, ite_sb, pk_var, pq_sh, pq_top, pq_own, pk_op, pk_call, pk_lit, pk_con, pk_lst, pk_tup, pk_lc, pk_ife, pk_or, pk_and, nmS_list, nmT_ints, nmT_snoc, vr_int, vr_bool, vr_str, vr_none, o_rev, o_slc1, t_none, t_list, t_tup, isn_none, isn_int, isn_tup, isn_list, isn_bool, io_none, o_addl, List.isEmpty_cons, List.isEmpty_nil, s_par3, s_appK, s_ret2, r2_own, s_appM, s_forT, io_lsh, io_top, bq_ft, bq_tf]
theorem parts_ok (c : Nat) (acc : List Nat) (ps : List (List (Nat × List Nat))) (hp : ∀ p ∈ ps, p.length ≤ 4 ∧ ∀ q ∈ p, q.2.length ≤ 100) (hn : acc.length + 400 * ps.length ≤ 800000)
    (x1 x2 x3 x4 x5 x6 x8 x9 x10 x11 x12 x13 x16 x19 x20 : Option R) :
    forRun (forF Φ W (.nm 15) b1_law) [0, 15, 17, 18] (ps.map encPart) [none, x1, x2, x3, x4, x5, x6, some (.int (c : Int), .sh []), x8, x9, x10, x11, x12, x13, some (.list (nsD acc), .own), none, x16, none, none, x19, x20] =
      some (.nx [none, x1, x2, x3, x4, x5, x6, some (.int (c : Int), .sh []), x8, x9, x10, x11, x12, x13, some (.list (nsD (acc ++ ps.flatMap fun p => p.flatMap (atC c))), .own), none, x16, none, none, x19, x20]) := by
  have key := for_inv (k := [0, 15, 17, 18]) encPart (fun i ρ => ρ = [none, x1, x2, x3, x4, x5, x6, some (.int (c : Int), .sh []), x8, x9, x10, x11, x12, x13, some (.list (nsD (acc ++ (ps.take i).flatMap fun p => p.flatMap (atC c))), .own), none, x16, none, none, x19, x20])
    (forF Φ W (.nm 15) b1_law) (fun i ρ e => by rw [e]; simp -implicitDefEqProofs only [List.map, param, List.length_cons, List.length_nil, s_cons, s_nil, s_iff, s_asg, s_par, s_drop, s_app, s_for, s_whl, s_kill, s_brk, s_cnt, s_pass, s_nev, s_retv, s_retN, r_lit, r_con, r_op, r_call, r_and, r_or, r_ife, r_chain, r_lst, r_tup, r_lc, rv, y_op, y_call, y_and, y_or, y_ife, y_chain, y_one, y_more, y_lst, y_tup, y_nil, y_cons, y_pnil, y_pcons, y_var, y_lit, y_con, y_ex, y_rng1, y_rng2, y_enum, y_zip, Nat.sub_self, List.replicate, List.cons_append, List.nil_append, List.append_nil, List.getElem?_cons_zero, List.getElem?_cons_succ, vr_sh, vr_own, vr_top, Option.bind_some, Option.map_some, Option.bind_none, Option.map_none, f_le, f_lt, f_gt, f_ge, boolD_some, cho_some, nmS_boolD, nmS_int, nmS_str, nmS_none, nmS_nil, Nat.reduceSub, Nat.reduceAdd, Nat.reduceLT, Nat.reduceLeDiff, ite_b, ite_true, ite_false, if_true, if_false, Bool.false_eq_true, o_neg', o_not', o_add', o_sub', o_mul', o_div', o_mod', o_abs', o_int', o_intb', o_min', o_max', o_gcd', o_lt', o_le', o_gt', o_ge', o_eq', o_ne', o_lenl, o_lent, o_idxl, o_idxt, o_isn', o_isnn', t_bool, t_int, nxt_nx, nxt_rt, nxt_bk, nxt_ct, nxt_if, rb_rt, rb_nx, rb_if, p_nm, p_tup, p_lst, p_nil, p_cons, cmO, c_nm, c_tup, c_lst, c_nil, c_cons, stO, Ow.tags, frz_n, frz_c, ff_nil, ff_cons, f1_none, f1_sh, f1_top, f1_own, w_nil, w_cons, List.set_cons_zero, List.set_cons_succ, intD, lstD, lvl, forF, whlC, lcF, and_self, Bool.not_eq_true', decide_eq_true_eq, decide_eq_false_iff_not, Bool.and_eq_true, Bool.and_eq_false_imp, and_true, true_and, own_q, oq_own, oq_top, put_o, put_t, io_int, io_bool, io_str, io_own, hasT_n, hasT_c, Nat.reduceBEq, Bool.false_and, Bool.and_false, Bool.true_and, Bool.and_true, Bool.or_false, Bool.false_or, Bool.or_true, Bool.true_or, beq_self_eq_true, not_true_eq_false, not_false_eq_true, List.append_assoc, dl_e, dt_e, ta_n, ta_c, List.all_cons, List.all_nil, Nat.zero_le, call_q, cq_0, cq_1, cq_2, atD_0, atD_1, vr_pair, nmS_pair, si_list, si_tup, y_lc, reduceCtorEq, y_tcons, y_tnil, ite_sb, pk_var, pq_sh, pq_top, pq_own, pk_op, pk_call, pk_lit, pk_con, pk_lst, pk_tup, pk_lc, pk_ife, pk_or, pk_and, nmS_list, nmT_ints, nmT_snoc, vr_int, vr_bool, vr_str, vr_none, o_rev, o_slc1, t_none, t_list, t_tup, isn_none, isn_int, isn_tup, isn_list, isn_bool, io_none, o_addl, List.isEmpty_cons, List.isEmpty_nil, s_par3, s_appK, s_ret2, r2_own, s_appM, s_forT, io_lsh, io_top, bq_ft, bq_tf]) ps 0 [none, x1, x2, x3, x4, x5, x6, some (.int (c : Int), .sh []), x8, x9, x10, x11, x12, x13, some (.list (nsD acc), .own), none, x16, none, none, x19, x20] (by simp) (fun j p ρ hq e => ?_)
  · obtain ⟨ρ', e1, e2⟩ := key
    rw [Nat.zero_add, List.take_length] at e2
    rw [e1, e2]
  · subst e
    rw [Nat.zero_add]
    have jl := (List.getElem?_eq_some_iff.mp hq).1
    have et : ps.take (j + 1) = ps.take j ++ [p] := by rw [List.take_add_one, hq]; rfl
    obtain ⟨m1, m2⟩ := hp p (List.mem_of_getElem? hq)
    have fl : ∀ (l : List (Nat × List Nat)), (∀ q ∈ l, q.2.length ≤ 100) → (l.flatMap (atC c)).length ≤ 100 * l.length := fun l => by
      induction l with
      | nil => intro _; exact Nat.le_refl _
      | cons a l ih =>
        intro h
        rw [List.flatMap_cons, List.length_append, List.length_cons]
        have a1 := h a (List.mem_cons_self ..)
        have a2 := ih fun q hq => h q (List.mem_cons_of_mem _ hq)
        have a3 : (atC c a).length ≤ 100 := by
          unfold atC
          split
          · exact a1
          · exact Nat.zero_le _
        omega
    have bd : ((ps.take j).flatMap fun p => p.flatMap (atC c)).length ≤ 400 * j := by
      have gen : ∀ l : List (List (Nat × List Nat)), (∀ p ∈ l, p.length ≤ 4 ∧ ∀ q ∈ p, q.2.length ≤ 100) → (l.flatMap fun p => p.flatMap (atC c)).length ≤ 400 * l.length := fun l => by
        induction l with
        | nil => intro _; exact Nat.le_refl _
        | cons a l ih =>
          intro h
          rw [List.flatMap_cons, List.length_append, List.length_cons]
          obtain ⟨a1, a2⟩ := h a (List.mem_cons_self ..)
          have a3 := ih fun q hq => h q (List.mem_cons_of_mem _ hq)
          have a4 := fl a a2
          omega
      have := gen (ps.take j) fun q hq => hp q (List.mem_of_mem_take hq)
      rw [List.length_take] at this
      omega
    have e2 : acc ++ ((ps.take (j + 1)).flatMap fun p => p.flatMap (atC c)) = (acc ++ (ps.take j).flatMap fun p => p.flatMap (atC c)) ++ p.flatMap (atC c) := by
      rw [et, List.flatMap_append, List.append_assoc]
      simp
    rw [e2]
    have la : (acc ++ (ps.take j).flatMap fun p => p.flatMap (atC c)).length + 100 * p.length ≤ 900000 := by rw [List.length_append]; omega
    generalize (acc ++ (ps.take j).flatMap fun p => p.flatMap (atC c)) = y at *
    obtain ⟨ρ', c1, c2⟩ := b0_ok (Φ := Φ) (W := W) [] [] c y p m2 0 la none x1 x2 x3 x4 x5 x6 x8 x9 x10 x11 x12 x13 (some (.list (p.map encQ), .sh [])) x16 x19 x20
    subst c2
    have eq2 : encPart p = .list (p.map encQ) := rfl
    rw [eq2]
    unfold b1_law
    apply Exists.intro
    apply And.intro
    · apply Or.inl
      simp -implicitDefEqProofs only [List.map, param, List.length_cons, List.length_nil, s_cons, s_nil, s_iff, s_asg, s_par, s_drop, s_app, s_for, s_whl, s_kill, s_brk, s_cnt, s_pass, s_nev, s_retv, s_retN, r_lit, r_con, r_op, r_call, r_and, r_or, r_ife, r_chain, r_lst, r_tup, r_lc, rv, y_op, y_call, y_and, y_or, y_ife, y_chain, y_one, y_more, y_lst, y_tup, y_nil, y_cons, y_pnil, y_pcons, y_var, y_lit, y_con, y_ex, y_rng1, y_rng2, y_enum, y_zip, Nat.sub_self, List.replicate, List.cons_append, List.nil_append, List.append_nil, List.getElem?_cons_zero, List.getElem?_cons_succ, vr_sh, vr_own, vr_top, Option.bind_some, Option.map_some, Option.bind_none, Option.map_none, f_le, f_lt, f_gt, f_ge, boolD_some, cho_some, nmS_boolD, nmS_int, nmS_str, nmS_none, nmS_nil, Nat.reduceSub, Nat.reduceAdd, Nat.reduceLT, Nat.reduceLeDiff, ite_b, ite_true, ite_false, if_true, if_false, Bool.false_eq_true, o_neg', o_not', o_add', o_sub', o_mul', o_div', o_mod', o_abs', o_int', o_intb', o_min', o_max', o_gcd', o_lt', o_le', o_gt', o_ge', o_eq', o_ne', o_lenl, o_lent, o_idxl, o_idxt, o_isn', o_isnn', t_bool, t_int, nxt_nx, nxt_rt, nxt_bk, nxt_ct, nxt_if, rb_rt, rb_nx, rb_if, p_nm, p_tup, p_lst, p_nil, p_cons, cmO, c_nm, c_tup, c_lst, c_nil, c_cons, stO, Ow.tags, frz_n, frz_c, ff_nil, ff_cons, f1_none, f1_sh, f1_top, f1_own, w_nil, w_cons, List.set_cons_zero, List.set_cons_succ, intD, lstD, lvl, forF, whlC, lcF, and_self, Bool.not_eq_true', decide_eq_true_eq, decide_eq_false_iff_not, Bool.and_eq_true, Bool.and_eq_false_imp, and_true, true_and, own_q, oq_own, oq_top, put_o, put_t, io_int, io_bool, io_str, io_own, hasT_n, hasT_c, Nat.reduceBEq, Bool.false_and, Bool.and_false, Bool.true_and, Bool.and_true, Bool.or_false, Bool.false_or, Bool.or_true, Bool.true_or, beq_self_eq_true, not_true_eq_false, not_false_eq_true, List.append_assoc, dl_e, dt_e, ta_n, ta_c, List.all_cons, List.all_nil, Nat.zero_le, call_q, cq_0, cq_1, cq_2, atD_0, atD_1, vr_pair, nmS_pair, si_list, si_tup, y_lc, reduceCtorEq, y_tcons, y_tnil, ite_sb, pk_var, pq_sh, pq_top, pq_own, pk_op, pk_call, pk_lit, pk_con, pk_lst, pk_tup, pk_lc, pk_ife, pk_or, pk_and, nmS_list, nmT_ints, nmT_snoc, vr_int, vr_bool, vr_str, vr_none, o_rev, o_slc1, t_none, t_list, t_tup, isn_none, isn_int, isn_tup, isn_list, isn_bool, io_none, o_addl, List.isEmpty_cons, List.isEmpty_nil, s_par3, s_appK, s_ret2, r2_own, s_appM, s_forT, io_lsh, io_top, bq_ft, bq_tf, c1]
      rfl
    · simp -implicitDefEqProofs only [List.map, param, List.length_cons, List.length_nil, s_cons, s_nil, s_iff, s_asg, s_par, s_drop, s_app, s_for, s_whl, s_kill, s_brk, s_cnt, s_pass, s_nev, s_retv, s_retN, r_lit, r_con, r_op, r_call, r_and, r_or, r_ife, r_chain, r_lst, r_tup, r_lc, rv, y_op, y_call, y_and, y_or, y_ife, y_chain, y_one, y_more, y_lst, y_tup, y_nil, y_cons, y_pnil, y_pcons, y_var, y_lit, y_con, y_ex, y_rng1, y_rng2, y_enum, y_zip, Nat.sub_self, List.replicate, List.cons_append, List.nil_append, List.append_nil, List.getElem?_cons_zero, List.getElem?_cons_succ, vr_sh, vr_own, vr_top, Option.bind_some, Option.map_some, Option.bind_none, Option.map_none, f_le, f_lt, f_gt, f_ge, boolD_some, cho_some, nmS_boolD, nmS_int, nmS_str, nmS_none, nmS_nil, Nat.reduceSub, Nat.reduceAdd, Nat.reduceLT, Nat.reduceLeDiff, ite_b, ite_true, ite_false, if_true, if_false, Bool.false_eq_true, o_neg', o_not', o_add', o_sub', o_mul', o_div', o_mod', o_abs', o_int', o_intb', o_min', o_max', o_gcd', o_lt', o_le', o_gt', o_ge', o_eq', o_ne', o_lenl, o_lent, o_idxl, o_idxt, o_isn', o_isnn', t_bool, t_int, nxt_nx, nxt_rt, nxt_bk, nxt_ct, nxt_if, rb_rt, rb_nx, rb_if, p_nm, p_tup, p_lst, p_nil, p_cons, cmO, c_nm, c_tup, c_lst, c_nil, c_cons, stO, Ow.tags, frz_n, frz_c, ff_nil, ff_cons, f1_none, f1_sh, f1_top, f1_own, w_nil, w_cons, List.set_cons_zero, List.set_cons_succ, intD, lstD, lvl, forF, whlC, lcF, and_self, Bool.not_eq_true', decide_eq_true_eq, decide_eq_false_iff_not, Bool.and_eq_true, Bool.and_eq_false_imp, and_true, true_and, own_q, oq_own, oq_top, put_o, put_t, io_int, io_bool, io_str, io_own, hasT_n, hasT_c, Nat.reduceBEq, Bool.false_and, Bool.and_false, Bool.true_and, Bool.and_true, Bool.or_false, Bool.false_or, Bool.or_true, Bool.true_or, beq_self_eq_true, not_true_eq_false, not_false_eq_true, List.append_assoc, dl_e, dt_e, ta_n, ta_c, List.all_cons, List.all_nil, Nat.zero_le, call_q, cq_0, cq_1, cq_2, atD_0, atD_1, vr_pair, nmS_pair, si_list, si_tup, y_lc, reduceCtorEq, y_tcons, y_tnil, ite_sb, pk_var, pq_sh, pq_top, pq_own, pk_op, pk_call, pk_lit, pk_con, pk_lst, pk_tup, pk_lc, pk_ife, pk_or, pk_and, nmS_list, nmT_ints, nmT_snoc, vr_int, vr_bool, vr_str, vr_none, o_rev, o_slc1, t_none, t_list, t_tup, isn_none, isn_int, isn_tup, isn_list, isn_bool, io_none, o_addl, List.isEmpty_cons, List.isEmpty_nil, s_par3, s_appK, s_ret2, r2_own, s_appM, s_forT, io_lsh, io_top, bq_ft, bq_tf]
theorem o_listl {ds : List D} {g : List Tag} : opR .list [(.list ds, g)] = some (.list ds, nmT (.list ds) g) := by
  simp only [opR, opF, List.map, oList, List.flatten_cons, List.flatten_nil, List.append_nil]
theorem every_ok (w : Nat) (hw : w ≤ 4) (ds : List Deed) (hn : ds.length ≤ 40) (ok : okAll w ds) (c : Nat) (hc : c < w) (dr dl rw' : List D) (cs : List Col) (a b : D) (ks : Str) :
    ∃ ρ', forF Φ W (.nm 7) b2_law (.int (c : Int)) [none, some (.list dr, .own), some (.int (w : Int), .sh []), some (.list dl, .own), some (.str ks, .sh []), none, some (encSec (secV w ds), .own), none, some (encCols cs, .own), some (encNs (lays ds), .own), some (.list rw', .own), some (a, .own), some (encTk (tk w ds), .own), some (b, .own), none, none, none, none, none, none, none] = some (.nx ρ') ∧
      wipeR [7, 14, 15, 17, 18] ρ' = [none, some (.list dr, .own), some (.int (w : Int), .sh []), some (.list dl, .own), some (.str ks, .sh []), none, some (encSec (secV w ds), .own), none, some (encCols cs, .own), some (encNs (lays ds), .own), some (.list rw', .own), some (a, .own), some (encTk (tk w ds), .own), some (b, .own), none, none, none, none, none, none, none] := by
  have gc : (St w ds).1[c]? = some ((St w ds).1.getD c []) := by
    rw [List.getD_eq_getElem?_getD, List.getElem?_eq_getElem (by rw [St_len]; exact hc)]
    rfl
  have gs : (secV w ds)[c]? = some (marks ((St w ds).1.getD c [])) := by unfold secV; rw [List.getElem?_map, gc]; rfl
  have at1 : atD ((secV w ds).map encNs) (c : Int) = some (.list (nsD (marks ((St w ds).1.getD c [])))) := at_get encNs _ c _ gs
  have hbl := St_bd w ds _ (List.mem_of_getElem? gc)
  obtain ⟨t1, t2⟩ := tk_bd w ds ok
  have po := parts_ok (Φ := Φ) (W := W) c (marks ((St w ds).1.getD c [])) (tk w ds) (fun p hp => by
    obtain ⟨a1, a2⟩ := t2 p hp
    exact ⟨by omega, fun q hq => by have := (a2 q hq).2.1; omega⟩) (by unfold marks; rw [List.length_map]; omega)
  have pm : sortI ((everyC w ds c).map fun (n : Nat) => (n : Int)) = sortI ((lays ds).map fun (n : Nat) => (n : Int)) := sortI_same ((every_perm w c hc ds ok).map _)
  have ee : marks ((St w ds).1.getD c []) ++ ((tk w ds).flatMap fun p => p.flatMap (atC c)) = everyC w ds c := rfl
  rw [ee] at po
  generalize marks ((St w ds).1.getD c []) = mk at *
  generalize everyC w ds c = ev at *
  have so : ∀ (xs : List Nat) (g : List Tag), opR .sorted [(.list (nsD xs), g)] = some (.list ((sortI (xs.map fun (n : Nat) => (n : Int))).map .int), .own) := fun xs g => by
    have : nsD xs = (xs.map fun (n : Nat) => (n : Int)).map .int := by unfold nsD; rw [List.map_map]; rfl
    rw [this, o_sorted]
  have ne := fun (g k : List Tag) => ne_ints_self (sortI ((lays ds).map fun (n : Nat) => (n : Int))) (g := g) (k := k)
  have ft : thawFrom 12 0 [none, some (.list dr, .own), some (.int (w : Int), .sh []), some (.list dl, .own), some (.str ks, .sh []), none, some (encSec (secV w ds), .own), some (.int (c : Int), .sh []), some (encCols cs, .own), some (encNs (lays ds), .own), some (.list rw', .own), some (a, .own), some (encTk (tk w ds), .sh []), some (b, .own), some (.list (nsD ev), .own), none, none, none, none, none, none] = true := rfl
  have pf := ft_own (u := 12) (f := forF Φ W (.nm 15) b1_law) (k := [0, 15, 17, 18]) (ds := (tk w ds).map encPart) (ρ := [none, some (.list dr, .own), some (.int (w : Int), .sh []), some (.list dl, .own), some (.str ks, .sh []), none, some (encSec (secV w ds), .own), some (.int (c : Int), .sh []), some (encCols cs, .own), some (encNs (lays ds), .own), some (.list rw', .own), some (a, .own), some (encTk (tk w ds), .own), some (b, .own), some (.list (nsD mk), .own), none, none, none, none, none, none])
    (ρ2 := [none, some (.list dr, .own), some (.int (w : Int), .sh []), some (.list dl, .own), some (.str ks, .sh []), none, some (encSec (secV w ds), .own), some (.int (c : Int), .sh []), some (encCols cs, .own), some (encNs (lays ds), .own), some (.list rw', .own), some (a, .own), some (encTk (tk w ds), .sh []), some (b, .own), some (.list (nsD ev), .own), none, none, none, none, none, none]) (by
      refine Eq.trans ?_ (po (some (.list dr, .own)) (some (.int (w : Int), .sh [])) (some (.list dl, .own)) (some (.str ks, .sh [])) (none) (some (encSec (secV w ds), .own)) (some (encCols cs, .own)) (some (encNs (lays ds), .own)) (some (.list rw', .own)) (some (a, .own)) (some (encTk (tk w ds), .sh [])) (some (b, .own)) (none) (none) (none))
      congr 1) ft
  unfold encSec encTk at *
  have en : encNs (lays ds) = .list (nsD (lays ds)) := rfl
  rw [en] at pf ⊢
  unfold b2_law
  apply Exists.intro
  apply And.intro
  · simp -implicitDefEqProofs only [List.map, param, List.length_cons, List.length_nil, s_cons, s_nil, s_iff, s_asg, s_par, s_drop, s_app, s_for, s_whl, s_kill, s_brk, s_cnt, s_pass, s_nev, s_retv, s_retN, r_lit, r_con, r_op, r_call, r_and, r_or, r_ife, r_chain, r_lst, r_tup, r_lc, rv, y_op, y_call, y_and, y_or, y_ife, y_chain, y_one, y_more, y_lst, y_tup, y_nil, y_cons, y_pnil, y_pcons, y_var, y_lit, y_con, y_ex, y_rng1, y_rng2, y_enum, y_zip, Nat.sub_self, List.replicate, List.cons_append, List.nil_append, List.append_nil, List.getElem?_cons_zero, List.getElem?_cons_succ, vr_sh, vr_own, vr_top, Option.bind_some, Option.map_some, Option.bind_none, Option.map_none, f_le, f_lt, f_gt, f_ge, boolD_some, cho_some, nmS_boolD, nmS_int, nmS_str, nmS_none, nmS_nil, Nat.reduceSub, Nat.reduceAdd, Nat.reduceLT, Nat.reduceLeDiff, ite_b, ite_true, ite_false, if_true, if_false, Bool.false_eq_true, o_neg', o_not', o_add', o_sub', o_mul', o_div', o_mod', o_abs', o_int', o_intb', o_min', o_max', o_gcd', o_lt', o_le', o_gt', o_ge', o_eq', o_ne', o_lenl, o_lent, o_idxl, o_idxt, o_isn', o_isnn', t_bool, t_int, nxt_nx, nxt_rt, nxt_bk, nxt_ct, nxt_if, rb_rt, rb_nx, rb_if, p_nm, p_tup, p_lst, p_nil, p_cons, cmO, c_nm, c_tup, c_lst, c_nil, c_cons, stO, Ow.tags, frz_n, frz_c, ff_nil, ff_cons, f1_none, f1_sh, f1_top, f1_own, w_nil, w_cons, List.set_cons_zero, List.set_cons_succ, intD, lstD, lvl, forF, whlC, lcF, and_self, Bool.not_eq_true', decide_eq_true_eq, decide_eq_false_iff_not, Bool.and_eq_true, Bool.and_eq_false_imp, and_true, true_and, own_q, oq_own, oq_top, put_o, put_t, io_int, io_bool, io_str, io_own, hasT_n, hasT_c, Nat.reduceBEq, Bool.false_and, Bool.and_false, Bool.true_and, Bool.and_true, Bool.or_false, Bool.false_or, Bool.or_true, Bool.true_or, beq_self_eq_true, not_true_eq_false, not_false_eq_true, List.append_assoc, dl_e, dt_e, ta_n, ta_c, List.all_cons, List.all_nil, Nat.zero_le, call_q, cq_0, cq_1, cq_2, atD_0, atD_1, vr_pair, nmS_pair, si_list, si_tup, y_lc, reduceCtorEq, y_tcons, y_tnil, ite_sb, pk_var, pq_sh, pq_top, pq_own, pk_op, pk_call, pk_lit, pk_con, pk_lst, pk_tup, pk_lc, pk_ife, pk_or, pk_and, nmS_list, nmT_ints, nmT_snoc, vr_int, vr_bool, vr_str, vr_none, o_rev, o_slc1, t_none, t_list, t_tup, isn_none, isn_int, isn_tup, isn_list, isn_bool, io_none, o_addl, List.isEmpty_cons, List.isEmpty_nil, s_par3, s_appK, s_ret2, r2_own, s_appM, s_forT, io_lsh, io_top, bq_ft, bq_tf, at1, o_listl, nT_ns, pf, so, pm, ne]
    rfl
  · simp -implicitDefEqProofs only [List.map, param, List.length_cons, List.length_nil, s_cons, s_nil, s_iff, s_asg, s_par, s_drop, s_app, s_for, s_whl, s_kill, s_brk, s_cnt, s_pass, s_nev, s_retv, s_retN, r_lit, r_con, r_op, r_call, r_and, r_or, r_ife, r_chain, r_lst, r_tup, r_lc, rv, y_op, y_call, y_and, y_or, y_ife, y_chain, y_one, y_more, y_lst, y_tup, y_nil, y_cons, y_pnil, y_pcons, y_var, y_lit, y_con, y_ex, y_rng1, y_rng2, y_enum, y_zip, Nat.sub_self, List.replicate, List.cons_append, List.nil_append, List.append_nil, List.getElem?_cons_zero, List.getElem?_cons_succ, vr_sh, vr_own, vr_top, Option.bind_some, Option.map_some, Option.bind_none, Option.map_none, f_le, f_lt, f_gt, f_ge, boolD_some, cho_some, nmS_boolD, nmS_int, nmS_str, nmS_none, nmS_nil, Nat.reduceSub, Nat.reduceAdd, Nat.reduceLT, Nat.reduceLeDiff, ite_b, ite_true, ite_false, if_true, if_false, Bool.false_eq_true, o_neg', o_not', o_add', o_sub', o_mul', o_div', o_mod', o_abs', o_int', o_intb', o_min', o_max', o_gcd', o_lt', o_le', o_gt', o_ge', o_eq', o_ne', o_lenl, o_lent, o_idxl, o_idxt, o_isn', o_isnn', t_bool, t_int, nxt_nx, nxt_rt, nxt_bk, nxt_ct, nxt_if, rb_rt, rb_nx, rb_if, p_nm, p_tup, p_lst, p_nil, p_cons, cmO, c_nm, c_tup, c_lst, c_nil, c_cons, stO, Ow.tags, frz_n, frz_c, ff_nil, ff_cons, f1_none, f1_sh, f1_top, f1_own, w_nil, w_cons, List.set_cons_zero, List.set_cons_succ, intD, lstD, lvl, forF, whlC, lcF, and_self, Bool.not_eq_true', decide_eq_true_eq, decide_eq_false_iff_not, Bool.and_eq_true, Bool.and_eq_false_imp, and_true, true_and, own_q, oq_own, oq_top, put_o, put_t, io_int, io_bool, io_str, io_own, hasT_n, hasT_c, Nat.reduceBEq, Bool.false_and, Bool.and_false, Bool.true_and, Bool.and_true, Bool.or_false, Bool.false_or, Bool.or_true, Bool.true_or, beq_self_eq_true, not_true_eq_false, not_false_eq_true, List.append_assoc, dl_e, dt_e, ta_n, ta_c, List.all_cons, List.all_nil, Nat.zero_le, call_q, cq_0, cq_1, cq_2, atD_0, atD_1, vr_pair, nmS_pair, si_list, si_tup, y_lc, reduceCtorEq, y_tcons, y_tnil, ite_sb, pk_var, pq_sh, pq_top, pq_own, pk_op, pk_call, pk_lit, pk_con, pk_lst, pk_tup, pk_lc, pk_ife, pk_or, pk_and, nmS_list, nmT_ints, nmT_snoc, vr_int, vr_bool, vr_str, vr_none, o_rev, o_slc1, t_none, t_list, t_tup, isn_none, isn_int, isn_tup, isn_list, isn_bool, io_none, o_addl, List.isEmpty_cons, List.isEmpty_nil, s_par3, s_appK, s_ret2, r2_own, s_appM, s_forT, io_lsh, io_top, bq_ft, bq_tf]
theorem maxI_ge : ∀ (l : List Int) (m : Int), m ≤ maxI m l ∧ ∀ x ∈ l, x ≤ maxI m l
  | [], m => ⟨Int.le_refl _, fun x h => by cases h⟩
  | y :: l, m => by
    show m ≤ maxI (if y > m then y else m) l ∧ ∀ x ∈ y :: l, x ≤ maxI (if y > m then y else m) l
    obtain ⟨z, hz⟩ : ∃ z, z = (if y > m then y else m) := ⟨_, rfl⟩
    have zm : m ≤ z ∧ y ≤ z := by rw [hz]; split <;> omega
    rw [← hz]
    obtain ⟨h1, h2⟩ := maxI_ge l z
    refine ⟨by omega, fun x hx => ?_⟩
    rcases List.mem_cons.mp hx with q | q
    · rw [q]; omega
    · exact h2 x q
theorem max_lens (s : List (List Nat)) (h : s ≠ []) : ∃ M : Int, (∀ c ∈ s, (c.length : Int) ≤ M) ∧ ∀ g, opR .max1 [(.list (s.map fun c => PyData.int (c.length : Int)), g)] = some (.int M, .sh []) := by
  cases s with
  | nil => exact absurd rfl h
  | cons c s =>
    obtain ⟨h1, h2⟩ := maxI_ge (s.map fun c => (c.length : Int)) (c.length : Int)
    refine ⟨maxI (c.length : Int) (s.map fun c => (c.length : Int)), fun x hx => ?_, fun g => ?_⟩
    · rcases List.mem_cons.mp hx with z | z
      · rw [z]; exact h1
      · exact h2 _ (List.mem_map.mpr ⟨x, z, rfl⟩)
    · have e : ((c :: s).map fun c => PyData.int (c.length : Int)) = ((c.length : Int) :: s.map fun c => (c.length : Int)).map .int := by rw [List.map_cons, List.map_cons, List.map_map]; rfl
      rw [e]
      have e2 : toInts (((c.length : Int) :: s.map fun c => (c.length : Int)).map .int) = some ((c.length : Int) :: s.map fun c => (c.length : Int)) := to_ints _
      simp only [opR, opF, List.map_cons, List.map_nil, oExt]
      rw [List.map_cons] at e2
      rw [e2]
      simp only [nmS_int]
theorem pl_ns (xs : List Nat) : plainD (encNs xs) = true := by
  unfold encNs plainD
  exact plains_map _ fun _ _ => rfl
theorem pl_sec (s : List (List Nat)) : plainD (encSec s) = true := by
  unfold encSec plainD
  exact plains_map _ fun c _ => pl_ns c
theorem pl_tk (t : List (List (Nat × List Nat))) : plainD (encTk t) = true := by
  unfold encTk plainD
  refine plains_map _ fun p _ => ?_
  unfold encPart plainD
  refine plains_map _ fun q _ => ?_
  show (plainD (.int (q.1 : Int)) && (plainD (encNs q.2) && true)) = true
  rw [pl_ns]
  rfl
def extD (ds : List Deed) : List Deed := if (ds.length : Int) < 40 then [.lay 9] else []
theorem ext_mul (ds : List Deed) (g h : List Tag) : opR .mul [(.list [.tuple [.str "lay", .int 9]], g), (.int (if (ds.length : Int) < 40 then 1 else 0), h)] = some (.list ((extD ds).map encD), .own) := by
  unfold extD
  split
  · simp only [opR, opF, List.map, oMul]
    rfl
  · simp only [opR, opF, List.map, oMul]
    rfl
theorem ext_ok (w : Nat) (ds : List Deed) (ok : okAll w ds) : okAll w (ds ++ extD ds) := by
  unfold extD
  split
  · exact okAll_snoc ok ⟨by omega, by omega⟩
  · rw [List.append_nil]
    exact ok
theorem ext_len (ds : List Deed) (h : ds.length ≤ 40) : (ds ++ extD ds).length ≤ 40 := by
  unfold extD
  split
  · rw [List.length_append, List.length_singleton]
    omega
  · rw [List.append_nil]
    exact h
theorem ext_sec (w : Nat) (ds : List Deed) (s0 : List Nat) (h : (secV w ds)[0]? = some s0) : ∃ s1, (secV w (ds ++ extD ds))[0]? = some s1 ∧ s1.take s0.length = s0 := by
  unfold extD
  split
  · unfold secV at *
    rw [List.getElem?_map] at h
    obtain ⟨c0, e, rfl⟩ : ∃ c0, (St w ds).1[0]? = some c0 ∧ marks c0 = s0 := by
      cases q : (St w ds).1[0]? with
      | none => rw [q] at h; cases h
      | some c0 => rw [q] at h; exact ⟨c0, rfl, by simpa using h⟩
    refine ⟨marks (c0 ++ [(9, (St w ds).2)]), ?_, ?_⟩
    · rw [List.getElem?_map, St_snoc]
      unfold stepD
      rw [List.getElem?_map, e]
      rfl
    · unfold marks
      rw [List.map_append, List.take_left']
      rfl
  · rw [List.append_nil]
    exact ⟨s0, h, List.take_length⟩
theorem nsD_len (xs : List Nat) : (nsD xs).length = xs.length := List.length_map _
theorem encNs_ns (xs : List Nat) : encNs xs = .list (nsD xs) := rfl
theorem law_ok (sc : D) (dr : List D) (w m : Nat) (w4 : 1 ≤ w ∧ w ≤ 4) (hm : w = 1 + m) (ds : List Deed) (hn : ds.length ≤ 40) (ok : okAll w ds)
    (f9 : Φ 9 [sc] = some (.list dr, 2)) (f10 : Φ 10 [.list dr, .int 0, .int 4] = some (.int (m : Int), 0)) (f11 : Φ 11 [.list dr, .int 10, .int (w : Int)] = some (encDs ds, 2))
    (f3 : ∀ ds, okAll w ds → ds.length ≤ 40 → Φ 3 [.int (w : Int), encDs ds] = some (encSec (secV w ds), 2))
    (f4 : Φ 4 [.int (w : Int), encDs ds] = some (encTk (tk w ds), 2))
    (f5 : Φ 5 [.int (w : Int), encDs ds] = some (encAcc w ds, 2))
    (f8 : (∀ c ∈ secV w ds, c.length ≤ 6) → Φ 8 [encSec (secV w ds), encNs (lays ds), encSec (numV w ds)] = some (.bool true, 0)) :
    ∃ lv, runFd Φ W fd_law [sc] = some (.bool true, lv) := by
  have ew : (1 : Int) + (m : Int) = (w : Int) := by omega
  have f3a := f3 ds ok hn
  have f3b := f3 (ds ++ extD ds) (ext_ok w ds ok) (ext_len ds hn)
  obtain ⟨wd1, wd2, wd3⟩ := ds_wee w w4.2 ds (by omega) ok
  obtain ⟨ws1, ws2, ws3⟩ := sec_wee w w4.2 ds (by omega) ok
  obtain ⟨wt1, wt2, wt3⟩ := tk_wee w w4.2 ds (by omega) ok
  obtain ⟨wa1, wa2, wa3⟩ := acc_wee w w4.2 ds (by omega) ok
  have rd := fun g => repr_wee (g := g) wd1 wd2 wd3
  have rs := fun g => repr_wee (g := g) ws1 ws2 ws3
  have rt := fun g => repr_wee (g := g) wt1 wt2 wt3
  have ra := fun g => repr_wee (g := g) wa1 wa2 wa3
  have ns := fun g h => ne_wee (g := g) (k := h) ws1
  have nt := fun g h => ne_wee (g := g) (k := h) wt1
  have na := fun g h => ne_wee (g := g) (k := h) wa1
  have qd := fun g h => eq_wee (g := g) (k := h) wd1
  have qs := fun g h => o_eq_self (pl_sec (secV w ds)) (by have := dep_sec (secV w ds); omega) g h
  have ql := fun g h => o_eq_self (pl_ns (lays ds)) (by have := dep_ns (lays ds); omega) g h
  have qt := fun g h => o_eq_self (pl_tk (tk w ds)) wt2 g h
  have sl := St_len w ds
  have sb := St_bd w ds
  have ssl := sec_len w ds
  have r1 : rngOk (w : Int) = true := rng_ok (by omega) (by omega)
  have en : (w : Int).toNat = w := Int.toNat_natCast w
  have lw : w ≤ 1000000 := by omega
  -- the columns at first
  have lc0 : ∀ g : List Tag, lcRun (lcF Φ [7] (.lst .nil) (.nm 7) .nil g [some (sc, .sh []), some (.list dr, .own), some (.int (w : Int), .sh []), some (.list (ds.map encD), .own), some (.str (encDs ds).shown, .sh []), none, none, none, none, none, none, none, none, none, none, none, none, none, none, none, none]) ((List.range w).map fun (i : Nat) => PyData.int (i : Int)) = some ((List.range w).map fun _ => ((PyData.list [], Ow.own) : R)) := fun g => by
    refine lc_map (fun (i : Nat) => PyData.int (i : Int)) _ _ _ fun i hi => ?_
    simp -implicitDefEqProofs only [List.map, param, List.length_cons, List.length_nil, s_cons, s_nil, s_iff, s_asg, s_par, s_drop, s_app, s_for, s_whl, s_kill, s_brk, s_cnt, s_pass, s_nev, s_retv, s_retN, r_lit, r_con, r_op, r_call, r_and, r_or, r_ife, r_chain, r_lst, r_tup, r_lc, rv, y_op, y_call, y_and, y_or, y_ife, y_chain, y_one, y_more, y_lst, y_tup, y_nil, y_cons, y_pnil, y_pcons, y_var, y_lit, y_con, y_ex, y_rng1, y_rng2, y_enum, y_zip, Nat.sub_self, List.replicate, List.cons_append, List.nil_append, List.append_nil, List.getElem?_cons_zero, List.getElem?_cons_succ, vr_sh, vr_own, vr_top, Option.bind_some, Option.map_some, Option.bind_none, Option.map_none, f_le, f_lt, f_gt, f_ge, boolD_some, cho_some, nmS_boolD, nmS_int, nmS_str, nmS_none, nmS_nil, Nat.reduceSub, Nat.reduceAdd, Nat.reduceLT, Nat.reduceLeDiff, ite_b, ite_true, ite_false, if_true, if_false, Bool.false_eq_true, o_neg', o_not', o_add', o_sub', o_mul', o_div', o_mod', o_abs', o_int', o_intb', o_min', o_max', o_gcd', o_lt', o_le', o_gt', o_ge', o_eq', o_ne', o_lenl, o_lent, o_idxl, o_idxt, o_isn', o_isnn', t_bool, t_int, nxt_nx, nxt_rt, nxt_bk, nxt_ct, nxt_if, rb_rt, rb_nx, rb_if, p_nm, p_tup, p_lst, p_nil, p_cons, cmO, c_nm, c_tup, c_lst, c_nil, c_cons, stO, Ow.tags, frz_n, frz_c, ff_nil, ff_cons, f1_none, f1_sh, f1_top, f1_own, w_nil, w_cons, List.set_cons_zero, List.set_cons_succ, intD, lstD, lvl, forF, whlC, lcF, and_self, Bool.not_eq_true', decide_eq_true_eq, decide_eq_false_iff_not, Bool.and_eq_true, Bool.and_eq_false_imp, and_true, true_and, own_q, oq_own, oq_top, put_o, put_t, io_int, io_bool, io_str, io_own, hasT_n, hasT_c, Nat.reduceBEq, Bool.false_and, Bool.and_false, Bool.true_and, Bool.and_true, Bool.or_false, Bool.false_or, Bool.or_true, Bool.true_or, beq_self_eq_true, not_true_eq_false, not_false_eq_true, List.append_assoc, dl_e, dt_e, ta_n, ta_c, List.all_cons, List.all_nil, Nat.zero_le, call_q, cq_0, cq_1, cq_2, atD_0, atD_1, vr_pair, nmS_pair, si_list, si_tup, y_lc, reduceCtorEq, y_tcons, y_tnil, ite_sb, pk_var, pq_sh, pq_top, pq_own, pk_op, pk_call, pk_lit, pk_con, pk_lst, pk_tup, pk_lc, pk_ife, pk_or, pk_and, nmS_list, nmT_ints, nmT_snoc, vr_int, vr_bool, vr_str, vr_none, o_rev, o_slc1, t_none, t_list, t_tup, isn_none, isn_int, isn_tup, isn_list, isn_bool, io_none, o_addl, List.isEmpty_cons, List.isEmpty_nil, s_par3, s_appK, s_ret2, r2_own, s_appM, s_forT, io_lsh, io_top, bq_ft, bq_tf]
  have e0 : ((List.range w).map fun _ => ((PyData.list [], Ow.own) : R)).map (fun x => x.1) = (List.replicate w ([] : Col)).map encCol := by
    rw [List.map_map, List.map_replicate]
    apply List.ext_getElem
    · simp
    · intro i h1 h2
      simp [encCol]
  have o0 : ((List.range w).map fun _ => ((PyData.list [], Ow.own) : R)).all isOwn = true := by
    rw [List.all_map]
    exact List.all_eq_true.mpr fun x _ => rfl
  have wk := walk_ok (Φ := Φ) (W := W) w w4.2 (some (sc, .sh [])) dr (encDs ds).shown ds hn ok
  unfold rhoL at wk
  have ft := ft_own (u := 3) (ρ := [some (sc, .sh []), some (.list dr, .own), some (.int (w : Int), .sh []), some (.list (ds.map encD), .own), some (.str (encDs ds).shown, .sh []), none, none, none, some (.list ((List.replicate w ([] : Col)).map encCol), .own), some (.list [], .own), some (.list [], .own), none, none, none, none, none, none, none, none, none, none]) wk rfl
  -- the section
  have inn : ∀ (col : Col) (g : List Tag) (a0 a1 a2 a3 a4 a5 a6 a7 a8 a9 a10 a11 a12 a13 a14 a15 a17 a18 : Option R), lcRun (lcF Φ [19, 20] (.var 19) (.tp (.cons (.nm 19) (.cons (.nm 20) .nil))) .nil g [a0, a1, a2, a3, a4, a5, a6, a7, a8, a9, a10, a11, a12, a13, a14, a15, some (.list (col.map encM), .sh [(8, false)]), a17, a18, none, none]) (col.map encM) = some (col.map fun m => ((PyData.int (m.1 : Int), Ow.sh []) : R)) := fun col g a0 a1 a2 a3 a4 a5 a6 a7 a8 a9 a10 a11 a12 a13 a14 a15 a17 a18 => by
    refine lc_map encM _ _ col fun m hm => ?_
    unfold encM
    simp -implicitDefEqProofs only [List.map, param, List.length_cons, List.length_nil, s_cons, s_nil, s_iff, s_asg, s_par, s_drop, s_app, s_for, s_whl, s_kill, s_brk, s_cnt, s_pass, s_nev, s_retv, s_retN, r_lit, r_con, r_op, r_call, r_and, r_or, r_ife, r_chain, r_lst, r_tup, r_lc, rv, y_op, y_call, y_and, y_or, y_ife, y_chain, y_one, y_more, y_lst, y_tup, y_nil, y_cons, y_pnil, y_pcons, y_var, y_lit, y_con, y_ex, y_rng1, y_rng2, y_enum, y_zip, Nat.sub_self, List.replicate, List.cons_append, List.nil_append, List.append_nil, List.getElem?_cons_zero, List.getElem?_cons_succ, vr_sh, vr_own, vr_top, Option.bind_some, Option.map_some, Option.bind_none, Option.map_none, f_le, f_lt, f_gt, f_ge, boolD_some, cho_some, nmS_boolD, nmS_int, nmS_str, nmS_none, nmS_nil, Nat.reduceSub, Nat.reduceAdd, Nat.reduceLT, Nat.reduceLeDiff, ite_b, ite_true, ite_false, if_true, if_false, Bool.false_eq_true, o_neg', o_not', o_add', o_sub', o_mul', o_div', o_mod', o_abs', o_int', o_intb', o_min', o_max', o_gcd', o_lt', o_le', o_gt', o_ge', o_eq', o_ne', o_lenl, o_lent, o_idxl, o_idxt, o_isn', o_isnn', t_bool, t_int, nxt_nx, nxt_rt, nxt_bk, nxt_ct, nxt_if, rb_rt, rb_nx, rb_if, p_nm, p_tup, p_lst, p_nil, p_cons, cmO, c_nm, c_tup, c_lst, c_nil, c_cons, stO, Ow.tags, frz_n, frz_c, ff_nil, ff_cons, f1_none, f1_sh, f1_top, f1_own, w_nil, w_cons, List.set_cons_zero, List.set_cons_succ, intD, lstD, lvl, forF, whlC, lcF, and_self, Bool.not_eq_true', decide_eq_true_eq, decide_eq_false_iff_not, Bool.and_eq_true, Bool.and_eq_false_imp, and_true, true_and, own_q, oq_own, oq_top, put_o, put_t, io_int, io_bool, io_str, io_own, hasT_n, hasT_c, Nat.reduceBEq, Bool.false_and, Bool.and_false, Bool.true_and, Bool.and_true, Bool.or_false, Bool.false_or, Bool.or_true, Bool.true_or, beq_self_eq_true, not_true_eq_false, not_false_eq_true, List.append_assoc, dl_e, dt_e, ta_n, ta_c, List.all_cons, List.all_nil, Nat.zero_le, call_q, cq_0, cq_1, cq_2, atD_0, atD_1, vr_pair, nmS_pair, si_list, si_tup, y_lc, reduceCtorEq, y_tcons, y_tnil, ite_sb, pk_var, pq_sh, pq_top, pq_own, pk_op, pk_call, pk_lit, pk_con, pk_lst, pk_tup, pk_lc, pk_ife, pk_or, pk_and, nmS_list, nmT_ints, nmT_snoc, vr_int, vr_bool, vr_str, vr_none, o_rev, o_slc1, t_none, t_list, t_tup, isn_none, isn_int, isn_tup, isn_list, isn_bool, io_none, o_addl, List.isEmpty_cons, List.isEmpty_nil, s_par3, s_appK, s_ret2, r2_own, s_appM, s_forT, io_lsh, io_top, bq_ft, bq_tf]
  have inn2 : ∀ (col : Col) (g : List Tag) (a0 a1 a2 a3 a4 a5 a6 a7 a8 a9 a10 a11 a12 a13 a14 a15 a17 a18 : Option R), lcRun (lcF Φ [19, 20] (.var 20) (.tp (.cons (.nm 19) (.cons (.nm 20) .nil))) .nil g [a0, a1, a2, a3, a4, a5, a6, a7, a8, a9, a10, a11, a12, a13, a14, a15, some (.list (col.map encM), .sh [(8, false)]), a17, a18, none, none]) (col.map encM) = some (col.map fun m => ((PyData.int (m.2 : Int), Ow.sh []) : R)) := fun col g a0 a1 a2 a3 a4 a5 a6 a7 a8 a9 a10 a11 a12 a13 a14 a15 a17 a18 => by
    refine lc_map encM _ _ col fun m hm => ?_
    unfold encM
    simp -implicitDefEqProofs only [List.map, param, List.length_cons, List.length_nil, s_cons, s_nil, s_iff, s_asg, s_par, s_drop, s_app, s_for, s_whl, s_kill, s_brk, s_cnt, s_pass, s_nev, s_retv, s_retN, r_lit, r_con, r_op, r_call, r_and, r_or, r_ife, r_chain, r_lst, r_tup, r_lc, rv, y_op, y_call, y_and, y_or, y_ife, y_chain, y_one, y_more, y_lst, y_tup, y_nil, y_cons, y_pnil, y_pcons, y_var, y_lit, y_con, y_ex, y_rng1, y_rng2, y_enum, y_zip, Nat.sub_self, List.replicate, List.cons_append, List.nil_append, List.append_nil, List.getElem?_cons_zero, List.getElem?_cons_succ, vr_sh, vr_own, vr_top, Option.bind_some, Option.map_some, Option.bind_none, Option.map_none, f_le, f_lt, f_gt, f_ge, boolD_some, cho_some, nmS_boolD, nmS_int, nmS_str, nmS_none, nmS_nil, Nat.reduceSub, Nat.reduceAdd, Nat.reduceLT, Nat.reduceLeDiff, ite_b, ite_true, ite_false, if_true, if_false, Bool.false_eq_true, o_neg', o_not', o_add', o_sub', o_mul', o_div', o_mod', o_abs', o_int', o_intb', o_min', o_max', o_gcd', o_lt', o_le', o_gt', o_ge', o_eq', o_ne', o_lenl, o_lent, o_idxl, o_idxt, o_isn', o_isnn', t_bool, t_int, nxt_nx, nxt_rt, nxt_bk, nxt_ct, nxt_if, rb_rt, rb_nx, rb_if, p_nm, p_tup, p_lst, p_nil, p_cons, cmO, c_nm, c_tup, c_lst, c_nil, c_cons, stO, Ow.tags, frz_n, frz_c, ff_nil, ff_cons, f1_none, f1_sh, f1_top, f1_own, w_nil, w_cons, List.set_cons_zero, List.set_cons_succ, intD, lstD, lvl, forF, whlC, lcF, and_self, Bool.not_eq_true', decide_eq_true_eq, decide_eq_false_iff_not, Bool.and_eq_true, Bool.and_eq_false_imp, and_true, true_and, own_q, oq_own, oq_top, put_o, put_t, io_int, io_bool, io_str, io_own, hasT_n, hasT_c, Nat.reduceBEq, Bool.false_and, Bool.and_false, Bool.true_and, Bool.and_true, Bool.or_false, Bool.false_or, Bool.or_true, Bool.true_or, beq_self_eq_true, not_true_eq_false, not_false_eq_true, List.append_assoc, dl_e, dt_e, ta_n, ta_c, List.all_cons, List.all_nil, Nat.zero_le, call_q, cq_0, cq_1, cq_2, atD_0, atD_1, vr_pair, nmS_pair, si_list, si_tup, y_lc, reduceCtorEq, y_tcons, y_tnil, ite_sb, pk_var, pq_sh, pq_top, pq_own, pk_op, pk_call, pk_lit, pk_con, pk_lst, pk_tup, pk_lc, pk_ife, pk_or, pk_and, nmS_list, nmT_ints, nmT_snoc, vr_int, vr_bool, vr_str, vr_none, o_rev, o_slc1, t_none, t_list, t_tup, isn_none, isn_int, isn_tup, isn_list, isn_bool, io_none, o_addl, List.isEmpty_cons, List.isEmpty_nil, s_par3, s_appK, s_ret2, r2_own, s_appM, s_forT, io_lsh, io_top, bq_ft, bq_tf]
  have ei : ∀ col : Col, (col.map fun m => ((PyData.int (m.2 : Int), Ow.sh []) : R)).map (fun x => x.1) = (col.map (·.2)).map fun (n : Nat) => PyData.int (n : Int) := fun col => by rw [List.map_map, List.map_map]; rfl
  have lcs : ∀ (a0 a1 a2 a3 a4 a5 a6 a7 a9 a10 a11 a12 a13 a14 a15 a17 a18 : Option R), lcRun (lcF Φ [16] (.lc [19, 20] (.var 19) (.tp (.cons (.nm 19) (.cons (.nm 20) .nil))) (.ex (.var 16)) .nil) (.nm 16) .nil [(8, false)] [a0, a1, a2, a3, a4, a5, a6, a7, some (encCols (St w ds).1, .own), a9, a10, a11, a12, a13, a14, a15, none, a17, a18, none, none]) ((St w ds).1.map encCol) = some ((St w ds).1.map fun col => ((encNs (marks col), Ow.own) : R)) := fun a0 a1 a2 a3 a4 a5 a6 a7 a9 a10 a11 a12 a13 a14 a15 a17 a18 => by
    refine lc_map encCol _ _ _ fun col hc => ?_
    have q : col.length ≤ 1000000 := by have := sb col hc; omega
    unfold encCol encNs
    simp -implicitDefEqProofs only [List.map, param, List.length_cons, List.length_nil, s_cons, s_nil, s_iff, s_asg, s_par, s_drop, s_app, s_for, s_whl, s_kill, s_brk, s_cnt, s_pass, s_nev, s_retv, s_retN, r_lit, r_con, r_op, r_call, r_and, r_or, r_ife, r_chain, r_lst, r_tup, r_lc, rv, y_op, y_call, y_and, y_or, y_ife, y_chain, y_one, y_more, y_lst, y_tup, y_nil, y_cons, y_pnil, y_pcons, y_var, y_lit, y_con, y_ex, y_rng1, y_rng2, y_enum, y_zip, Nat.sub_self, List.replicate, List.cons_append, List.nil_append, List.append_nil, List.getElem?_cons_zero, List.getElem?_cons_succ, vr_sh, vr_own, vr_top, Option.bind_some, Option.map_some, Option.bind_none, Option.map_none, f_le, f_lt, f_gt, f_ge, boolD_some, cho_some, nmS_boolD, nmS_int, nmS_str, nmS_none, nmS_nil, Nat.reduceSub, Nat.reduceAdd, Nat.reduceLT, Nat.reduceLeDiff, ite_b, ite_true, ite_false, if_true, if_false, Bool.false_eq_true, o_neg', o_not', o_add', o_sub', o_mul', o_div', o_mod', o_abs', o_int', o_intb', o_min', o_max', o_gcd', o_lt', o_le', o_gt', o_ge', o_eq', o_ne', o_lenl, o_lent, o_idxl, o_idxt, o_isn', o_isnn', t_bool, t_int, nxt_nx, nxt_rt, nxt_bk, nxt_ct, nxt_if, rb_rt, rb_nx, rb_if, p_nm, p_tup, p_lst, p_nil, p_cons, cmO, c_nm, c_tup, c_lst, c_nil, c_cons, stO, Ow.tags, frz_n, frz_c, ff_nil, ff_cons, f1_none, f1_sh, f1_top, f1_own, w_nil, w_cons, List.set_cons_zero, List.set_cons_succ, intD, lstD, lvl, forF, whlC, lcF, and_self, Bool.not_eq_true', decide_eq_true_eq, decide_eq_false_iff_not, Bool.and_eq_true, Bool.and_eq_false_imp, and_true, true_and, own_q, oq_own, oq_top, put_o, put_t, io_int, io_bool, io_str, io_own, hasT_n, hasT_c, Nat.reduceBEq, Bool.false_and, Bool.and_false, Bool.true_and, Bool.and_true, Bool.or_false, Bool.false_or, Bool.or_true, Bool.true_or, beq_self_eq_true, not_true_eq_false, not_false_eq_true, List.append_assoc, dl_e, dt_e, ta_n, ta_c, List.all_cons, List.all_nil, Nat.zero_le, call_q, cq_0, cq_1, cq_2, atD_0, atD_1, vr_pair, nmS_pair, si_list, si_tup, y_lc, reduceCtorEq, y_tcons, y_tnil, ite_sb, pk_var, pq_sh, pq_top, pq_own, pk_op, pk_call, pk_lit, pk_con, pk_lst, pk_tup, pk_lc, pk_ife, pk_or, pk_and, nmS_list, nmT_ints, nmT_snoc, vr_int, vr_bool, vr_str, vr_none, o_rev, o_slc1, t_none, t_list, t_tup, isn_none, isn_int, isn_tup, isn_list, isn_bool, io_none, o_addl, List.isEmpty_cons, List.isEmpty_nil, s_par3, s_appK, s_ret2, r2_own, s_appM, s_forT, io_lsh, io_top, bq_ft, bq_tf, List.length_map, q, inn, eiM, oiM (fun m : Mk => (m.1 : Int))]
  have es : ((St w ds).1.map fun col => ((encNs (marks col), Ow.own) : R)).map (fun x => x.1) = (secV w ds).map encNs := by unfold secV; rw [List.map_map, List.map_map]; rfl
  have os : ((St w ds).1.map fun col => ((encNs (marks col), Ow.own) : R)).all isOwn = true := by
    rw [List.all_map]
    exact List.all_eq_true.mpr fun x _ => rfl
  have lcn : ∀ (a0 a1 a2 a3 a4 a5 a6 a7 a9 a10 a11 a12 a13 a14 a15 a17 a18 : Option R), lcRun (lcF Φ [16] (.lc [19, 20] (.var 20) (.tp (.cons (.nm 19) (.cons (.nm 20) .nil))) (.ex (.var 16)) .nil) (.nm 16) .nil [(8, false)] [a0, a1, a2, a3, a4, a5, a6, a7, some (encCols (St w ds).1, .own), a9, a10, a11, a12, a13, a14, a15, none, a17, a18, none, none]) ((St w ds).1.map encCol) = some ((St w ds).1.map fun col => ((encNs (col.map (·.2)), Ow.own) : R)) := fun a0 a1 a2 a3 a4 a5 a6 a7 a9 a10 a11 a12 a13 a14 a15 a17 a18 => by
    refine lc_map encCol _ _ _ fun col hc => ?_
    have q : col.length ≤ 1000000 := by have := sb col hc; omega
    unfold encCol encNs
    simp -implicitDefEqProofs only [List.map, param, List.length_cons, List.length_nil, s_cons, s_nil, s_iff, s_asg, s_par, s_drop, s_app, s_for, s_whl, s_kill, s_brk, s_cnt, s_pass, s_nev, s_retv, s_retN, r_lit, r_con, r_op, r_call, r_and, r_or, r_ife, r_chain, r_lst, r_tup, r_lc, rv, y_op, y_call, y_and, y_or, y_ife, y_chain, y_one, y_more, y_lst, y_tup, y_nil, y_cons, y_pnil, y_pcons, y_var, y_lit, y_con, y_ex, y_rng1, y_rng2, y_enum, y_zip, Nat.sub_self, List.replicate, List.cons_append, List.nil_append, List.append_nil, List.getElem?_cons_zero, List.getElem?_cons_succ, vr_sh, vr_own, vr_top, Option.bind_some, Option.map_some, Option.bind_none, Option.map_none, f_le, f_lt, f_gt, f_ge, boolD_some, cho_some, nmS_boolD, nmS_int, nmS_str, nmS_none, nmS_nil, Nat.reduceSub, Nat.reduceAdd, Nat.reduceLT, Nat.reduceLeDiff, ite_b, ite_true, ite_false, if_true, if_false, Bool.false_eq_true, o_neg', o_not', o_add', o_sub', o_mul', o_div', o_mod', o_abs', o_int', o_intb', o_min', o_max', o_gcd', o_lt', o_le', o_gt', o_ge', o_eq', o_ne', o_lenl, o_lent, o_idxl, o_idxt, o_isn', o_isnn', t_bool, t_int, nxt_nx, nxt_rt, nxt_bk, nxt_ct, nxt_if, rb_rt, rb_nx, rb_if, p_nm, p_tup, p_lst, p_nil, p_cons, cmO, c_nm, c_tup, c_lst, c_nil, c_cons, stO, Ow.tags, frz_n, frz_c, ff_nil, ff_cons, f1_none, f1_sh, f1_top, f1_own, w_nil, w_cons, List.set_cons_zero, List.set_cons_succ, intD, lstD, lvl, forF, whlC, lcF, and_self, Bool.not_eq_true', decide_eq_true_eq, decide_eq_false_iff_not, Bool.and_eq_true, Bool.and_eq_false_imp, and_true, true_and, own_q, oq_own, oq_top, put_o, put_t, io_int, io_bool, io_str, io_own, hasT_n, hasT_c, Nat.reduceBEq, Bool.false_and, Bool.and_false, Bool.true_and, Bool.and_true, Bool.or_false, Bool.false_or, Bool.or_true, Bool.true_or, beq_self_eq_true, not_true_eq_false, not_false_eq_true, List.append_assoc, dl_e, dt_e, ta_n, ta_c, List.all_cons, List.all_nil, Nat.zero_le, call_q, cq_0, cq_1, cq_2, atD_0, atD_1, vr_pair, nmS_pair, si_list, si_tup, y_lc, reduceCtorEq, y_tcons, y_tnil, ite_sb, pk_var, pq_sh, pq_top, pq_own, pk_op, pk_call, pk_lit, pk_con, pk_lst, pk_tup, pk_lc, pk_ife, pk_or, pk_and, nmS_list, nmT_ints, nmT_snoc, vr_int, vr_bool, vr_str, vr_none, o_rev, o_slc1, t_none, t_list, t_tup, isn_none, isn_int, isn_tup, isn_list, isn_bool, io_none, o_addl, List.isEmpty_cons, List.isEmpty_nil, s_par3, s_appK, s_ret2, r2_own, s_appM, s_forT, io_lsh, io_top, bq_ft, bq_tf, List.length_map, q, inn2, ei, oiM (fun m : Mk => (m.2 : Int))]
  have en2 : ((St w ds).1.map fun col => ((encNs (col.map (·.2)), Ow.own) : R)).map (fun x => x.1) = (numV w ds).map encNs := by unfold numV; rw [List.map_map, List.map_map]; rfl
  have on2 : ((St w ds).1.map fun col => ((encNs (col.map (·.2)), Ow.own) : R)).all isOwn = true := by
    rw [List.all_map]
    exact List.all_eq_true.mpr fun x _ => rfl
  have l1 : (St w ds).1.length ≤ 1000000 := by omega
  have l2 : (secV w ds).length ≤ 1000000 := by omega
  have vA : ∀ n, varR n (some (some (encAcc w ds, .own))) = some (encAcc w ds, .sh [(n, true)]) := fun n => rfl
  have sne : secV w ds ≠ [] := fun z => by
    rw [z] at ssl
    have : (0 : Nat) = w := ssl
    omega
  obtain ⟨M, hM, mx⟩ := max_lens (secV w ds) sne
  have lcl : ∀ (g : List Tag) (a0 a1 a2 a3 a4 a5 a6 a7 a8 a9 a10 a11 a12 a13 a14 a15 a17 a18 a19 a20 : Option R), lcRun (lcF Φ [16] (.op .len (.cons (.var 16) .nil)) (.nm 16) .nil g [a0, a1, a2, a3, a4, a5, a6, a7, a8, a9, a10, a11, a12, a13, a14, a15, none, a17, a18, a19, a20]) ((secV w ds).map encNs) = some ((secV w ds).map fun c => ((PyData.int (c.length : Int), Ow.sh []) : R)) := fun g a0 a1 a2 a3 a4 a5 a6 a7 a8 a9 a10 a11 a12 a13 a14 a15 a17 a18 a19 a20 => by
    refine lc_map encNs _ _ _ fun c hc => ?_
    unfold encNs
    cases g with
    | nil => simp -implicitDefEqProofs only [List.map, param, List.length_cons, List.length_nil, s_cons, s_nil, s_iff, s_asg, s_par, s_drop, s_app, s_for, s_whl, s_kill, s_brk, s_cnt, s_pass, s_nev, s_retv, s_retN, r_lit, r_con, r_op, r_call, r_and, r_or, r_ife, r_chain, r_lst, r_tup, r_lc, rv, y_op, y_call, y_and, y_or, y_ife, y_chain, y_one, y_more, y_lst, y_tup, y_nil, y_cons, y_pnil, y_pcons, y_var, y_lit, y_con, y_ex, y_rng1, y_rng2, y_enum, y_zip, Nat.sub_self, List.replicate, List.cons_append, List.nil_append, List.append_nil, List.getElem?_cons_zero, List.getElem?_cons_succ, vr_sh, vr_own, vr_top, Option.bind_some, Option.map_some, Option.bind_none, Option.map_none, f_le, f_lt, f_gt, f_ge, boolD_some, cho_some, nmS_boolD, nmS_int, nmS_str, nmS_none, nmS_nil, Nat.reduceSub, Nat.reduceAdd, Nat.reduceLT, Nat.reduceLeDiff, ite_b, ite_true, ite_false, if_true, if_false, Bool.false_eq_true, o_neg', o_not', o_add', o_sub', o_mul', o_div', o_mod', o_abs', o_int', o_intb', o_min', o_max', o_gcd', o_lt', o_le', o_gt', o_ge', o_eq', o_ne', o_lenl, o_lent, o_idxl, o_idxt, o_isn', o_isnn', t_bool, t_int, nxt_nx, nxt_rt, nxt_bk, nxt_ct, nxt_if, rb_rt, rb_nx, rb_if, p_nm, p_tup, p_lst, p_nil, p_cons, cmO, c_nm, c_tup, c_lst, c_nil, c_cons, stO, Ow.tags, frz_n, frz_c, ff_nil, ff_cons, f1_none, f1_sh, f1_top, f1_own, w_nil, w_cons, List.set_cons_zero, List.set_cons_succ, intD, lstD, lvl, forF, whlC, lcF, and_self, Bool.not_eq_true', decide_eq_true_eq, decide_eq_false_iff_not, Bool.and_eq_true, Bool.and_eq_false_imp, and_true, true_and, own_q, oq_own, oq_top, put_o, put_t, io_int, io_bool, io_str, io_own, hasT_n, hasT_c, Nat.reduceBEq, Bool.false_and, Bool.and_false, Bool.true_and, Bool.and_true, Bool.or_false, Bool.false_or, Bool.or_true, Bool.true_or, beq_self_eq_true, not_true_eq_false, not_false_eq_true, List.append_assoc, dl_e, dt_e, ta_n, ta_c, List.all_cons, List.all_nil, Nat.zero_le, call_q, cq_0, cq_1, cq_2, atD_0, atD_1, vr_pair, nmS_pair, si_list, si_tup, y_lc, reduceCtorEq, y_tcons, y_tnil, ite_sb, pk_var, pq_sh, pq_top, pq_own, pk_op, pk_call, pk_lit, pk_con, pk_lst, pk_tup, pk_lc, pk_ife, pk_or, pk_and, nmS_list, nmT_ints, nmT_snoc, vr_int, vr_bool, vr_str, vr_none, o_rev, o_slc1, t_none, t_list, t_tup, isn_none, isn_int, isn_tup, isn_list, isn_bool, io_none, o_addl, List.isEmpty_cons, List.isEmpty_nil, s_par3, s_appK, s_ret2, r2_own, s_appM, s_forT, io_lsh, io_top, bq_ft, bq_tf, List.length_map]
    | cons t g => simp -implicitDefEqProofs only [List.map, param, List.length_cons, List.length_nil, s_cons, s_nil, s_iff, s_asg, s_par, s_drop, s_app, s_for, s_whl, s_kill, s_brk, s_cnt, s_pass, s_nev, s_retv, s_retN, r_lit, r_con, r_op, r_call, r_and, r_or, r_ife, r_chain, r_lst, r_tup, r_lc, rv, y_op, y_call, y_and, y_or, y_ife, y_chain, y_one, y_more, y_lst, y_tup, y_nil, y_cons, y_pnil, y_pcons, y_var, y_lit, y_con, y_ex, y_rng1, y_rng2, y_enum, y_zip, Nat.sub_self, List.replicate, List.cons_append, List.nil_append, List.append_nil, List.getElem?_cons_zero, List.getElem?_cons_succ, vr_sh, vr_own, vr_top, Option.bind_some, Option.map_some, Option.bind_none, Option.map_none, f_le, f_lt, f_gt, f_ge, boolD_some, cho_some, nmS_boolD, nmS_int, nmS_str, nmS_none, nmS_nil, Nat.reduceSub, Nat.reduceAdd, Nat.reduceLT, Nat.reduceLeDiff, ite_b, ite_true, ite_false, if_true, if_false, Bool.false_eq_true, o_neg', o_not', o_add', o_sub', o_mul', o_div', o_mod', o_abs', o_int', o_intb', o_min', o_max', o_gcd', o_lt', o_le', o_gt', o_ge', o_eq', o_ne', o_lenl, o_lent, o_idxl, o_idxt, o_isn', o_isnn', t_bool, t_int, nxt_nx, nxt_rt, nxt_bk, nxt_ct, nxt_if, rb_rt, rb_nx, rb_if, p_nm, p_tup, p_lst, p_nil, p_cons, cmO, c_nm, c_tup, c_lst, c_nil, c_cons, stO, Ow.tags, frz_n, frz_c, ff_nil, ff_cons, f1_none, f1_sh, f1_top, f1_own, w_nil, w_cons, List.set_cons_zero, List.set_cons_succ, intD, lstD, lvl, forF, whlC, lcF, and_self, Bool.not_eq_true', decide_eq_true_eq, decide_eq_false_iff_not, Bool.and_eq_true, Bool.and_eq_false_imp, and_true, true_and, own_q, oq_own, oq_top, put_o, put_t, io_int, io_bool, io_str, io_own, hasT_n, hasT_c, Nat.reduceBEq, Bool.false_and, Bool.and_false, Bool.true_and, Bool.and_true, Bool.or_false, Bool.false_or, Bool.or_true, Bool.true_or, beq_self_eq_true, not_true_eq_false, not_false_eq_true, List.append_assoc, dl_e, dt_e, ta_n, ta_c, List.all_cons, List.all_nil, Nat.zero_le, call_q, cq_0, cq_1, cq_2, atD_0, atD_1, vr_pair, nmS_pair, si_list, si_tup, y_lc, reduceCtorEq, y_tcons, y_tnil, ite_sb, pk_var, pq_sh, pq_top, pq_own, pk_op, pk_call, pk_lit, pk_con, pk_lst, pk_tup, pk_lc, pk_ife, pk_or, pk_and, nmS_list, nmT_ints, nmT_snoc, vr_int, vr_bool, vr_str, vr_none, o_rev, o_slc1, t_none, t_list, t_tup, isn_none, isn_int, isn_tup, isn_list, isn_bool, io_none, o_addl, List.isEmpty_cons, List.isEmpty_nil, s_par3, s_appK, s_ret2, r2_own, s_appM, s_forT, io_lsh, io_top, bq_ft, bq_tf, List.length_map]
  have el : ((secV w ds).map fun c => ((PyData.int (c.length : Int), Ow.sh []) : R)).map (fun x => x.1) = (secV w ds).map fun c => PyData.int (c.length : Int) := by rw [List.map_map]; rfl
  have ol := oiM (fun c : List Nat => (c.length : Int)) (secV w ds)
  have lp : forRun (forF Φ W (.nm 7) b2_law) [7, 14, 15, 17, 18] ((List.range w).map fun (i : Nat) => PyData.int (i : Int)) [none, some (.list dr, .own), some (.int (w : Int), .sh []), some (.list (ds.map encD), .own), some (.str (encDs ds).shown, .sh []), none, some (encSec (secV w ds), .own), none, some (encCols (St w ds).1, .own), some (encNs (lays ds), .own), some (.list ((tk w ds).map encPart), .own), some (encSec (secV w ds), .own), some (encTk (tk w ds), .own), some (encAcc w ds, .own), none, none, none, none, none, none, none] =
      some (.nx [none, some (.list dr, .own), some (.int (w : Int), .sh []), some (.list (ds.map encD), .own), some (.str (encDs ds).shown, .sh []), none, some (encSec (secV w ds), .own), none, some (encCols (St w ds).1, .own), some (encNs (lays ds), .own), some (.list ((tk w ds).map encPart), .own), some (encSec (secV w ds), .own), some (encTk (tk w ds), .own), some (encAcc w ds, .own), none, none, none, none, none, none, none]) := by
    obtain ⟨ρ', e1, e2⟩ := for_inv (k := [7, 14, 15, 17, 18]) (fun (i : Nat) => PyData.int (i : Int)) (fun i ρ => ρ = [none, some (.list dr, .own), some (.int (w : Int), .sh []), some (.list (ds.map encD), .own), some (.str (encDs ds).shown, .sh []), none, some (encSec (secV w ds), .own), none, some (encCols (St w ds).1, .own), some (encNs (lays ds), .own), some (.list ((tk w ds).map encPart), .own), some (encSec (secV w ds), .own), some (encTk (tk w ds), .own), some (encAcc w ds, .own), none, none, none, none, none, none, none])
      (forF Φ W (.nm 7) b2_law) (fun i ρ e => by rw [e]; simp -implicitDefEqProofs only [List.map, param, List.length_cons, List.length_nil, s_cons, s_nil, s_iff, s_asg, s_par, s_drop, s_app, s_for, s_whl, s_kill, s_brk, s_cnt, s_pass, s_nev, s_retv, s_retN, r_lit, r_con, r_op, r_call, r_and, r_or, r_ife, r_chain, r_lst, r_tup, r_lc, rv, y_op, y_call, y_and, y_or, y_ife, y_chain, y_one, y_more, y_lst, y_tup, y_nil, y_cons, y_pnil, y_pcons, y_var, y_lit, y_con, y_ex, y_rng1, y_rng2, y_enum, y_zip, Nat.sub_self, List.replicate, List.cons_append, List.nil_append, List.append_nil, List.getElem?_cons_zero, List.getElem?_cons_succ, vr_sh, vr_own, vr_top, Option.bind_some, Option.map_some, Option.bind_none, Option.map_none, f_le, f_lt, f_gt, f_ge, boolD_some, cho_some, nmS_boolD, nmS_int, nmS_str, nmS_none, nmS_nil, Nat.reduceSub, Nat.reduceAdd, Nat.reduceLT, Nat.reduceLeDiff, ite_b, ite_true, ite_false, if_true, if_false, Bool.false_eq_true, o_neg', o_not', o_add', o_sub', o_mul', o_div', o_mod', o_abs', o_int', o_intb', o_min', o_max', o_gcd', o_lt', o_le', o_gt', o_ge', o_eq', o_ne', o_lenl, o_lent, o_idxl, o_idxt, o_isn', o_isnn', t_bool, t_int, nxt_nx, nxt_rt, nxt_bk, nxt_ct, nxt_if, rb_rt, rb_nx, rb_if, p_nm, p_tup, p_lst, p_nil, p_cons, cmO, c_nm, c_tup, c_lst, c_nil, c_cons, stO, Ow.tags, frz_n, frz_c, ff_nil, ff_cons, f1_none, f1_sh, f1_top, f1_own, w_nil, w_cons, List.set_cons_zero, List.set_cons_succ, intD, lstD, lvl, forF, whlC, lcF, and_self, Bool.not_eq_true', decide_eq_true_eq, decide_eq_false_iff_not, Bool.and_eq_true, Bool.and_eq_false_imp, and_true, true_and, own_q, oq_own, oq_top, put_o, put_t, io_int, io_bool, io_str, io_own, hasT_n, hasT_c, Nat.reduceBEq, Bool.false_and, Bool.and_false, Bool.true_and, Bool.and_true, Bool.or_false, Bool.false_or, Bool.or_true, Bool.true_or, beq_self_eq_true, not_true_eq_false, not_false_eq_true, List.append_assoc, dl_e, dt_e, ta_n, ta_c, List.all_cons, List.all_nil, Nat.zero_le, call_q, cq_0, cq_1, cq_2, atD_0, atD_1, vr_pair, nmS_pair, si_list, si_tup, y_lc, reduceCtorEq, y_tcons, y_tnil, ite_sb, pk_var, pq_sh, pq_top, pq_own, pk_op, pk_call, pk_lit, pk_con, pk_lst, pk_tup, pk_lc, pk_ife, pk_or, pk_and, nmS_list, nmT_ints, nmT_snoc, vr_int, vr_bool, vr_str, vr_none, o_rev, o_slc1, t_none, t_list, t_tup, isn_none, isn_int, isn_tup, isn_list, isn_bool, io_none, o_addl, List.isEmpty_cons, List.isEmpty_nil, s_par3, s_appK, s_ret2, r2_own, s_appM, s_forT, io_lsh, io_top, bq_ft, bq_tf]) (List.range w) 0 _ rfl (fun j c ρ hc e => by
        subst e
        obtain ⟨hl, rfl⟩ : j < w ∧ c = j := by
          obtain ⟨h1, h2⟩ := List.getElem?_eq_some_iff.mp hc
          rw [List.length_range] at h1
          rw [List.getElem_range] at h2
          exact ⟨h1, h2.symm⟩
        obtain ⟨ρ', c1, c2⟩ := every_ok (Φ := Φ) (W := W) w w4.2 ds hn ok c hl dr (ds.map encD) ((tk w ds).map encPart) (St w ds).1 (encSec (secV w ds)) (encAcc w ds) (encDs ds).shown
        exact ⟨ρ', .inl c1, c2⟩)
    rw [e1, e2]
  obtain ⟨s0, hs0⟩ : ∃ s0, (secV w ds)[0]? = some s0 := by
    cases e : secV w ds with
    | nil => exact absurd e sne
    | cons x y => exact ⟨x, rfl⟩
  obtain ⟨s1, hs1, ht1⟩ := ext_sec w ds s0 hs0
  have at0 : atD ((secV w ds).map encNs) 0 = some (.list (nsD s0)) := at_get encNs _ 0 s0 hs0
  have at1 : atD ((secV w (ds ++ extD ds)).map encNs) 0 = some (.list (nsD s1)) := at_get encNs _ 0 s1 hs1
  have lde : ds.length + (extD ds).length ≤ 1000000 := by have := ext_len ds hn; rw [List.length_append] at this; omega
  have addD : ∀ g h, opR .add [(.list (ds.map encD), g), (.list ((extD ds).map encD), h)] = some (.list ((ds ++ extD ds).map encD), .own) := fun g h => by
    rw [o_addl, if_pos (by rw [List.length_map, List.length_map]; exact lde), ← List.map_append, nmT_map flatD]
  have sl0 : ∀ g h, opR (.slc false true) [(.list (nsD s1), g), (.int (s0.length : Int), h)] = some (.list (nsD s0), .own) := fun g h => by
    have e : cutD (nsD s1) none (some (s0.length : Int)) = nsD s0 := by
      rw [cut_to, ← ht1]
      unfold nsD
      rw [ht1, ← List.map_take, ht1]
    simp only [opR, opF, List.map, oSlc, e, nT_ns]
  have ne0 : ∀ g h : List Tag, opR .ne [(.list (nsD s0), g), (.list (nsD s0), h)] = some (.bool false, .sh []) := fun g h => o_ne_self (pl_ns s0) (by show (encNs s0).depth ≤ 64; have := dep_ns s0; omega) g h
  obtain ⟨n0, hn0⟩ : ∃ n0, (numV w ds)[0]? = some n0 := by
    cases e : numV w ds with
    | nil =>
      have := num_len w ds
      rw [e] at this
      have : (0 : Nat) = w := this
      omega
    | cons x y => exact ⟨x, rfl⟩
  have ls0 : s0.length < 1000000 := by have := (sec_bd w ds ok s0 (List.mem_of_getElem? hs0)).1; omega
  have ln0 : n0.length < 1000000 := by have := (num_bd w ds ok n0 (List.mem_of_getElem? hn0)).1; omega
  have kq11 : ∀ z, killQ (some (some (encSec (secV w ds), .own))) [0] z = z := fun z => kq_list (es := nsD s0) (by
    show ((secV w ds).map encNs)[0]? = _
    rw [List.getElem?_map, hs0]
    rfl) (by rw [nsD_len]; exact ls0)
  have kq13 : ∀ z, killQ (some (some (encAcc w ds, .own))) [0, 1] z = z := fun z => kq_list (es := nsD n0) (by
    show ((numV w ds).map encNs)[0]? = _
    rw [List.getElem?_map, hn0]
    rfl) (by rw [nsD_len]; exact ln0)
  have ltk : (tk w ds).length < 1000000 := by have := (tk_bd w ds ok).1; omega
  refine ⟨0, (run_fd (by rfl)).trans ?_⟩
  unfold encCols encDs encTk encAcc encSec at *
  have en9 : encNs (lays ds) = .list (nsD (lays ds)) := rfl
  rw [en9] at f8 f5 ra na ft vA ql lp kq13
  by_cases hq : M ≤ 6
  · have f8' := f8 (fun c hc => by have := hM c hc; omega)
    simp -implicitDefEqProofs only [List.map, param, List.length_cons, List.length_nil, s_cons, s_nil, s_iff, s_asg, s_par, s_drop, s_app, s_for, s_whl, s_kill, s_brk, s_cnt, s_pass, s_nev, s_retv, s_retN, r_lit, r_con, r_op, r_call, r_and, r_or, r_ife, r_chain, r_lst, r_tup, r_lc, rv, y_op, y_call, y_and, y_or, y_ife, y_chain, y_one, y_more, y_lst, y_tup, y_nil, y_cons, y_pnil, y_pcons, y_var, y_lit, y_con, y_ex, y_rng1, y_rng2, y_enum, y_zip, Nat.sub_self, List.replicate, List.cons_append, List.nil_append, List.append_nil, List.getElem?_cons_zero, List.getElem?_cons_succ, vr_sh, vr_own, vr_top, Option.bind_some, Option.map_some, Option.bind_none, Option.map_none, f_le, f_lt, f_gt, f_ge, boolD_some, cho_some, nmS_boolD, nmS_int, nmS_str, nmS_none, nmS_nil, Nat.reduceSub, Nat.reduceAdd, Nat.reduceLT, Nat.reduceLeDiff, ite_b, ite_true, ite_false, if_true, if_false, Bool.false_eq_true, o_neg', o_not', o_add', o_sub', o_mul', o_div', o_mod', o_abs', o_int', o_intb', o_min', o_max', o_gcd', o_lt', o_le', o_gt', o_ge', o_eq', o_ne', o_lenl, o_lent, o_idxl, o_idxt, o_isn', o_isnn', t_bool, t_int, nxt_nx, nxt_rt, nxt_bk, nxt_ct, nxt_if, rb_rt, rb_nx, rb_if, p_nm, p_tup, p_lst, p_nil, p_cons, cmO, c_nm, c_tup, c_lst, c_nil, c_cons, stO, Ow.tags, frz_n, frz_c, ff_nil, ff_cons, f1_none, f1_sh, f1_top, f1_own, w_nil, w_cons, List.set_cons_zero, List.set_cons_succ, intD, lstD, lvl, forF, whlC, lcF, and_self, Bool.not_eq_true', decide_eq_true_eq, decide_eq_false_iff_not, Bool.and_eq_true, Bool.and_eq_false_imp, and_true, true_and, own_q, oq_own, oq_top, put_o, put_t, io_int, io_bool, io_str, io_own, hasT_n, hasT_c, Nat.reduceBEq, Bool.false_and, Bool.and_false, Bool.true_and, Bool.and_true, Bool.or_false, Bool.false_or, Bool.or_true, Bool.true_or, beq_self_eq_true, not_true_eq_false, not_false_eq_true, List.append_assoc, dl_e, dt_e, ta_n, ta_c, List.all_cons, List.all_nil, Nat.zero_le, call_q, cq_0, cq_1, cq_2, atD_0, atD_1, vr_pair, nmS_pair, si_list, si_tup, y_lc, reduceCtorEq, y_tcons, y_tnil, ite_sb, pk_var, pq_sh, pq_top, pq_own, pk_op, pk_call, pk_lit, pk_con, pk_lst, pk_tup, pk_lc, pk_ife, pk_or, pk_and, nmS_list, nmT_ints, nmT_snoc, vr_int, vr_bool, vr_str, vr_none, o_rev, o_slc1, t_none, t_list, t_tup, isn_none, isn_int, isn_tup, isn_list, isn_bool, io_none, o_addl, List.isEmpty_cons, List.isEmpty_nil, s_par3, s_appK, s_ret2, r2_own, s_appM, s_forT, io_lsh, io_top, bq_ft, bq_tf, f9, f10, ew, f11, rd, r1, en, range_items, List.length_map, List.length_range, lw, lc0, e0, o0, ft, l1, l2, lcs, es, os, f3a, f4, f5, rs, rt, ra, ns, nt, na, lcn, en2, on2, vA, lcl, el, ol, mx, hq, f8', isnt_true, lp, decide_true, ext_mul, addD, f3b, at0, at1, nsD_len, sl0, ne0, kq11, kq13, ltk, qs, ql, qt, qd]
  · simp -implicitDefEqProofs only [List.map, param, List.length_cons, List.length_nil, s_cons, s_nil, s_iff, s_asg, s_par, s_drop, s_app, s_for, s_whl, s_kill, s_brk, s_cnt, s_pass, s_nev, s_retv, s_retN, r_lit, r_con, r_op, r_call, r_and, r_or, r_ife, r_chain, r_lst, r_tup, r_lc, rv, y_op, y_call, y_and, y_or, y_ife, y_chain, y_one, y_more, y_lst, y_tup, y_nil, y_cons, y_pnil, y_pcons, y_var, y_lit, y_con, y_ex, y_rng1, y_rng2, y_enum, y_zip, Nat.sub_self, List.replicate, List.cons_append, List.nil_append, List.append_nil, List.getElem?_cons_zero, List.getElem?_cons_succ, vr_sh, vr_own, vr_top, Option.bind_some, Option.map_some, Option.bind_none, Option.map_none, f_le, f_lt, f_gt, f_ge, boolD_some, cho_some, nmS_boolD, nmS_int, nmS_str, nmS_none, nmS_nil, Nat.reduceSub, Nat.reduceAdd, Nat.reduceLT, Nat.reduceLeDiff, ite_b, ite_true, ite_false, if_true, if_false, Bool.false_eq_true, o_neg', o_not', o_add', o_sub', o_mul', o_div', o_mod', o_abs', o_int', o_intb', o_min', o_max', o_gcd', o_lt', o_le', o_gt', o_ge', o_eq', o_ne', o_lenl, o_lent, o_idxl, o_idxt, o_isn', o_isnn', t_bool, t_int, nxt_nx, nxt_rt, nxt_bk, nxt_ct, nxt_if, rb_rt, rb_nx, rb_if, p_nm, p_tup, p_lst, p_nil, p_cons, cmO, c_nm, c_tup, c_lst, c_nil, c_cons, stO, Ow.tags, frz_n, frz_c, ff_nil, ff_cons, f1_none, f1_sh, f1_top, f1_own, w_nil, w_cons, List.set_cons_zero, List.set_cons_succ, intD, lstD, lvl, forF, whlC, lcF, and_self, Bool.not_eq_true', decide_eq_true_eq, decide_eq_false_iff_not, Bool.and_eq_true, Bool.and_eq_false_imp, and_true, true_and, own_q, oq_own, oq_top, put_o, put_t, io_int, io_bool, io_str, io_own, hasT_n, hasT_c, Nat.reduceBEq, Bool.false_and, Bool.and_false, Bool.true_and, Bool.and_true, Bool.or_false, Bool.false_or, Bool.or_true, Bool.true_or, beq_self_eq_true, not_true_eq_false, not_false_eq_true, List.append_assoc, dl_e, dt_e, ta_n, ta_c, List.all_cons, List.all_nil, Nat.zero_le, call_q, cq_0, cq_1, cq_2, atD_0, atD_1, vr_pair, nmS_pair, si_list, si_tup, y_lc, reduceCtorEq, y_tcons, y_tnil, ite_sb, pk_var, pq_sh, pq_top, pq_own, pk_op, pk_call, pk_lit, pk_con, pk_lst, pk_tup, pk_lc, pk_ife, pk_or, pk_and, nmS_list, nmT_ints, nmT_snoc, vr_int, vr_bool, vr_str, vr_none, o_rev, o_slc1, t_none, t_list, t_tup, isn_none, isn_int, isn_tup, isn_list, isn_bool, io_none, o_addl, List.isEmpty_cons, List.isEmpty_nil, s_par3, s_appK, s_ret2, r2_own, s_appM, s_forT, io_lsh, io_top, bq_ft, bq_tf, f9, f10, ew, f11, rd, r1, en, range_items, List.length_map, List.length_range, lw, lc0, e0, o0, ft, l1, l2, lcs, es, os, f3a, f4, f5, rs, rt, ra, ns, nt, na, lcn, en2, on2, vA, lcl, el, ol, mx, hq, isnt_true, lp, decide_true, ext_mul, addD, f3b, at0, at1, nsD_len, sl0, ne0, kq11, kq13, ltk, qs, ql, qt, qd]
end
noncomputable def RR (n : Nat) : Fn := run 100000 T n
theorem Rm (k : Nat) (dr : List Int) (i many : Int) (h : 0 ≤ i) (hm : 0 < many) : ∃ m : Nat, RR (k + 1) 10 [.list (dr.map .int), .int i, .int many] = some (.int (m : Int), 0) ∧ (m : Int) < many := by
  obtain ⟨m, e, h1, h2⟩ := dr_mix (Φ := RR k) (W := 100000) dr i many h hm
  refine ⟨m.toNat, ?_, by omega⟩
  rw [Int.toNat_of_nonneg h1]
  exact (run_s (f := fd_law_mix) rfl _).trans e
theorem R1l (k : Nat) (cs : List Col) (n : Nat) (d : Deed) (w : Nat) (hw : w ≤ 4) (hc : cs.length = w) (ok : okD w cs d) (hb : ∀ c ∈ cs, c.length ≤ 900) : ∃ lv, (lv = 1 ∨ lv = 2) ∧ RR (k + 1) 1 [encCols cs, encD d, .int (n : Int)] = some (encCols (stepD cs n d), lv) := by
  cases d with
  | lay m => exact ⟨2, .inr rfl, (run_s (f := fd_done) rfl _).trans (doneL_ok cs m n (fun c h => by have := hb c h; omega) (by omega))⟩
  | cut f l d =>
    obtain ⟨lv, h, e⟩ := doneC_ok (Φ := RR k) (W := 100000) cs f l d n (by rw [hc]; exact ok) (by omega)
    exact ⟨lv, h, (run_s (f := fd_done) rfl _).trans e⟩
theorem R2b (k : Nat) (w : Nat) (hw : 1 ≤ w ∧ w ≤ 4) (ds : List Deed) (hn : ds.length ≤ 40) (ok : okAll w ds) : ∃ lv, (lv = 1 ∨ lv = 2) ∧ RR (k + 2) 2 [.int (w : Int), encDs ds] = some (.list (rowsB w ds (ds.length + 1)), lv) := by
  obtain ⟨lv, h, e⟩ := behind_ok (Φ := RR (k + 1)) (W := 100000) w ds hw hn ok (fun d hd => (run_s (f := fd_is_deed) rfl _).trans (is_deed_ok w d hd)) (fun cs n d hc o hb => R1l k cs n d w hw.2 hc o hb)
  exact ⟨lv, h, (run_s (f := fd_all_behind) rfl _).trans e⟩
theorem R3r (k : Nat) (w : Nat) (hw : 1 ≤ w ∧ w ≤ 4) (ds : List Deed) (hn : ds.length ≤ 40) (ok : okAll w ds) : RR (k + 3) 3 [.int (w : Int), encDs ds] = some (encSec (secV w ds), 2) := by
  obtain ⟨lv, h, e⟩ := R2b k w hw ds hn ok
  exact (run_s (f := fd_run) rfl _).trans (run_ok w ds (by omega) (by omega) lv h e)
theorem R4t (k : Nat) (w : Nat) (hw : 1 ≤ w ∧ w ≤ 4) (ds : List Deed) (hn : ds.length ≤ 40) (ok : okAll w ds) : RR (k + 3) 4 [.int (w : Int), encDs ds] = some (encTk (tk w ds), 2) := by
  obtain ⟨lv, h, e⟩ := R2b k w hw ds hn ok
  exact (run_s (f := fd_taken) rfl _).trans (taken_ok w ds hw hn ok lv h e)
theorem R5a (k : Nat) (w : Nat) (hw : 1 ≤ w ∧ w ≤ 4) (ds : List Deed) (hn : ds.length ≤ 40) (ok : okAll w ds) : RR (k + 3) 5 [.int (w : Int), encDs ds] = some (encAcc w ds, 2) := by
  obtain ⟨lv, h, e⟩ := R2b k w hw ds hn ok
  exact (run_s (f := fd_account_of) rfl _).trans (account_ok w ds (by omega) (by omega) lv h e)
theorem R8i (k : Nat) (w : Nat) (hw : 1 ≤ w ∧ w ≤ 4) (ds : List Deed) (hn : ds.length ≤ 40) (ok : okAll w ds) (h6 : ∀ c ∈ secV w ds, c.length ≤ 6) : RR (k + 2) 8 [encSec (secV w ds), encNs (lays ds), encSec (numV w ds)] = some (.bool true, 0) := by
  have sm := sec_bd w ds ok
  have s1 : ∀ c ∈ secV w ds, ∀ x ∈ c, 1 ≤ x := fun c hc x hx => by
    obtain ⟨col, h1, rfl⟩ := List.mem_map.mp hc
    obtain ⟨m, h2, rfl⟩ := List.mem_map.mp hx
    exact (lays_bd w ds ok m.1 (List.mem_of_getElem? ((St_colOk w ds col h1).2 m h2))).1
  refine (run_s (f := fd_is_account) rfl _).trans (isacc_ok _ _ _ ?_ ?_)
  · exact (run_s (f := fd_check_section) rfl _).trans (csec_ok _ (by rw [sec_len]; exact hw) fun c hc => ⟨h6 c hc, fun m hm => ⟨s1 c hc m hm, (sm c hc).2 m hm⟩⟩)
  · exact (run_s (f := fd_is_right) rfl _).trans (right_ok w ds (by omega) (by omega) (lays_bd w ds ok))
theorem law_run (ns : List Int) (hn : ns.length ≤ 63) : ∃ lv, RR 14 12 [.list (ns.map .int)] = some (.bool true, lv) := by
  obtain ⟨dr, f9, _⟩ := draws_ok (Φ := RR 12) (W := 100000) ns hn
  obtain ⟨m, f10, hm⟩ := Rm 12 dr 0 4 (by omega) (by omega)
  obtain ⟨ds, ok, hd, f11⟩ := deeds_ok (Φ := RR 12) (W := 100000) (.list (dr.map .int)) 10 (1 + m) (by omega) (fun i many h1 h2 => Rm 11 dr i many h1 h2)
  obtain ⟨lv, e⟩ := law_ok (Φ := RR 13) (W := 100000) (.list (ns.map .int)) (dr.map .int) (1 + m) m (by omega) rfl ds hd ok ((run_s (f := fd_law_draws) rfl _).trans f9) f10 ((run_s (f := fd_law_deeds) rfl _).trans f11)
    (fun ds ok hd => R3r 10 (1 + m) (by omega) ds hd ok) (R4t 10 (1 + m) (by omega) ds hd ok) (R5a 10 (1 + m) (by omega) ds hd ok) (R8i 11 (1 + m) (by omega) ds hd ok)
  exact ⟨lv, (run_s (f := fd_law) rfl _).trans e⟩
theorem law_pure : ∀ ns : List Int, ns.length ≤ 63 → (∀ i ∈ ns, Builtin.Int.intBits i ≤ 1048576) → ∃ lv, Z.run 100000 T 14 12 [.list (ns.map .int)] = some (.bool true, lv) := fun ns h _ => law_run ns h
end Cl
theorem Cl.law_pureT : ∀ ns : List Int, ns.length ≤ 63 → (∀ i ∈ ns, PySem.Builtin.Int.intBits i ≤ 1048576) → ∃ lv, Z.run 100000 Cl.tx.T 14 12 [.list (ns.map .int)] = some (.bool true, lv) := by rw [Cl.tT]; exact Cl.law_pure
open PySem PySem.W PySem.Calls PyProof.Rows
theorem PySem.Challenge.cw_dugtold_k10_whole_deeds_and_sections_holds : PySem.Challenge.rw_dugtold_k10_whole_deeds_and_sections.Holds := by
  w_on; o_law
  refine HandSHeadRun.head_any (r := OpenLaw.row PySem.Challenge.rw_dugtold_k10_whole_deeds_and_sections) (q := view (OpenLaw.row PySem.Challenge.rw_dugtold_k10_whole_deeds_and_sections).prog [26]) (H := Cl.hkZ) (ob := Cl.obz) (M := 6000) (loose := Cl.names) (d := HandSHeadRun.topDef (OpenLaw.row PySem.Challenge.rw_dugtold_k10_whole_deeds_and_sections).prog 26) (kwd := []) Cl.obz_eq
    (by kernel_rfl) (fun s => by kernel_rfl) Cl.headRun (by kernel_rfl) (by kernel_rfl) (by kernel_rfl) (by rfl) (by first | assumption | decide +kernel) (by decide +kernel) ⟨rfl, rfl, rfl, rfl, rfl, by decide +kernel⟩ ?hw ?hc
  case hw => w_witness2
  case hc =>
    exact Z.walkZ (l := PySem.Challenge.rw_dugtold_k10_whole_deeds_and_sections) (n := 63) (k := 14) (j := 12) (dl := Cl.df_law) (t := Cl.tx) (W := 100000) (x := "script") rfl (by decide) (by kernel_rfl) ⟨rfl, by decide, by decide⟩ Cl.tx_ok rfl (by kernel_rfl) rfl Cl.law_pureT
