import PyProof.Rows.All
import Wide.All
import OpenK.AllK
import Wide.FinOn
import PySem.Str
import PySem.Syntax
import HandS.Base
import HandS.Call
import HandS.List
import HandS.Comp
import HandS.Exc
import HandS.ExcOwn
import HandS.ExcCtx
import HandS.Lambda
import HandS.Words
import HandS.WordsList
import HandS.WordsExc
import HandS.HeadHook1
import HandS.HeadHook2
import HandS.Wide
import HandS.TupAny
import HandS.TupMul
import HandS.TupLe
import HandS.IsInst
import HandS.Deep
import HandS.Text
import HandS.SortOrd
import HandS.SortInts
import HandS.Dict
import HandS.TupSets
import HandS.SetFor
import KE.DataMinMax
import HandS.SortKw
import HandS.Walk
import HandS.Zip
import PyProof.EnumMake
import PyProof.Draws
import KE.GoesMore
import KE.GoesEnum
import HandS.Zip0
import HandS.Style
import HandS.Hot
import HandS.HotCalls
import HandS.ExcIs
import PyProof.Rows.SumAny
import HandS.ExcValue
import HandS.TryOnly
import HandS.Head0
import HandS.Head1
import HandS.Head2
import HandS.HeadEnd
import HandS.HeadHook3
import HandS.HeadHook4
import HandS.HeadWalk
import PyProof.ExcBaseAll.ValueError
import PySem.Challenge.RW_lowpools_k02_whole_one_night
set_option Elab.async false
set_option linter.all false
set_option maxRecDepth 100000
set_option maxHeartbeats 0
/-! LP: plain data, the small language, its evaluator. -/
namespace LP
open PySem
inductive D where
  | non | bl (b : Bool) | int (i : Int) | str (s : Str) | tup (xs : List D) | lst (xs : List D) | scr (ns : List Int) | dct (kvs : List (D × D)) | obj (k : Nat)
/-- no dict, no object within; texts of plain signs -/
def sOk (x : Str) : Bool := x.cps.all (· < 0x110000)
mutual
def D.pl : D → Bool
  | .non => true | .bl _ => true | .int _ => true | .str x => sOk x
  | .tup xs => D.pls xs | .lst xs => D.pls xs | .scr _ => true | .dct _ => false | .obj _ => false
def D.pls : List D → Bool
  | [] => true
  | x :: xs => x.pl && D.pls xs
end
mutual
def D.dep : D → Nat
  | .non => 0 | .bl _ => 0 | .int _ => 0 | .str _ => 0 | .scr _ => 1 | .dct _ => 0 | .obj _ => 0
  | .tup xs => D.deps xs + 1 | .lst xs => D.deps xs + 1
def D.deps : List D → Nat
  | [] => 0
  | x :: xs => max x.dep (D.deps xs)
end
def b2i (b : Bool) : Int := if b then 1 else 0
def eqIs : List Int → List D → Bool
  | [], [] => true
  | n :: ns, .int j :: ys => (n == j) && eqIs ns ys
  | n :: ns, .bl b :: ys => (n == b2i b) && eqIs ns ys
  | _, _ => false
mutual
/-- Python's == on plain data -/
def D.eq : D → D → Bool
  | .non, .non => true
  | .bl a, .bl b => a == b
  | .bl a, .int j => b2i a == j
  | .int i, .bl b => i == b2i b
  | .int i, .int j => i == j
  | .str x, .str y => x == y
  | .tup xs, .tup ys => D.eqs xs ys
  | .lst xs, .lst ys => D.eqs xs ys
  | .scr ns, .lst ys => eqIs ns ys
  | _, _ => false
def D.eqs : List D → List D → Bool
  | [], [] => true
  | x :: xs, y :: ys => D.eq x y && D.eqs xs ys
  | _, _ => false
end
def D.isScr : D → Bool
  | .scr _ => true
  | _ => false
mutual
/-- no script within -/
def D.ns : D → Bool
  | .scr _ => false
  | .tup xs => D.nss xs | .lst xs => D.nss xs
  | _ => true
def D.nss : List D → Bool
  | [] => true
  | x :: xs => x.ns && D.nss xs
end
/-- == is served: plain data, not too deep; the script on the left alone -/
def D.eqOk (a b : D) : Bool := a.pl && b.pl && decide (a.dep ≤ 60) && decide (b.dep ≤ 60) && (a.ns || a.isScr) && b.ns
/-- texts in order -/
def sLt (x y : Str) : Bool := decide (x.cps.toList < y.cps.toList)
mutual
/-- a total order of data that is < where < is served -/
def D.lt : D → D → Bool
  | .int i, .int j => decide (i < j)
  | .str x, .str y => sLt x y
  | .bl a, .bl b => !a && b
  | .tup xs, .tup ys => D.lts xs ys
  | .lst xs, .lst ys => D.lts xs ys
  | _, _ => false
def D.lts : List D → List D → Bool
  | [], [] => false
  | [], _ :: _ => true
  | _ :: _, [] => false
  | x :: xs, y :: ys => if D.eq x y then D.lts xs ys else D.lt x y
end
mutual
/-- of one kind, place by place -/
def D.like : D → D → Bool
  | .int _, .int _ => true
  | .str x, .str y => sOk x && sOk y
  | .tup xs, .tup ys => D.likes xs ys
  | _, _ => false
def D.likes : List D → List D → Bool
  | [], _ => true
  | _, [] => true
  | x :: xs, y :: ys => D.like x y && D.likes xs ys
end
/-- put in behind all that are not greater -/
def D.ins (x : D) : List D → List D
  | [] => [x]
  | y :: ys => if D.lt x y then x :: y :: ys else y :: D.ins x ys
def D.srt : List D → List D
  | [] => []
  | x :: xs => D.ins x (D.srt xs)
/-- sorting is served: all pairs are of one kind, tuples begin with toInts or texts -/
def D.hd : D → Bool
  | .tup (.int _ :: _) => true
  | .tup (.str _ :: _) => true
  | .int _ => true
  | .str _ => true
  | .bl _ => true
  | _ => false
def D.srtOk (xs : List D) : Bool := xs.all (fun x => D.hd x && decide (x.dep ≤ 50) && x.pl && x.ns && xs.all fun y => D.like x y) && decide (xs.length ≤ 100000)
/-! ### results -/
/-- what can change: a list, an instance -/
inductive SO where
  | cell (xs : List D) | ins (c : Str) (fs : List (Str × D)) | dead
abbrev Sto := List SO
def cellAt (S : Sto) (k : Nat) : Option (List D) := match S[k]? with
  | some (.cell xs) => some xs
  | _ => none
inductive Re (α : Type) where
  | ok (a : α) (S : Sto) | ex (c : Str) (S : Sto) | bad
def Re.bind {α β : Type} (r : Re α) (f : α → Sto → Re β) : Re β := match r with
  | .ok a S => f a S
  | .ex c S => .ex c S
  | .bad => .bad
def opt {α β : Type} (o : Option α) (S : Sto) (f : α → Sto → Re β) : Re β := match o with
  | some a => f a S
  | none => .bad
def ofO {α : Type} (o : Option α) (S : Sto) : Re α := match o with
  | some a => .ok a S
  | none => .bad
inductive Sl where
  | fz (d : D) | ow (xs : List D)
abbrev Fr := List (Option Sl)
/-! ### operations -/
inductive Bop where
  | add | sub | mul | fdiv | mod | pow
inductive Cop where
  | eq | ne | lt | le | gt | ge | iss | isn | inn | nin
def lim : Nat := 1000000
def addD : D → D → Option D
  | .int i, .int j => some (.int (i + j))
  | .str x, .str y => if x.length + y.length ≤ lim then some (.str (x ++ y)) else none
  | .lst xs, .lst ys => if xs.length + ys.length ≤ lim then some (.lst (xs ++ ys)) else none
  | .tup xs, .tup ys => if xs.length + ys.length ≤ lim then some (.tup (xs ++ ys)) else none
  | _, _ => none
def mulD : D → D → Option D
  | .int i, .int j => if i.natAbs < 2 ^ 600 ∧ j.natAbs < 2 ^ 600 ∨ j.natAbs < 2 ^ 63 ∨ i.natAbs < 2 ^ 63 then some (.int (i * j)) else none
  | .lst xs, .int k => if xs.length * k.toNat ≤ lim ∧ -1000000 ≤ k ∧ k ≤ 1000000 then some (.lst (List.replicate k.toNat xs).flatten) else none
  | .tup xs, .int k => if xs ≠ [] ∧ xs.length ≤ 1000 ∧ 2 ≤ k ∧ k ≤ 1000 then some (.tup (List.replicate k.toNat xs).flatten) else none
  | _, _ => none
def subD : D → D → Option D
  | .int i, .int j => some (.int (i - j))
  | _, _ => none
def fdivD : D → D → Option D
  | .int i, .int j => if 0 < j ∧ j < 2 ^ 600 then some (.int (i / j)) else none
  | _, _ => none
def modD : D → D → Option D
  | .int i, .int j => if 0 < j then some (.int (i % j)) else none
  | _, _ => none
def powD : D → D → Option D
  | .int i, .int j => if 0 ≤ j ∧ j ≤ 1000 ∧ i.natAbs < 2 ^ 60 then some (.int (i ^ j.toNat)) else none
  | _, _ => none
def bin : Bop → D → D → Option D
  | .add => addD | .sub => subD | .mul => mulD | .fdiv => fdivD | .mod => modD | .pow => powD
def items : D → Option (List D)
  | .lst xs => some xs
  | .tup xs => some xs
  | _ => none
/-- x in items -/
def has (x : D) (ys : List D) : Bool := ys.any fun y => D.eq y x
def hasOk (x : D) (ys : List D) : Bool := (x.pl && decide (x.dep ≤ 50) && x.ns) && D.pls ys && decide (D.deps ys ≤ 50) && D.nss ys
def flat : D → Bool
  | .non => true | .bl _ => true | .int _ => true | .str _ => true
  | _ => false
def inD (x : D) : D → Option Bool
  | .lst ys => if hasOk x ys then some (has x ys) else none
  | .tup ys => if flat x && ys.all flat then some (has x ys) else none
  | .str y => match x with
    | .str z => if z.length = 1 then some (y.cps.toList.contains (z.cps.toList.headD 0)) else none
    | _ => none
  | _ => none
def isD : D → D → Option Bool
  | .non, .non => some true
  | .bl _, .non => some false
  | .int _, .non => some false
  | .str _, .non => some false
  | .tup _, .non => some false
  | .lst _, .non => some false
  | .bl a, .bl b => some (a == b)
  | _, _ => none
def eqD (a b : D) : Option Bool := if D.eqOk a b then some (D.eq a b) else none
def ltD : D → D → Option Bool
  | .int i, .int j => some (decide (i < j))
  | .str x, .str y => some (sLt x y)
  | .tup xs, .tup ys => if D.likes xs ys && D.pls xs && D.pls ys && D.nss xs && D.nss ys && decide (D.deps xs ≤ 50) && decide (D.deps ys ≤ 50) then some (D.lts xs ys) else none
  | _, _ => none
def leD : D → D → Option Bool
  | .int i, .int j => some (decide (i ≤ j))
  | .str x, .str y => some (!sLt y x)
  | _, _ => none
def gtD : D → D → Option Bool
  | .int i, .int j => some (decide (j < i))
  | _, _ => none
def geD : D → D → Option Bool
  | .int i, .int j => some (decide (j ≤ i))
  | .str x, .str y => some (!sLt x y)
  | _, _ => none
def cmpD : Cop → D → D → Option Bool
  | .eq, a, b => eqD a b
  | .ne, a, b => (eqD a b).map (!·)
  | .lt, a, b => ltD a b
  | .le, a, b => leD a b
  | .gt, a, b => gtD a b
  | .ge, a, b => geD a b
  | .iss, a, b => isD a b
  | .isn, a, b => (isD a b).map (!·)
  | .inn, a, b => inD a b
  | .nin, a, b => (inD a b).map (!·)
/-- the place of an index -/
def ixAt (n : Nat) (i : Int) : Option Nat := if 0 ≤ i then (if i < n then some i.toNat else none) else if -(n : Int) ≤ i then some (i + n).toNat else none
def getD {α : Type} (xs : List α) (i : Int) : Option α := (ixAt xs.length i).bind fun j => xs[j]?
def ixD : D → D → Sto → Option D
  | .tup xs, .int i, _ => getD xs i
  | .lst xs, .int i, _ => getD xs i
  | .scr ns, .int i, _ => (getD ns i).map .int
  | .str z, .int i, _ => if z.length ≤ lim then (getD z.cps.toList i).map fun c => .str ⟨#[c]⟩ else none
  | .obj k, .int i, S => (cellAt S k).bind fun xs => getD xs i
  | _, _, _ => none
/-- a slice's ends -/
def slIx (n d : Nat) : Option Int → Nat
  | none => d
  | some v => if v < 0 then (v + n).toNat else min v.toNat n
def cut {α : Type} (xs : List α) (lo hi : Option Int) : List α := (xs.drop (slIx xs.length 0 lo)).take (slIx xs.length xs.length hi - slIx xs.length 0 lo)
def slD : D → Option Int → Option Int → Option D
  | .tup xs, lo, hi => some (.tup (cut xs lo hi))
  | .lst xs, lo, hi => some (.lst (cut xs lo hi))
  | .str z, lo, hi => if z.length ≤ lim then some (.str ⟨(cut z.cps.toList lo hi).toArray⟩) else none
  | _, _, _ => none
def asInt : D → Option Int
  | .int i => some i
  | _ => none
def asBl : D → Option Bool
  | .bl b => some b
  | _ => none
def asStr : D → Option Str
  | .str x => some x
  | _ => none
def toInts : List D → Option (List Int)
  | [] => some []
  | .int i :: r => (toInts r).map (i :: ·)
  | _ :: _ => none
def toBls : List D → Option (List Bool)
  | [] => some []
  | .bl b :: r => (toBls r).map (b :: ·)
  | _ :: _ => none
def maxI : Int → List Int → Int
  | m, [] => m
  | m, n :: r => maxI (if n > m then n else m) r
def minI : Int → List Int → Int
  | m, [] => m
  | m, n :: r => minI (if n < m then n else m) r
inductive Blt where
  | len | sorted | sum | all | any | tuple | list | max | min | int | sset | str
/-- unlike ones, the first of each -/
def dedup : List D → List D
  | [] => []
  | x :: xs => x :: (dedup xs).filter fun y => !D.eq x y
def D.txt : D → Bool
  | .str x => sOk x
  | _ => false
/-- a tuple of texts, not empty -/
def D.sItem : D → Bool
  | .tup (x :: xs) => x.txt && xs.all D.txt
  | _ => false
/-- sorted(set(..)) of tuples of texts -/
def ssD : D → Option D
  | .lst xs => if xs.all D.sItem && decide (xs.length ≤ 18) then some (.lst (D.srt (dedup xs))) else none
  | _ => none
/-- min(.., default=None) -/
def minND : D → Option D
  | .lst xs => (toInts xs).map fun ns => match ns with
    | [] => .non
    | i :: r => .int (minI i r)
  | _ => none
def lenD : D → Sto → Option Nat
  | .tup xs, _ => some xs.length
  | .lst xs, _ => some xs.length
  | .scr ns, _ => some ns.length
  | .str z, _ => if z.length ≤ lim then some z.length else none
  | .obj k, S => (cellAt S k).map List.length
  | _, _ => none
def blt : Blt → List D → Sto → Option D
  | .len, [d], S => (lenD d S).map fun n => .int n
  | .sorted, [.lst xs], _ => if D.srtOk xs then some (.lst (D.srt xs)) else none
  | .sum, [.lst xs], _ => (toInts xs).map fun ns => .int ns.sum
  | .all, [.lst xs], _ => (toBls xs).map fun bs => .bl (bs.all id)
  | .any, [.lst xs], _ => (toBls xs).map fun bs => .bl (bs.any id)
  | .tuple, [.lst xs], _ => some (.tup xs)
  | .tuple, [.tup xs], _ => some (.tup xs)
  | .list, [.lst xs], _ => some (.lst xs)
  | .list, [.tup xs], _ => some (.lst xs)
  | .max, [.int i, .int j], _ => some (.int (if j > i then j else i))
  | .min, [.int i, .int j], _ => some (.int (if j < i then j else i))
  | .max, [.lst (.int i :: xs)], _ => (toInts xs).map fun ns => .int (maxI i ns)
  | .min, [.lst (.int i :: xs)], _ => (toInts xs).map fun ns => .int (minI i ns)
  | .int, [.int i], _ => some (.int i)
  | .int, [.bl b], _ => some (.int (if b then 1 else 0))
  | _, _, _ => none
inductive Ty where
  | int | bool | str | tuple | list | dict
def isi : D → Ty → Option Bool
  | .non, _ => some false
  | .bl _, .int => some true
  | .bl _, .bool => some true
  | .bl _, _ => some false
  | .int _, .int => some true
  | .int _, _ => some false
  | .str _, .str => some true
  | .str _, _ => some false
  | .tup _, .tuple => some true
  | .tup _, _ => some false
  | .lst _, .list => some true
  | .lst _, _ => some false
  | _, _ => none
end LP
namespace LP
open PySem
/-! ### the language -/
/-- a target: a name's slot; a tuple of targets -/
inductive Tg where
  | name (i : Nat) | tnil | tcons (a r : Tg)
inductive Ex where
  | var (i : Nat) | pk (i : Nat) | non | bl (b : Bool) | int (i : Int) | str (s : Str) | glob (x : Str)
  | bin (o : Bop) (a b : Ex) | neg (a : Ex) | cmp (o : Cop) (a b : Ex) | chain (o p : Cop) (a b c : Ex)
  | notE (a : Ex) | andE (a b : Ex) | orE (a b : Ex) | ife (c a b : Ex)
  | nil | cons (a r : Ex)
  | tup (as : Ex) | lst (as : Ex)
  | ix (a i : Ex) | sl (a lo hi : Ex) | nop | part (a : Ex)
  | blt (f : Blt) (as : Ex) | dcall (f : Nat) (as : Ex) | isi (a : Ex) (t : Ty)
  | comp (own : List (Str × Nat)) (elt : Ex) (tg : Tg) (it cnd : Ex)
  | rng (as : Ex) | enum (a : Ex) | zip (a b : Ex) | walk (a : Ex)
  | told (b : Ex) | cell (as : Ex) | sset (a : Ex) | mind (a : Ex)
def Ex.isPk : Ex → Bool
  | .pk _ => true
  | _ => false
mutual
def bindT : Tg → D → Fr → Option Fr
  | .name i, d, ρ => if i < ρ.length then some (ρ.set i (some (.fz d))) else none
  | .tnil, .tup xs, ρ => bindTs .tnil xs ρ
  | .tcons a r, .tup xs, ρ => bindTs (.tcons a r) xs ρ
  | _, _, _ => none
def bindTs : Tg → List D → Fr → Option Fr
  | .tnil, [], ρ => some ρ
  | .tcons a r, x :: xs, ρ => (bindT a x ρ).bind (bindTs r xs)
  | _, _, _ => none
end
def wipeF (ρ : Fr) : List Nat → Fr
  | [] => ρ
  | v :: vs => (wipeF ρ vs).set v none
def rngI (lo : Int) (n : Nat) : List D := (List.range n).map fun (k : Nat) => D.int (lo + (k : Int))
def small62 (i : Int) : Bool := decide (-(2 ^ 60) ≤ i) && decide (i < 2 ^ 60)
def rngDn (hi : Int) (n : Nat) : List D := (List.range n).map fun (k : Nat) => D.int (hi - (k : Int))
def rngD : List D → Option (List D)
  | [.int j] => if small62 j then some (rngI 0 j.toNat) else none
  | [.int i, .int j] => if small62 i && small62 j then some (rngI i (j - i).toNat) else none
  | [.int i, .int j, .int c] => if small62 i && small62 j && decide (c = -1) then some (rngDn i (i - j).toNat) else none
  | _ => none
def enumD (xs : List D) : List D := (List.range xs.length).zip xs |>.map fun p => .tup [.int (p.1 : Nat), p.2]
def zipD : D → D → Option (List D)
  | .lst xs, .lst ys => some ((xs.zip ys).map fun p => .tup [p.1, p.2])
  | .tup xs, .tup ys => some ((xs.zip ys).map fun p => .tup [p.1, p.2])
  | _, _ => none
def walkD : D → Option (List D)
  | .lst xs => some xs
  | .tup xs => some xs
  | .str z => some (z.cps.toList.map fun c => .str ⟨#[c]⟩)
  | _ => none
/-- what the laws tell of a refusal -/
def kinds : List String := ["BadShore", "BadPool", "BadHeight", "BadCounts", "BadLot", "BadKinds", "BadBounds", "BadDays", "BadSeen", "Nothing", "Full", "BadText"]
def tellD (c : Str) : Option D := if kinds.any fun k => Str.ofString k == c then some (.tup [.str "refused", .str c]) else none
/-- nothing may be raised -/
def Re.calm {α : Type} (r : Re α) : Re α := match r with
  | .ok a S => .ok a S
  | _ => .bad
/-- a comprehension's turns -/
def turns (bnd : D → Option Fr) (cnd : Fr → Sto → Re Bool) (elt : Fr → Sto → Re D) : List D → Sto → Re (List D)
  | [], S => .ok [] S
  | x :: xs, S => match bnd x with
    | none => .bad
    | some ρ => (cnd ρ S).calm.bind fun t S => if t = true then (elt ρ S).calm.bind fun y S => (turns bnd cnd elt xs S).bind fun ys S => .ok (y :: ys) S else turns bnd cnd elt xs S
/-- what a name of the module stands for; what a def gives -/
structure Gam where
  con : Str → Option D
  fn : Nat → List D → Sto → Re D
section
variable (Γ : Gam)
mutual
def ev : Ex → Fr → Sto → Re D
  | .var i, ρ, S => match ρ[i]? with
    | some (some (.fz d)) => .ok d S
    | _ => .bad
  | .pk i, ρ, S => match ρ[i]? with
    | some (some (.ow xs)) => .ok (.lst xs) S
    | _ => .bad
  | .non, _, S => .ok .non S
  | .bl b, _, S => .ok (.bl b) S
  | .int i, _, S => .ok (.int i) S
  | .str s, _, S => .ok (.str s) S
  | .glob x, _, S => ofO (Γ.con x) S
  | .bin o a b, ρ, S => (ev a ρ S).bind fun x S => (ev b ρ S).bind fun y S => ofO (bin o x y) S
  | .neg a, ρ, S => (ev a ρ S).bind fun x S => ofO ((asInt x).map fun i => .int (-i)) S
  | .cmp o a b, ρ, S => (ev a ρ S).bind fun x S => (ev b ρ S).bind fun y S => ofO ((cmpD o x y).map .bl) S
  | .chain o p a b c, ρ, S => (ev a ρ S).bind fun x S => (ev b ρ S).bind fun y S => match cmpD o x y with
    | some true => (ev c ρ S).bind fun z S => ofO ((cmpD p y z).map .bl) S
    | some false => .ok (.bl false) S
    | none => .bad
  | .notE a, ρ, S => (ev a ρ S).bind fun x S => ofO ((asBl x).map fun b => .bl (!b)) S
  | .andE a b, ρ, S => (ev a ρ S).bind fun x S => match x with
    | .bl true => ev b ρ S
    | .bl false => .ok (.bl false) S
    | _ => .bad
  | .orE a b, ρ, S => (ev a ρ S).bind fun x S => match x with
    | .bl true => .ok (.bl true) S
    | .bl false => ev b ρ S
    | _ => .bad
  | .ife c a b, ρ, S => (ev c ρ S).bind fun x S => match x with
    | .bl true => if a.isPk then .bad else ev a ρ S
    | .bl false => if b.isPk then .bad else ev b ρ S
    | _ => .bad
  | .tup as, ρ, S => (evs false as ρ S).bind fun xs S => if xs.length ≤ lim then .ok (.tup xs) S else .bad
  | .lst as, ρ, S => (evs false as ρ S).bind fun xs S => if xs.length ≤ lim then .ok (.lst xs) S else .bad
  | .cell as, ρ, S => (evs false as ρ S).bind fun xs S => if xs.length ≤ lim then .ok (.obj S.length) (S ++ [.cell xs]) else .bad
  | .ix a i, ρ, S => (ev a ρ S).bind fun x S => (ev i ρ S).bind fun y S => ofO (ixD x y S) S
  | .sl a lo hi, ρ, S => (ev a ρ S).bind fun x S => (evo lo ρ S).bind fun l S => (evo hi ρ S).bind fun h S => ofO (slD x l h) S
  | .blt f as, ρ, S => (evs true as ρ S).bind fun xs S => ofO (blt f xs S) S
  | .dcall f as, ρ, S => (evs false as ρ S).bind fun xs S => Γ.fn f xs S
  | .isi a t, ρ, S => (ev a ρ S).bind fun x S => ofO ((isi x t).map .bl) S
  | .comp own elt tg it cnd, ρ, S => (evi it ρ S).bind fun xs S =>
      if elt.isPk || decide (lim < xs.length) then .bad else
      (turns (fun d => bindT tg d (wipeF ρ (own.map (·.2)))) (fun ρ S => evc cnd ρ S) (fun ρ S => ev elt ρ S) xs S).bind fun ys S => .ok (.lst ys) S
  | .sset a, ρ, S => (ev a ρ S).bind fun x S => ofO (ssD x) S
  | .mind a, ρ, S => (ev a ρ S).bind fun x S => ofO (minND x) S
  | .told b, ρ, S => match ev b ρ S with
    | .ok d S1 => if b.isPk then .bad else .ok d S1
    | .ex c S1 => ofO (tellD c) S1
    | .bad => .bad
  | _, _, _ => .bad
/-- arguments; b: what is owned may be looked at -/
def evs (b : Bool) : Ex → Fr → Sto → Re (List D)
  | .nil, _, S => .ok [] S
  | .cons a r, ρ, S => if a.isPk && !b then .bad else (ev a ρ S).bind fun x S => (evs b r ρ S).bind fun xs S => .ok (x :: xs) S
  | _, _, _ => .bad
/-- a part of a slice -/
def evo : Ex → Fr → Sto → Re (Option Int)
  | .nop, _, S => .ok none S
  | .part e, ρ, S => (ev e ρ S).bind fun x S => ofO ((asInt x).map some) S
  | _, _, _ => .bad
/-- a comprehension's test -/
def evc : Ex → Fr → Sto → Re Bool
  | .nop, _, S => .ok true S
  | .part e, ρ, S => (ev e ρ S).bind fun x S => ofO (asBl x) S
  | _, _, _ => .bad
/-- what is walked -/
def evi : Ex → Fr → Sto → Re (List D)
  | .rng as, ρ, S => (evs false as ρ S).bind fun xs S => ofO (rngD xs) S
  | .enum a, ρ, S => if a.isPk then .bad else (ev a ρ S).bind fun x S => ofO ((items x).map enumD) S
  | .zip a b, ρ, S => if a.isPk || b.isPk then .bad else (ev a ρ S).bind fun x S => (ev b ρ S).bind fun y S => ofO (zipD x y) S
  | .walk e, ρ, S => if e.isPk then .bad else (ev e ρ S).bind fun x S => ofO (walkD x) S
  | _, _, _ => .bad
end
end
theorem chkRed (Γ : Gam) : ev Γ (.bin .add (.int 1) (.int 2)) [] [] = .ok (.int 3) [] := rfl
end LP
namespace LP
open PySem
/-! ### statements -/
inductive Sm where
  | skip | seq (a b : Sm)
  | set (i : Nat) (e : Ex)
  | own (i : Nat) (e : Ex)
  | par (is : List (Nat × Bool)) (as : Ex)
  | unp (t : Tg) (e : Ex)
  | app (i : Nat) (e : Ex) | pop (j i : Nat) | popAt (j i : Nat) (e : Ex)
  | frz (i : Nat)
  | put (o k e : Ex)
  | ite (c : Ex) (a b : Sm) | whil (c : Ex) (b : Sm) | forr (t : Tg) (it : Ex) (b : Sm)
  | ret (e : Ex) | retN | rais (c : Str) | expr (e : Ex)
/-- how a statement ends -/
inductive Ou where
  | nx (ρ : Fr) (S : Sto) | rt (d : D) (S : Sto) | ex (c : Str) (S : Sto) | bad
def Ou.then (o : Ou) (f : Fr → Sto → Ou) : Ou := match o with
  | .nx ρ S => f ρ S
  | o => o
def Re.ou {α : Type} (r : Re α) (f : α → Sto → Ou) : Ou := match r with
  | .ok a S => f a S
  | .ex c S => .ex c S
  | .bad => .bad
def optU {α : Type} (o : Option α) (f : α → Ou) : Ou := match o with
  | some a => f a
  | none => .bad
/-- a slot is given -/
def setF (ρ : Fr) (i : Nat) (s : Sl) : Option Fr := if i < ρ.length then some (ρ.set i (some s)) else none
/-- a new list: a display, or two lists joined -/
def Ex.fresh : Ex → Bool
  | .lst _ => true
  | .bin .add _ _ => true
  | _ => false
def ownS : D → Option Sl
  | .lst xs => some (.ow xs)
  | _ => none
def slOf (b : Bool) (d : D) : Option Sl := if b then ownS d else some (.fz d)
def setAll : List (Nat × Bool) → List D → Fr → Option Fr
  | [], [], ρ => some ρ
  | (i, b) :: r, d :: ds, ρ => (slOf b d).bind fun s => (setF ρ i s).bind (setAll r ds)
  | _, _, _ => none
/-- those that are to be owned are new -/
def freshAll : List (Nat × Bool) → Ex → Bool
  | [], .nil => true
  | (_, b) :: r, .cons a as => (!b || a.fresh) && freshAll r as
  | _, _ => false
def putD : D → D → D → Sto → Option Sto
  | .obj k, .int i, v, S => (cellAt S k).bind fun xs => (ixAt xs.length i).map fun j => S.set k (.cell (xs.set j v))
  | _, _, _, _ => none
def floop (bnd : D → Fr → Option Fr) (b : Fr → Sto → Ou) : List D → Fr → Sto → Ou
  | [], ρ, S => .nx ρ S
  | x :: xs, ρ, S => optU (bnd x ρ) fun ρ1 => (b ρ1 S).then fun ρ2 S2 => floop bnd b xs ρ2 S2
def wloop (c : Fr → Sto → Re Bool) (b : Fr → Sto → Ou) : Nat → Fr → Sto → Ou
  | 0, _, _ => .bad
  | n + 1, ρ, S => (c ρ S).ou fun t S => if t then (b ρ S).then fun ρ2 S2 => wloop c b n ρ2 S2 else .nx ρ S
def wmost : Nat := 100000
section
variable (Γ : Gam)
def evT (e : Ex) (ρ : Fr) (S : Sto) : Re Bool := (ev Γ e ρ S).bind fun x S => ofO (asBl x) S
def exec : Sm → Fr → Sto → Ou
  | .skip, ρ, S => .nx ρ S
  | .seq a b, ρ, S => (exec a ρ S).then fun ρ S => exec b ρ S
  | .set i e, ρ, S => if e.isPk then .bad else (ev Γ e ρ S).ou fun d S => optU (setF ρ i (.fz d)) fun ρ => .nx ρ S
  | .own i e, ρ, S => if e.fresh then (ev Γ e ρ S).ou fun d S => optU ((ownS d).bind (setF ρ i)) fun ρ => .nx ρ S else .bad
  | .par is as, ρ, S => if freshAll is as then (evs Γ false as ρ S).ou fun ds S => optU (setAll is ds ρ) fun ρ => .nx ρ S else .bad
  | .unp t e, ρ, S => if e.isPk then .bad else (ev Γ e ρ S).ou fun d S => optU (bindT t d ρ) fun ρ => .nx ρ S
  | .app i e, ρ, S => if e.isPk then .bad else match ρ[i]? with
    | some (some (.ow xs)) => (ev Γ e ρ S).ou fun d S => if xs.length < lim then .nx (ρ.set i (some (.ow (xs ++ [d])))) S else .bad
    | _ => .bad
  | .pop j i, ρ, S => match ρ[i]? with
    | some (some (.ow xs)) => optU xs.getLast? fun d => optU (setF (ρ.set i (some (.ow xs.dropLast))) j (.fz d)) fun ρ => .nx ρ S
    | _ => .bad
  | .popAt j i e, ρ, S => match ρ[i]? with
    | some (some (.ow xs)) => (ev Γ e ρ S).ou fun d S => optU (if xs.length ≤ lim then (asInt d).bind (ixAt xs.length) else none) fun k => optU xs[k]? fun d => optU (setF (ρ.set i (some (.ow (xs.eraseIdx k)))) j (.fz d)) fun ρ => .nx ρ S
    | _ => .bad
  | .frz i, ρ, S => match ρ[i]? with
    | some (some (.ow xs)) => .nx (ρ.set i (some (.fz (.lst xs)))) S
    | _ => .nx ρ S
  | .put o k e, ρ, S => if e.isPk then .bad else (ev Γ e ρ S).ou fun v S => (ev Γ o ρ S).ou fun x S => (ev Γ k ρ S).ou fun y S => optU (putD x y v S) fun S => .nx ρ S
  | .ite c a b, ρ, S => (evT Γ c ρ S).ou fun t S => if t then exec a ρ S else exec b ρ S
  | .whil c b, ρ, S => wloop (fun ρ S => evT Γ c ρ S) (fun ρ S => exec b ρ S) wmost ρ S
  | .forr t it b, ρ, S => (evi Γ it ρ S).ou fun xs S => if xs.length ≤ lim then floop (bindT t) (fun ρ S => exec b ρ S) xs ρ S else .bad
  | .ret e, ρ, S => if e.isPk then .bad else (ev Γ e ρ S).ou fun d S => .rt d S
  | .retN, _, S => .rt .non S
  | .rais c, _, S => .ex c S
  | .expr e, ρ, S => (ev Γ e ρ S).ou fun _ S => .nx ρ S
end
/-! ### defs -/
structure Df where
  name : Str
  npar : Nat
  nm : List Str
  body : Sm
def startF (n : Nat) (ds : List D) : Fr := ds.map (fun d => some (.fz d)) ++ List.replicate (n - ds.length) none
def runDf (Γ : Gam) (d : Df) (ds : List D) (S : Sto) : Re D := if ds.length = d.npar then (match exec Γ d.body (startF d.nm.length ds) S with
  | .nx _ S' => .ok .non S'
  | .rt x S' => .ok x S'
  | .ex c S' => .ex c S'
  | .bad => .bad) else .bad
structure Prg where
  tab : List (Nat × Df)
  con : Str → Option D
def call (P : Prg) : Nat → Nat → List D → Sto → Re D
  | 0, _, _, _ => .bad
  | n + 1, j, ds, S => match P.tab.lookup j with
    | some d => runDf ⟨P.con, call P n⟩ d ds S
    | none => .bad
end LP
namespace LP
open PySem PySem.Spec
open PyProof.Rows L2
/-! ### a call whose result is told by CR -/
/-- a told call, seen from the caller: returned values go on, raised ones leave by xe -/
theorem shut {CX : CXT} {X : Cx} {pins : List (Addr × Obj)} {σ : L2.St} {H : Hp} {s : Shared} {Q : VK} {E : XK} {v : Value} {us : List Value} {kw : List (Str × Value)} (I : Inv X pins σ H s)
    (rc : codeAny (model X.prog X.w) X.A (.call v ⟨us, kw⟩) (CR CX X.stack X.prog X.w H s Q E) s) (out : ∀ e s', CX X.stack H s E e s' → X.xe e s') :
    wpAny (model X.prog X.w) X.A (PySem.call v us kw) (EP X pins σ Q) X.xe s :=
  wpAny_call (codeAny_mono rc fun
    | .ok (.ret _), _, z => I.after z
    | .ok .next, _, z => (show False from z).elim
    | .ok .brk, _, z => (show False from z).elim
    | .ok .cont, _, z => (show False from z).elim
    | .error e, s', z => out e s' z)
/-! ### lambdas handed to a def, what they raise having no context -/
/-- the qualified name of a lambda made in X -/
abbrev lamQ (X : Cx) : Str := X.env.qual ++ "<lambda>"
/-- what leaves a lambda's body: an exception of the kind E without context -/
abbrev xeN (X : Cx) (A : Around) (outer : List Env) (s : Shared) (H : Hp) (E : XK) (sc : Scope) (f c' : Addr) : Value → Shared → Prop := fun e s' =>
  let gone : Value → Shared → Prop := fun x z => L2N.CX X.prog X.w outer H s E x z
  wpAny (model X.prog X.w) (A.deeper (LamX.lamEnv X sc s.heap.objs.size f c')) (leaving (LamX.lamEnv X sc s.heap.objs.size f c') e) (fun _ z => gone e z) gone s'
def lamCxN (X : Cx) (A : Around) (outer : List Env) (s : Shared) (H : Hp) (E : XK) (sc : Scope) (f c' : Addr) : Cx :=
  (LamX.lamCx X A outer s H E sc f c').wish (xeN X A outer s H E sc f c')
/-- a lambda without parameters, made in X, lies at f; its code object is at c -/
structure LamAt (X : Cx) (s : Shared) (H : Hp) (f c : Addr) (ps : Arguments) (bd : Expr) (sc : Scope) : Prop where
  ns : LamX.LamS X.env.scope sc
  ob : ∃ pm ctv, s.heap.get? f = some (PySem.W.kla_obj "<lambda>" (lamQ X) ps bd sc (cloFrom X.env.cells sc.names []) pm c ctv)
  out : H f = none
  far : f ∉ frs X.stack
  bind : ∀ (q : Str) (cl : List (Str × Addr)) (pm cv ctv : Value), bindArgs (PySem.W.kla_fn "<lambda>" q ps bd sc cl pm cv ctv) ⟨[], []⟩ = pure []
/-- it lies there still after a run that keeps what X's frames do not own -/
theorem LamAt.later {X : Cx} {s s2 : Shared} {H H2 : Hp} {f c : Addr} {ps : Arguments} {bd : Expr} {sc : Scope} (m : LamAt X s H f c ps bd sc) (un : Un (frs X.stack) [] H H2 s.heap s2.heap) :
    ∃ pm ctv, s2.heap.get? f = some (PySem.W.kla_obj "<lambda>" (lamQ X) ps bd sc (cloFrom X.env.cells sc.names []) pm c ctv) := by
  obtain ⟨pm, ctv, h⟩ := m.ob
  exact ⟨pm, ctv, un.keep f _ h m.out m.far (List.not_mem_nil)⟩
/-- its frame is entered: one new namespace, all else kept -/
theorem LamAt.enter {X : Cx} {s s2 : Shared} {H H2 : Hp} {f c : Addr} {ps : Arguments} {bd : Expr} {sc : Scope} {A : Around} {R : Result → Shared → Prop} (m : LamAt X s H f c ps bd sc) (un : Un (frs X.stack) [] H H2 s.heap s2.heap)
    (dp : A.depth < recursionLimit) (nl : s2.heap.NoLimit) (cd : s2.heap.CodeRec (.ref c) (lamQ X))
    (go : ∀ h₁ : Heap, h₁.Ns s2.heap.objs.size (fun y => ([] : List (Str × Value)).reverse.lookup y) → (∀ b o, s2.heap.get? b = some o → h₁.get? b = some o) →
      codeAny (model X.prog X.w) A (.expr bd (LamX.lamEnv X sc s2.heap.objs.size f c)) R { s2 with heap := h₁, toks := s2.toks + ([] : List (Str × Value)).length }) :
    codeAny (model X.prog X.w) A (.call (.ref f) ⟨[], []⟩) R s2 := by
  obtain ⟨pm, ctv, ho⟩ := m.later un
  refine PySem.W.kla_callFunE dp ho rfl m.ns.co m.ns.gen rfl cd ?_
  rw [m.bind]
  apply wpAny_pure
  refine wpAny_newFunctionEnv (fun y hy => (m.ns.own y hy).2) (fun _ hy => nomatch hy) ?_ m.ns.kind
  intro h₁ hns same
  exact ⟨nl.fresh _ same, go h₁ hns fun b o e => same.extBut b o (Nat.ne_of_lt (Heap.lt_size e)) (Heap.get?_push_of_some _ e)⟩
/-- it is called: its body's reading is what the call does -/
theorem LamAt.does {X : Cx} {pins : List (Addr × Obj)} {σ : L2.St} {s s2 : Shared} {H H2 : Hp} {f c : Addr} {ps : Arguments} {bd : Expr} {sc : Scope} {A : Around} {outer : List Env} {k : Nat} {E : XK} {tb : TE} {Q : VK}
    (m : LamAt X s H f c ps bd sc) (I : Inv X pins σ H s) (un : Un (frs X.stack) [] H H2 s.heap s2.heap) (e0 : Env0 X.prog X.w X.K X.mg X.base A outer s2 H2) (hr : Room (k + 1) A) (nl : s2.heap.NoLimit) (cd : s2.heap.CodeRec (.ref c) (lamQ X))
    (body : Room k (A.deeper (LamX.lamEnv X sc s2.heap.objs.size f c)) → PE (lamCxN X A outer s2 H2 E sc f c) bd tb) (want : tb σ H2 Q) :
    codeAny (model X.prog X.w) A (.call (.ref f) ⟨[], []⟩) (CR (L2N.CX X.prog X.w) outer X.prog X.w H2 s2 Q E) s2 :=
  m.enter un hr.depth nl cd fun h₁ hns kp => PySem.W.kla_codeExpr <|
    wpAny_mono ((body (hr.deeper _)).run [] _ σ H2 Q (Inv.wish (LamX.lam_start2 (E := E) (f := f) (c' := c) I m.ns e0 hr.hd un hns kp) _) want)
      (fun _ _ ⟨v, H4, J, rv, q⟩ => ⟨v, H4, J.os, J.bare, J.base, J.hok, rv, q⟩) fun _ _ h => h
/-- the frame of the def that got the lambda -/
abbrev inG (X : Cx) (Ng : List Str) (x : Str) (sg : Scope) (g : Addr) (cdg : Value) (s : Shared) (H : Hp) : Cx := cxOf C8.CX0 X.prog X.w X.K X.mg X.base Ng x sg g cdg X.A X.stack s H C8.E0
/-- in Y the name a, standing first, can be called: tl tells what comes of it -/
def Callable (Y : Cx) (a : Str) (f c : Addr) (q : Str) (tl : XK → Hp → VK → Prop) : Prop :=
  ∀ (W : WX) (pn : List (Addr × Obj)) (xe : Value → Shared → Prop) (E : XK) (p1 p2 : Pos), L2N.Takes (Y.tr pn xe) W → (∀ cls d σ2 H2, E cls d H2 → W cls d σ2 H2) →
    PE (Y.tr pn xe) (.Call (.Name a p1) [] [] p2) (fun σZ HZ Q => σZ[0]? = some (some (.ref f)) ∧ HZ c = some (LamX.CodeO c q) ∧ tl E HZ Q)
theorem LamAt.callable {X : Cx} {pins : List (Addr × Obj)} {σ : L2.St} {s : Shared} {H : Hp} {f c : Addr} {ps : Arguments} {bd : Expr} {sc : Scope} {k : Nat} {t : XK → TE} {Ng : List Str} {x a : Str} {sg : Scope} {g : Addr} {cdg : Value}
    (m : LamAt X s H f c ps bd sc) (I : Inv X pins σ H s) (hr : Room (k + 1) (X.A.deeper (envOfC x sg s.heap.objs.size g cdg)))
    (body : ∀ (A : Around) (outer : List Env) (s : Shared) (H : Hp) (E : XK), Room k (A.deeper (LamX.lamEnv X sc s.heap.objs.size f c)) → PE (lamCxN X A outer s H E sc f c) bd (t E))
    (hN : Ng[0]? = some a) (hv : Vis sg a) (hd : (a == ("__debug__" : Str)) = false) (hcd : (a == ("__classdict__" : Str)) = false) :
    Callable (inG X Ng x sg g cdg s H) a f c (lamQ X) (fun E H2 Q2 => t E σ H2 Q2) := by
  intro W pn xe E p1 p2 tk hW
  constructor
  intro pins2 s2 σ2 H2 Q I2 ⟨hs, hc, ht⟩
  apply wpAny_Call_Name_kw
  refine thn ((pe_var (pos := p1) hN hv hd hcd).run pins2 s2 σ2 H2 (fun v J => v = .ref f ∧ J = H2) I2 ⟨_, hs, rfl, rfl⟩) ?_
  rintro fv s3 ⟨_, H2, I3, rv, rfl, rfl⟩
  cases (show fv = .ref f from rv)
  have un : Un (frs X.stack) [] H H2 s.heap s3.heap := I3.base
  obtain ⟨pm, ctv, ho⟩ := m.later un
  refine PySem.W.callWith_F0 ⟨_, _, _, _, ho⟩ (shut I3 ?_ (L2N.passes_call tk hW pins2 σ2 H2 s3 · · I3))
  obtain ⟨⟨oc, vs, tq, w1, w2, w3⟩, -, -⟩ := I3.hok c _ hc
  exact m.does I un I3.env0 hr I3.nolimit ⟨c, oc, vs, tq, rfl, w1, w2, w3⟩ (body _ _ s3 H2 E) ht
/-- what a def does with the lambda that it got -/
def GivesN (X : Cx) (Ng : List Str) (x : Str) (sg : Scope) (g : Addr) (cdg : Value) (bg : List Stmt) (a : Str) (q : Str) (TT : (XK → Hp → VK → Prop) → Hp → VK → Prop) : Prop :=
  ∀ (f c' : Addr) (s : Shared) (H : Hp) (Q : VK) (tl : XK → Hp → VK → Prop), Callable (inG X Ng x sg g cdg s H) a f c' q tl → H c' = some (LamX.CodeO c' q) → TT tl H Q →
    ∃ t, PSs (inG X Ng x sg g cdg s H).nox bg t ∧ t { nx := fun _ => Q .non, rt := Q } (L2.start Ng [.ref f]) H
/-- the def g of one parameter a, known to X under the name x -/
structure OneDef (X : Cx) (x a : Str) (g : Addr) (Ng : List Str) (sg : Scope) (bg : List Stmt) (cdv : Value) : Prop where
  gl : Gl X x
  mg : X.mg x = some (.ref g)
  keep : PySem.W.keepIn X.K (.ref g) = true
  ob : ∃ (pg : Arguments) (dV kV doc pm ct oc : Value) (an od : Option Addr) (osl : Array (Option Value)), X.K.lookup g = some ⟨oc, od, .func (PySem.W.fnOf x x pg bg sg dV kV doc pm an cdv ct), osl⟩ ∧ L2.Binds X.K (PySem.W.fnOf x x pg bg sg dV kV doc pm an cdv ct) [a] []
  code : PySem.W.codeIn X.K cdv x = true
  sco : FnScope Ng [a] sg
  fst : Ng[0]? = some a
  vis : Vis sg a
/-- the lambda just made is handed to g -/
theorem OneDef.takes {X : Cx} {pins : List (Addr × Obj)} {σ : L2.St} {s : Shared} {H : Hp} {x a : Str} {g : Addr} {Ng : List Str} {sg : Scope} {bg : List Stmt} {cdv : Value} {f c : Addr} {ps : Arguments} {bd : Expr} {sc : Scope} {k : Nat} {t : XK → TE} {TT : (XK → Hp → VK → Prop) → Hp → VK → Prop} {Q : VK}
    (G : OneDef X x a g Ng sg bg cdv) (m : LamAt X s H f c ps bd sc) (I : Inv X pins σ H s) (hr : Room (k + 2) X.A) (hG : GivesN X Ng x sg g cdv bg a (lamQ X) TT) (hc : H c = some (LamX.CodeO c (lamQ X)))
    (body : ∀ (A : Around) (outer : List Env) (s : Shared) (H : Hp) (E : XK), Room k (A.deeper (LamX.lamEnv X sc s.heap.objs.size f c)) → PE (lamCxN X A outer s H E sc f c) bd (t E))
    (hd : (a == ("__debug__" : Str)) = false) (hcd : (a == ("__classdict__" : Str)) = false) (want : TT (fun E H2 Q2 => t E σ H2 Q2) H Q) :
    codeAny (model X.prog X.w) X.A (.call (.ref g) ⟨[.ref f], []⟩) (CR C8.CX0 X.stack X.prog X.w H s Q C8.E0) s := by
  obtain ⟨pg, dV, kV, doc, pm, ct, oc, an, od, osl, lk, hb⟩ := G.ob
  exact LamX.run_ofS (us := [.ref f]) (vs := [.ref f]) lk G.code G.sco hr I.env0 (hb s [.ref f] I.kIn rfl) (.cons rfl .nil) rfl fun hr2 =>
    (hG f c s H Q _ (m.callable I hr2 body G.fst G.vis hd hcd) hc want).imp fun _ h => ⟨h.1.nox, h.2⟩
/-- x(lambda: bd) -/
theorem lamcallN {X : Cx} {T : List (Addr × Str)} {TT : (XK → Hp → VK → Prop) → Hp → VK → Prop} {x a : Str} {g c P : Addr} {k : Nat} {bg : List Stmt} {sg : Scope} {cdv : Value} {Ng : List Str} {ps : Arguments} {bd : Expr} {sc : Scope} {t : XK → TE} {p lpos pos : Pos}
    (G : OneDef X x a g Ng sg bg cdv) (hG : GivesN X Ng x sg g cdv bg a (lamQ X) TT)
    (TB : LamX.TabB X.base X.mg c P) (hcode : X.env.code = .ref c) (hmT : (P, lamQ X) ∈ T) (hu : ∀ p ∈ T, p.1 = P → p.2 = lamQ X) (hr : Room (k + 2) X.A) (L : LamX.LamS X.env.scope sc) (hdef : defaultsOf ps X.env = ([], []))
    (hbind : ∀ (q : Str) (cl : List (Str × Addr)) (pm cv ctv : Value), bindArgs (PySem.W.kla_fn "<lambda>" q ps bd sc cl pm cv ctv) ⟨[], []⟩ = pure [])
    (body : ∀ (A : Around) (outer : List Env) (s : Shared) (H : Hp) (E : XK) (f c' : Addr), Room k (A.deeper (LamX.lamEnv X sc s.heap.objs.size f c')) → PE (lamCxN X A outer s H E sc f c') bd (t E))
    (hdb : (x == ("__debug__" : Str)) = false) (hd : (a == ("__debug__" : Str)) = false) (hcd : (a == ("__classdict__" : Str)) = false) :
    PE X (.Call (.Name x p) [.Lambda ps bd sc lpos] [] pos) (LamX.tLam T TT t) := by
  constructor
  intro pins s σ H Q I ⟨hT, want⟩
  apply wpAny_Call_Name_kw
  refine ld_glob I G.gl G.mg (PySem.W.callWith_K (h₀ := X.base) I.ok.mod.kin G.keep ?_ rfl rfl) hdb
  change wpAny _ _ (spliced ((false, eval (.Lambda ps bd sc lpos) X.env) :: backTo pos (starEach [] X.env))) _ _ s
  apply Calls.spliced_cons
  refine LamX.lam_make2 I TB hcode hmT hu hT hdef (L.has I.ok) ?_
  intro f c' pm ctv H1 s2 I1 eN T1 hf hfn hfr hco
  have m : LamAt X s2 H1 f c' ps bd sc := ⟨L, ⟨pm, ctv, hf⟩, hfn, hfr, hbind⟩
  exact Calls.spliced_nil ⟨I1.kIn, shut I1 (G.takes m I1 hr hG hco (fun A o s H E => body A o s H E f c') hd hcd (want H1 eN T1)) fun _ _ z => z.elim⟩
/-- where nothing may be raised -/
theorem takesN0 {X : Cx} : L2N.Takes X (fun _ _ _ _ => False) := by
  rintro _ _ ⟨_, _, _, _, _, _, _, _, _, _, _, _, _, _, _, _, z⟩
  cases z
end LP
namespace LP
open PySem PySem.Spec
open PyProof.Rows L2
/-! ### data in the heap: F is the part that will never change -/
mutual
inductive Rp (K : PySem.W.Frag) (as : List Addr) (F : Hp) : V → D → Prop
  | non : Rp K as F .non .non
  | bl (b : Bool) : Rp K as F (.bl b) (.bl b)
  | int (i : Int) : Rp K as F (.int i) (.int i)
  | str (x : Str) : Rp K as F (.str x) (.str x)
  | tup {a : Addr} {xs : List V} {ds : List D} : SqT K F a xs → RpL K as F xs ds → Rp K as F (.ref a) (.tup ds)
  | lst {a : Addr} {xs : List V} {ds : List D} : F a = some (.lst xs) → RpL K as F xs ds → Rp K as F (.ref a) (.lst ds)
  | scr {a : Addr} {ns : List Int} : SqL K F a (ns.map V.int) → Rp K as F (.ref a) (.scr ns)
  | obj {a : Addr} {k : Nat} : as[k]? = some a → Rp K as F (.ref a) (.obj k)
inductive RpL (K : PySem.W.Frag) (as : List Addr) (F : Hp) : List V → List D → Prop
  | nil : RpL K as F [] []
  | cons {v : V} {vs : List V} {d : D} {ds : List D} : Rp K as F v d → RpL K as F vs ds → RpL K as F (v :: vs) (d :: ds)
end
def Le (F G : Hp) : Prop := ∀ a o, F a = some o → G a = some o
theorem Le.refl (F : Hp) : Le F F := fun _ _ h => h
theorem Le.trans {F G H : Hp} (a : Le F G) (b : Le G H) : Le F H := fun x o h => b x o (a x o h)
theorem Rd.le {F G : Hp} {a : Addr} {u : HO} (h : Le F G) (r : Rd F a u) : Rd G a u := r.elim (fun q => .inl (h _ _ q)) fun ⟨o, q⟩ => .inr ⟨o, h _ _ q⟩
theorem sqT_le {K : PySem.W.Frag} {F G : Hp} {a : Addr} {xs : List V} (h : Le F G) (r : SqT K F a xs) : SqT K G a xs := r.elim (fun q => .inl (Rd.le h q)) .inr
theorem sqL_le {K : PySem.W.Frag} {F G : Hp} {a : Addr} {xs : List V} (h : Le F G) (r : SqL K F a xs) : SqL K G a xs := r.elim (fun q => .inl (Rd.le h q)) .inr
def Pre (as bs : List Addr) : Prop := ∃ more, bs = as ++ more
theorem Pre.refl (as : List Addr) : Pre as as := ⟨[], by simp⟩
theorem Pre.trans {as bs cs : List Addr} (a : Pre as bs) (b : Pre bs cs) : Pre as cs := by
  obtain ⟨m, rfl⟩ := a
  obtain ⟨n, rfl⟩ := b
  exact ⟨m ++ n, by simp⟩
theorem Pre.get {as bs : List Addr} (h : Pre as bs) {k : Nat} {a : Addr} (e : as[k]? = some a) : bs[k]? = some a := by
  obtain ⟨m, rfl⟩ := h
  obtain ⟨h1, h2⟩ := List.getElem?_eq_some_iff.mp e
  rw [List.getElem?_append_left h1]
  exact e
section
variable {K : PySem.W.Frag} {as bs : List Addr} {F G : Hp}
mutual
theorem Rp.up (hp : Pre as bs) (hF : Le F G) : ∀ (d : D) (v : V), Rp K as F v d → Rp K bs G v d
  | .non, _, h => by cases h; exact .non
  | .bl _, _, h => by cases h; exact .bl _
  | .int _, _, h => by cases h; exact .int _
  | .str _, _, h => by cases h; exact .str _
  | .tup ds, _, h => by
    cases h with
    | tup h1 h2 => exact .tup (sqT_le hF h1) (RpL.up hp hF ds _ h2)
  | .lst ds, _, h => by
    cases h with
    | lst h1 h2 => exact .lst (hF _ _ h1) (RpL.up hp hF ds _ h2)
  | .scr _, _, h => by
    cases h with
    | scr h1 => exact .scr (sqL_le hF h1)
  | .dct _, _, h => by cases h
  | .obj _, _, h => by
    cases h with
    | obj h1 => exact .obj (hp.get h1)
theorem RpL.up (hp : Pre as bs) (hF : Le F G) : ∀ (ds : List D) (vs : List V), RpL K as F vs ds → RpL K bs G vs ds
  | [], _, h => by cases h; exact .nil
  | d :: ds, _, h => by
    cases h with
    | cons h1 h2 => exact .cons (Rp.up hp hF d _ h1) (RpL.up hp hF ds _ h2)
end
theorem RpL.length : ∀ {vs : List V} {ds : List D}, RpL K as F vs ds → vs.length = ds.length
  | _, _, .nil => rfl
  | _, _, .cons _ h => congrArg (· + 1) h.length
theorem RpL.get : ∀ {vs : List V} {ds : List D} {i : Nat} {d : D}, RpL K as F vs ds → ds[i]? = some d → ∃ v, vs[i]? = some v ∧ Rp K as F v d
  | _, _, _, _, .nil, e => nomatch e
  | _, _, 0, _, .cons h _, e => by simp at e; subst e; exact ⟨_, rfl, h⟩
  | _, _, i + 1, d, .cons _ t, e => by
    obtain ⟨v, h1, h2⟩ := RpL.get (i := i) (d := d) t (by simpa using e)
    exact ⟨v, by simpa using h1, h2⟩
theorem RpL.getV : ∀ {vs : List V} {ds : List D} {i : Nat} {v : V}, RpL K as F vs ds → vs[i]? = some v → ∃ d, ds[i]? = some d ∧ Rp K as F v d
  | _, _, _, _, .nil, e => nomatch e
  | _, _, 0, _, .cons h _, e => by simp at e; subst e; exact ⟨_, rfl, h⟩
  | _, _, i + 1, v, .cons _ t, e => by
    obtain ⟨d, h1, h2⟩ := RpL.getV (i := i) (v := v) t (by simpa using e)
    exact ⟨d, by simpa using h1, h2⟩
theorem RpL.append : ∀ {vs us : List V} {ds es : List D}, RpL K as F vs ds → RpL K as F us es → RpL K as F (vs ++ us) (ds ++ es)
  | _, _, _, _, .nil, s => s
  | _, _, _, _, .cons r t, s => .cons r (RpL.append t s)
theorem RpL.take : ∀ {vs : List V} {ds : List D} (n : Nat), RpL K as F vs ds → RpL K as F (vs.take n) (ds.take n)
  | _, _, 0, _ => .nil
  | _, _, _ + 1, .nil => .nil
  | _, _, n + 1, .cons r t => .cons r (RpL.take n t)
theorem RpL.drop : ∀ {vs : List V} {ds : List D} (n : Nat), RpL K as F vs ds → RpL K as F (vs.drop n) (ds.drop n)
  | _, _, 0, r => r
  | _, _, _ + 1, .nil => .nil
  | _, _, n + 1, .cons _ t => RpL.drop n t
theorem RpL.set {v : V} {d : D} (r : Rp K as F v d) : ∀ {vs : List V} {ds : List D} (i : Nat), RpL K as F vs ds → RpL K as F (vs.set i v) (ds.set i d)
  | _, _, _, .nil => .nil
  | _, _, 0, .cons _ more => .cons r more
  | _, _, i + 1, .cons q t => .cons q (RpL.set r i t)
theorem RpL.eraseIdx : ∀ {vs : List V} {ds : List D} (i : Nat), RpL K as F vs ds → RpL K as F (vs.eraseIdx i) (ds.eraseIdx i)
  | _, _, _, .nil => .nil
  | _, _, 0, .cons _ t => t
  | _, _, i + 1, .cons q t => .cons q (RpL.eraseIdx i t)
theorem RpL.dropLast : ∀ {vs : List V} {ds : List D}, RpL K as F vs ds → RpL K as F vs.dropLast ds.dropLast
  | _, _, .nil => .nil
  | _, _, .cons _ .nil => .nil
  | _, _, .cons r (.cons r' t) => .cons r (RpL.dropLast (.cons r' t))
theorem RpL.rep {vs : List V} {ds : List D} (h : RpL K as F vs ds) : ∀ n : Nat, RpL K as F (List.replicate n vs).flatten (List.replicate n ds).flatten
  | 0 => .nil
  | n + 1 => by
    simp only [List.replicate_succ, List.flatten_cons]
    exact h.append (RpL.rep h n)
theorem RpL.toInts : ∀ {vs : List V} {ds : List D} {ns : List Int}, RpL K as F vs ds → LP.toInts ds = some ns → vs = ns.map V.int
  | _, _, ns, .nil, e => by
    cases (show some [] = some ns from e)
    rfl
  | _, _, ns, .cons (d := d) (ds := ds) h t, e => by
    cases d with
    | int i =>
      cases h
      cases q : LP.toInts ds with
      | none => rw [LP.toInts, q] at e; cases e
      | some ms =>
        rw [LP.toInts, q] at e
        have e : i :: ms = ns := Option.some.inj e
        subst e
        rw [RpL.toInts t q] <;> rfl
    | _ => cases e
theorem RpL.toBls : ∀ {vs : List V} {ds : List D} {ns : List Bool}, RpL K as F vs ds → LP.toBls ds = some ns → vs = ns.map V.bl
  | _, _, ns, .nil, e => by
    cases (show some [] = some ns from e)
    rfl
  | _, _, ns, .cons (d := d) (ds := ds) h t, e => by
    cases d with
    | bl i =>
      cases h
      cases q : LP.toBls ds with
      | none => rw [LP.toBls, q] at e; cases e
      | some ms =>
        rw [LP.toBls, q] at e
        have e : i :: ms = ns := Option.some.inj e
        subst e
        rw [RpL.toBls t q] <;> rfl
    | _ => cases e
end
/-! ### the store -/
def SOk (K : PySem.W.Frag) (as : List Addr) (F H : Hp) (a : Addr) : SO → Prop
  | .cell xs => ∃ vs, H a = some (.lst vs) ∧ RpL K as F vs xs
  | .ins _ _ => False
  | .dead => ∃ o, H a = some o ∧ ∀ ps, o ≠ .tbl ps
structure Ok (K : PySem.W.Frag) (T : List (Addr × Str)) (as : List Addr) (S : Sto) (F H : Hp) : Prop where
  le : Le F H
  len : as.length = S.length
  nd : as.Nodup
  nof : ∀ a ∈ as, F a = none
  cel : ∀ (k : Nat) a so, as[k]? = some a → S[k]? = some so → SOk K as F H a so
  tab : LamX.Tabs T H
  ntb : ∀ a ps, F a ≠ some (.tbl ps)
theorem SOk.there {K : PySem.W.Frag} {as : List Addr} {F H : Hp} {a : Addr} {so : SO} (h : SOk K as F H a so) : ∃ o, H a = some o ∧ ∀ ps, o ≠ .tbl ps := by
  cases so with
  | cell xs => obtain ⟨vs, e, _⟩ := h; exact ⟨_, e, fun ps z => nomatch z⟩
  | ins c fs => exact h.elim
  | dead => exact h
theorem Ok.there {K : PySem.W.Frag} {T : List (Addr × Str)} {as : List Addr} {S : Sto} {F H : Hp} (h : Ok K T as S F H) {a : Addr} (ha : a ∈ as) : ∃ o, H a = some o := by
  obtain ⟨k, hk, e⟩ := List.mem_iff_getElem.mp ha
  have hk' : k < S.length := by rw [← h.len]; exact hk
  obtain ⟨o, q, _⟩ := (h.cel k a S[k] (by rw [List.getElem?_eq_getElem hk, e]) (by simp)).there
  exact ⟨o, q⟩
/-- nothing stands there, but for a table -/
def Nt (H : Hp) (a : Addr) : Prop := ∀ o, H a = some o → ∃ ps, o = .tbl ps
theorem Nt.none {H : Hp} {a : Addr} (h : H a = none) : Nt H a := fun o e => by rw [h] at e; cases e
theorem Nt.no {H : Hp} {a : Addr} {o : HO} (h : Nt H a) (e : H a = some o) (t : ∀ ps, o ≠ .tbl ps) : False := let ⟨ps, z⟩ := h o e; t ps z
/-- from one state to a later one -/
structure Stp (as : List Addr) (F H : Hp) (bs : List Addr) (G J : Hp) : Prop where
  le : Le F G
  new : ∀ a o, G a = some o → F a = some o ∨ Nt H a
  keep : ∀ a o, H a = some o → a ∉ as → (∀ ps, o ≠ .tbl ps) → J a = some o
  pre : ∃ more, bs = as ++ more ∧ ∀ a ∈ more, Nt H a
  live : ∀ a, Nt J a → Nt H a
theorem Stp.refl (as : List Addr) (F H : Hp) : Stp as F H as F H := ⟨Le.refl _, fun _ _ h => .inl h, fun _ _ h _ _ => h, ⟨[], by simp, fun _ h => nomatch h⟩, fun _ h => h⟩
theorem Stp.trans {as bs cs : List Addr} {F G W H J L : Hp} (a : Stp as F H bs G J) (b : Stp bs G J cs W L) : Stp as F H cs W L := by
  refine ⟨a.le.trans b.le, fun x o e => ?_, fun x o e n t => ?_, ?_, fun x h => a.live x (b.live x h)⟩
  · rcases b.new x o e with q | q
    · exact a.new x o q
    · exact .inr (a.live x q)
  · refine b.keep x o (a.keep x o e n t) (fun hm => ?_) t
    obtain ⟨more, rfl, hn⟩ := a.pre
    rcases List.mem_append.mp hm with z | z
    · exact n z
    · exact (hn x z).no e t
  · obtain ⟨m1, rfl, h1⟩ := a.pre
    obtain ⟨m2, rfl, h2⟩ := b.pre
    refine ⟨m1 ++ m2, by simp, fun x hx => ?_⟩
    rcases List.mem_append.mp hx with z | z
    · exact h1 x z
    · exact a.live x (h2 x z)
theorem Stp.toPre {as bs : List Addr} {F G H J : Hp} (a : Stp as F H bs G J) : Pre as bs := let ⟨m, e, _⟩ := a.pre; ⟨m, e⟩
/-! ### frames -/
def SlV (K : PySem.W.Frag) (as : List Addr) (F H : Hp) (v : V) : Sl → Prop
  | .fz d => Rp K as F v d
  | .ow xs => ∃ p vs, v = .ref p ∧ H p = some (.lst vs) ∧ F p = none ∧ p ∉ as ∧ RpL K as F vs xs
structure FrOk (K : PySem.W.Frag) (as : List Addr) (F H : Hp) (σ : L2.St) (ρ : Fr) : Prop where
  len : σ.length = ρ.length
  at_ : ∀ (i : Nat) s, ρ[i]? = some (some s) → ∃ v, σ[i]? = some (some v) ∧ SlV K as F H v s
  one : ∀ (i j : Nat) xs ys, ρ[i]? = some (some (.ow xs)) → ρ[j]? = some (some (.ow ys)) → σ[i]? = σ[j]? → i = j
section
variable {K : PySem.W.Frag} {T : List (Addr × Str)} {as bs : List Addr} {S : Sto} {F G H J : Hp} {σ : L2.St} {ρ : Fr}
theorem Rp.stp (a : Stp as F H bs G J) {v : V} {d : D} (h : Rp K as F v d) : Rp K bs G v d := h.up a.toPre a.le
theorem RpL.stp (a : Stp as F H bs G J) {v : List V} {d : List D} (h : RpL K as F v d) : RpL K bs G v d := h.up a.toPre a.le
theorem SlV.stp (a : Stp as F H bs G J) {v : V} {s : Sl} (h : SlV K as F H v s) : SlV K bs G J v s := by
  cases s with
  | fz d => exact Rp.stp a h
  | ow xs =>
    obtain ⟨p, vs, e, h1, h2, h3, h4⟩ := h
    refine ⟨p, vs, e, a.keep p _ h1 h3 (fun ps z => nomatch z), ?_, fun hm => ?_, h4.stp a⟩
    · cases q : G p with
      | none => rfl
      | some o =>
        rcases a.new p o q with z | z
        · rw [h2] at z; cases z
        · exact (z.no h1 (fun _ z => nomatch z)).elim
    · obtain ⟨more, rfl, hn⟩ := a.pre
      rcases List.mem_append.mp hm with z | z
      · exact h3 z
      · exact (hn p z).no h1 (fun _ z => nomatch z)
theorem FrOk.stp (a : Stp as F H bs G J) (h : FrOk K as F H σ ρ) : FrOk K bs G J σ ρ :=
  ⟨h.len, fun i s e => let ⟨v, h1, h2⟩ := h.at_ i s e; ⟨v, h1, h2.stp a⟩, h.one⟩
/-- what an expression gives: data, or a look at an owned list -/
def Vw (b : Bool) (K : PySem.W.Frag) (as : List Addr) (F H : Hp) (v : V) (d : D) : Prop :=
  if b = true then ∃ xs, d = .lst xs ∧ SlV K as F H v (.ow xs) else Rp K as F v d
theorem Vw.stp {b : Bool} (a : Stp as F H bs G J) {v : V} {d : D} (h : Vw b K as F H v d) : Vw b K bs G J v d := by
  unfold Vw at h ⊢
  split
  · rename_i hb
    rw [if_pos hb] at h
    obtain ⟨xs, e, q⟩ := h
    exact ⟨xs, e, q.stp a⟩
  · rename_i hb
    rw [if_neg hb] at h
    exact h.stp a
theorem Vw.rp {v : V} {d : D} (h : Vw false K as F H v d) : Rp K as F v d := by
  unfold Vw at h
  rwa [if_neg (by decide)] at h
theorem Vw.of {v : V} {d : D} (h : Rp K as F v d) : Vw false K as F H v d := by
  unfold Vw
  rwa [if_neg (by decide)]
/-- seen from the heap as it stands -/
theorem Vw.rpH {b : Bool} {v : V} {d : D} (le : Le F H) (h : Vw b K as F H v d) : Rp K as H v d := by
  unfold Vw at h
  split at h
  · obtain ⟨xs, rfl, p, vs, rfl, h1, _, _, h4⟩ := h
    exact .lst h1 (h4.up (Pre.refl _) le)
  · exact h.up (Pre.refl _) le
/-- a list, owned or not -/
theorem Vw.list {b : Bool} {v : V} {xs : List D} (le : Le F H) (h : Vw b K as F H v (.lst xs)) : ∃ p vs, v = .ref p ∧ H p = some (.lst vs) ∧ RpL K as F vs xs := by
  unfold Vw at h
  split at h
  · obtain ⟨ys, e, p, vs, rfl, h1, _, _, h4⟩ := h
    cases e
    exact ⟨p, vs, rfl, h1, h4⟩
  · cases h with
    | lst h1 h2 => exact ⟨_, _, rfl, le _ _ h1, h2⟩
/-- what is no list is not owned -/
theorem Vw.nolist {b : Bool} {v : V} {d : D} (h : Vw b K as F H v d) (hd : ∀ xs, d ≠ .lst xs) : Rp K as F v d := by
  unfold Vw at h
  split at h
  · obtain ⟨xs, e, _⟩ := h
    exact absurd e (hd xs)
  · exact h
end
/-! ### what is wanted behind a computation -/
def PostR {α : Type} (K : PySem.W.Frag) (T : List (Addr × Str)) (E : XK) (as : List Addr) (F H : Hp) (r : Re α) (k : α → Sto → List Addr → Hp → Hp → Prop) : Prop := match r with
  | .ok a S => ∀ bs G J, Stp as F H bs G J → Ok K T bs S G J → k a S bs G J
  | .ex c S => ∀ bs G J, Stp as F H bs G J → Ok K T bs S G J → E (.ref (He.ga K c)) none J
  | .bad => False
section
variable {K : PySem.W.Frag} {T : List (Addr × Str)} {E : XK} {as bs : List Addr} {S : Sto} {F G H J : Hp} {α β : Type}
theorem PostR.bind {r : Re α} {f : α → Sto → Re β} {k : β → Sto → List Addr → Hp → Hp → Prop} (h : PostR K T E as F H (r.bind f) k) :
    PostR K T E as F H r fun a S bs G J => PostR K T E bs G J (f a S) k := by
  cases r with
  | ok a S =>
    intro bs G J st ok
    show PostR K T E bs G J (f a S) k
    have h : PostR K T E as F H (f a S) k := h
    cases e : f a S with
    | ok b S1 =>
      rw [e] at h
      exact fun cs W L st2 ok2 => h cs W L (st.trans st2) ok2
    | ex c S1 =>
      rw [e] at h
      exact fun cs W L st2 ok2 => h cs W L (st.trans st2) ok2
    | bad =>
      rw [e] at h
      exact h.elim
  | ex c S => exact h
  | bad => exact h
theorem PostR.mono {r : Re α} {k k' : α → Sto → List Addr → Hp → Hp → Prop} (h : PostR K T E as F H r k)
    (m : ∀ a S bs G J, Stp as F H bs G J → Ok K T bs S G J → k a S bs G J → k' a S bs G J) : PostR K T E as F H r k' := by
  cases r with
  | ok a S => exact fun bs G J st ok => m a S bs G J st ok (h bs G J st ok)
  | ex c S => exact h
  | bad => exact h
theorem PostR.later {r : Re α} {k : α → Sto → List Addr → Hp → Hp → Prop} (h : PostR K T E as F H r k) (st : Stp as F H bs G J) : PostR K T E bs G J r k := by
  cases r with
  | ok a S => exact fun cs W L st2 ok => h cs W L (st.trans st2) ok
  | ex c S => exact fun cs W L st2 ok => h cs W L (st.trans st2) ok
  | bad => exact h
theorem PostR.here {a : α} {k : α → Sto → List Addr → Hp → Hp → Prop} (h : PostR K T E as F H (.ok a S) k) (ok : Ok K T as S F H) : k a S as F H := h as F H (Stp.refl _ _ _) ok
theorem PostR.ofO {o : Option α} {k : α → Sto → List Addr → Hp → Hp → Prop} (h : PostR K T E as F H (LP.ofO o S) k) : ∃ a, o = some a ∧ PostR K T E as F H (.ok a S) k := by
  cases o with
  | some a => exact ⟨a, rfl, h⟩
  | none => exact h.elim
end
end LP
namespace LP
open PySem PySem.Spec
open PyProof.Rows L2
/-! ### new objects -/
section
variable {K : PySem.W.Frag} {T : List (Addr × Str)} {as : List Addr} {S : Sto} {F H : Hp} {p : Addr} {o : HO}
theorem le_upd (h : H p = none) : Le H (upd H p o) := fun a u e => by rw [upd_ne (ne_of_none e h)]; exact e
theorem Ok.noF (ok : Ok K T as S F H) (h : H p = none) : F p = none := by
  cases e : F p with
  | none => rfl
  | some u => rw [ok.le p u e] at h; cases h
theorem SOk.mono {G J : Hp} {a : Addr} {so : SO} (hF : Le F G) (hH : Le H J) (h : SOk K as F H a so) : SOk K as G J a so := by
  cases so with
  | cell xs => obtain ⟨vs, e, r⟩ := h; exact ⟨vs, hH _ _ e, r.up (Pre.refl _) hF⟩
  | ins c fs => exact h
  | dead => obtain ⟨u, e, t⟩ := h; exact ⟨u, hH _ _ e, t⟩
/-- a new thing that will not change -/
theorem Ok.frozen (ok : Ok K T as S F H) (h : H p = none) (ht : ∀ ps, o ≠ .tbl ps) : Ok K T as S (upd F p o) (upd H p o) ∧ Stp as F H as (upd F p o) (upd H p o) := by
  have hF := ok.noF h
  have npa : ∀ a ∈ as, a ≠ p := fun a ha z => by
    obtain ⟨u, e⟩ := ok.there ha
    rw [z, h] at e; cases e
  refine ⟨⟨fun a u e => ?_, ok.len, ok.nd, fun a ha => ?_, fun k a so e1 e2 => (ok.cel k a so e1 e2).mono (le_upd hF) (le_upd h), ok.tab.ext (le_upd h), fun a ps e => ?_⟩, ⟨le_upd hF, fun a u e => ?_, fun a u e _ _ => le_upd h a u e, ⟨[], by simp, fun _ z => nomatch z⟩, fun a n u e => n u (le_upd h a u e)⟩⟩
  · by_cases z : a = p
    · subst z; rw [upd_same] at e ⊢; exact e
    · rw [upd_ne z] at e ⊢; exact ok.le a u e
  · rw [upd_ne (npa a ha)]; exact ok.nof a ha
  · by_cases z : a = p
    · subst z; rw [upd_same] at e; exact ht ps (Option.some.inj e)
    · rw [upd_ne z] at e; exact ok.ntb a ps e
  · by_cases z : a = p
    · subst z; exact .inr (Nt.none h)
    · rw [upd_ne z] at e; exact .inl e
/-- a new thing that is owned, or forgotten -/
theorem Ok.loose (ok : Ok K T as S F H) (h : H p = none) : Ok K T as S F (upd H p o) ∧ Stp as F H as F (upd H p o) := by
  refine ⟨⟨fun a u e => le_upd h a u (ok.le a u e), ok.len, ok.nd, ok.nof, fun k a so e1 e2 => (ok.cel k a so e1 e2).mono (Le.refl _) (le_upd h), ok.tab.ext (le_upd h), ok.ntb⟩, ⟨Le.refl _, fun a u e => .inl e, fun a u e _ _ => le_upd h a u e, ⟨[], by simp, fun _ z => nomatch z⟩, fun a n u e => n u (le_upd h a u e)⟩⟩
end
/-! ### expressions: the reading -/
section
variable (K : PySem.W.Frag) (T : List (Addr × Str)) (E : XK) (Γ : Gam)
def tI (x : Ex) : TE := fun σ H Q => ∃ ρ S as F, Ok K T as S F H ∧ FrOk K as F H σ ρ ∧ PostR K T E as F H (ev Γ x ρ S) fun d _ bs G J => ∀ v, Vw x.isPk K bs G J v d → Q v J
def tIt (x : Ex) : TT := fun σ H Q => ∃ ρ S as F, Ok K T as S F H ∧ FrOk K as F H σ ρ ∧ PostR K T E as F H (evT Γ x ρ S) fun b _ _ _ J => Q b J
end
/-- the arguments' values -/
def VwA (K : PySem.W.Frag) (as : List Addr) (F H : Hp) : Ex → List V → List D → Prop
  | .nil, [], [] => True
  | .cons a r, v :: vs, d :: ds => Vw a.isPk K as F H v d ∧ VwA K as F H r vs ds
  | _, _, _ => False
section
variable (K : PySem.W.Frag) (T : List (Addr × Str)) (E : XK) (Γ : Gam)
def tIa (b : Bool) (x : Ex) : TA := fun σ H Q => ∃ ρ S as F, Ok K T as S F H ∧ FrOk K as F H σ ρ ∧ PostR K T E as F H (evs Γ b x ρ S) fun ds _ bs G J => ∀ vs, VwA K bs G J x vs ds → Q vs J
end
theorem _root_.L2.PE.imp {X : Cx} {e : Expr} {t t' : TE} (h : PE X e t) (i : ∀ σ H Q, t' σ H Q → t σ H Q) : PE X e t' := ⟨fun pins s σ H Q I q => h.run pins s σ H Q I (i σ H Q q)⟩
theorem _root_.L2.PT.imp {X : Cx} {e : Expr} {t t' : TT} (h : PT X e t) (i : ∀ σ H Q, t' σ H Q → t σ H Q) : PT X e t' := ⟨fun pins s σ H Q I q => h.run pins s σ H Q I (i σ H Q q)⟩
theorem _root_.L2.PA.imp {X : Cx} {e : List Expr} {t t' : TA} (h : PA X e t) (i : ∀ σ H Q, t' σ H Q → t σ H Q) : PA X e t' := ⟨fun pos pins s σ H Q I q => h.run pos pins s σ H Q I (i σ H Q q)⟩
theorem VwA.stp {K : PySem.W.Frag} {as bs : List Addr} {F G H J : Hp} (a : Stp as F H bs G J) : ∀ (x : Ex) (vs : List V) (ds : List D), VwA K as F H x vs ds → VwA K bs G J x vs ds
  | .nil, [], [], _ => True.intro
  | .cons x r, v :: vs, d :: ds, h => ⟨h.1.stp a, VwA.stp a r vs ds h.2⟩
section
variable {X : Cx} {T : List (Addr × Str)} {E : XK} {Γ : Gam}
/-- one after the other -/
theorem two {a b : Ex} {σ : L2.St} {H : Hp} {ρ : Fr} {S : Sto} {as : List Addr} {F : Hp} {K : PySem.W.Frag} {α : Type} {f : D → D → Sto → Re α} {k : α → Sto → List Addr → Hp → Hp → Prop} {R : V → V → Hp → Prop}
    (ok : Ok K T as S F H) (fr : FrOk K as F H σ ρ) (h : PostR K T E as F H ((ev Γ a ρ S).bind fun x S => (ev Γ b ρ S).bind fun y S => f x y S) k)
    (m : ∀ x y vx vy S bs G J, Stp as F H bs G J → Ok K T bs S G J → Vw a.isPk K bs G J vx x → Vw b.isPk K bs G J vy y → PostR K T E bs G J (f x y S) k → R vx vy J) :
    tI K T E Γ a σ H fun vx H1 => tI K T E Γ b σ H1 fun vy H2 => R vx vy H2 := by
  refine ⟨ρ, S, as, F, ok, fr, h.bind.mono fun x S1 bs G J st ok1 h1 vx hx => ?_⟩
  refine ⟨ρ, S1, bs, G, ok1, fr.stp st, h1.bind.mono fun y S2 cs W L st2 ok2 h2 vy hy => ?_⟩
  exact m x y vx vy S2 cs W L (st.trans st2) ok2 (hx.stp st2) hy h2
theorem evT_tI {x : Ex} {σ : L2.St} {H : Hp} {K : PySem.W.Frag} {Q : Bool → Hp → Prop} (h : tIt K T E Γ x σ H Q) (hx : x.isPk = false) : tI K T E Γ x σ H fun v J => ∃ c, v = .bl c ∧ Q c J := by
  obtain ⟨ρ, S, as, F, ok, fr, h⟩ := h
  refine ⟨ρ, S, as, F, ok, fr, h.bind.mono fun d S1 bs G J st ok1 h1 v hv => ?_⟩
  rw [hx] at hv
  obtain ⟨b, e, h2⟩ := h1.ofO
  cases d with
  | bl =>
    cases e
    cases hv.rp
    exact ⟨_, rfl, h2.here ok1⟩
  | _ => cases e
end
/-! ### operators, by values -/
section
variable {X : Cx}
def bopOf : Bop → Operator
  | .add => .Add | .sub => .Sub | .mul => .Mult | .fdiv => .FloorDiv | .mod => .Mod | .pow => .Pow
theorem OpR.imp {f : Value → Value → Sem Value} {r r' : R2} (h : OpR X f r) (i : ∀ x y H Q, r' x y H Q → r x y H Q) : OpR X f r' := fun pins s σ H x y v u Q I rx ry q => h pins s σ H x y v u Q I rx ry (i x y H Q q)
end
section
variable {K : PySem.W.Frag} {T : List (Addr × Str)} {as : List Addr} {S : Sto} {F H : Hp} {Q : VK} {bx by_ : Bool} {vx vy : V} {x y d : D}
/-- what binaryOp asks -/
def rBin (K : PySem.W.Frag) : Bop → R2
  | .add => fun x y H Q => rI0 (fun i j => .int (i + j)) x y H Q ∨ (∃ i j, x = .str i ∧ y = .str j ∧ i.length + j.length ≤ sizeLine ∧ Q (.str (i ++ j)) H) ∨ rCat x y H Q ∨ rCatA K x y H Q
  | .sub => rI0 fun i j => .int (i - j)
  | .mul => fun x y H Q => rI CMul (fun i j => .int (i * j)) x y H Q ∨ rI CMulW (fun i j => .int (i * j)) x y H Q ∨ rRep x y H Q ∨ rRepT K x y H Q
  | .fdiv => rI CDivW fun i j => .int (i / j)
  | .mod => rI (fun _ j => 0 < j) fun i j => .int (i % j)
  | .pow => rI CPow fun i j => .int (i ^ j.toNat)
theorem op_bin {X : Cx} (o : Bop) : OpR X (binaryOp (bopOf o)) (rBin X.K o) := by
  cases o with
  | add => exact op_add.or (op_add_str.or (op_cat.or op_catA))
  | sub => exact op_sub
  | mul => exact op_mul.or (op_mulW.or (op_rep.or op_repT))
  | fdiv => exact op_fdivW
  | mod => exact op_mod
  | pow => exact op_pow
theorem lim_line : lim ≤ sizeLine := by decide
theorem cmul_of {i j : Int} (h : j.natAbs < 2 ^ 63 ∨ i.natAbs < 2 ^ 63) : CMul i j := by
  unfold CMul
  rcases h with h | h
  · right; omega
  · left; omega
theorem bin_ok {o : Bop} (ok : Ok K T as S F H) (hx : Vw bx K as F H vx x) (hy : Vw by_ K as F H vy y) (e : bin o x y = some d)
    (q : ∀ G J v, Stp as F H as G J → Ok K T as S G J → Rp K as G v d → Q v J) : rBin K o vx vy H Q := by
  have same : ∀ v, Rp K as F v d → Q v H := fun v hv => q F H v (Stp.refl _ _ _) ok hv
  have twoI : ∀ {i j : Int}, x = .int i → y = .int j → vx = .int i ∧ vy = .int j := fun {i j} e1 e2 => by
    subst e1 e2
    cases hx.nolist (fun _ z => nomatch z)
    cases hy.nolist (fun _ z => nomatch z)
    exact ⟨rfl, rfl⟩
  have nwL : ∀ {vs : List V} {ds : List D}, d = .lst ds → RpL K as F vs ds → ∀ p, H p = none → Q (.ref p) (upd H p (.lst vs)) := fun {vs ds} e1 h p hp => by
    subst e1
    obtain ⟨ok1, st1⟩ := ok.frozen (o := .lst vs) hp (fun _ z => nomatch z)
    exact q _ _ _ st1 ok1 (.lst upd_same (h.stp st1))
  have nwT : ∀ {vs : List V} {ds : List D}, d = .tup ds → RpL K as F vs ds → ∀ p, H p = none → Q (.ref p) (upd H p (.tup vs)) := fun {vs ds} e1 h p hp => by
    subst e1
    obtain ⟨ok1, st1⟩ := ok.frozen (o := .tup vs) hp (fun _ z => nomatch z)
    exact q _ _ _ st1 ok1 (.tup (SqT.of upd_same) (h.stp st1))
  cases o with
  | add =>
    replace e : addD x y = some d := e
    unfold addD at e
    split at e
    · rename_i i j
      obtain ⟨rfl, rfl⟩ := twoI rfl rfl
      cases e
      exact .inl ⟨i, j, rfl, rfl, same _ (.int _)⟩
    · rename_i a b
      split at e <;> cases e
      rename_i hl
      cases hx.nolist (fun _ z => nomatch z)
      cases hy.nolist (fun _ z => nomatch z)
      exact .inr (.inl ⟨a, b, rfl, rfl, Nat.le_trans hl lim_line, same _ (.str _)⟩)
    · rename_i xs ys
      split at e <;> cases e
      rename_i hl
      obtain ⟨p, vs, rfl, h1, r1⟩ := hx.list ok.le
      obtain ⟨p2, us, rfl, h2, r2⟩ := hy.list ok.le
      refine .inr (.inr (.inl ⟨p, p2, vs, us, rfl, rfl, h1, h2, ?_, nwL rfl (r1.append r2)⟩))
      rw [r1.length, r2.length]
      exact Nat.le_trans hl lim_line
    · rename_i xs ys
      split at e <;> cases e
      rename_i hl
      have hx' := hx.nolist (fun _ z => nomatch z)
      have hy' := hy.nolist (fun _ z => nomatch z)
      cases hx' with
      | tup h1 r1 =>
      cases hy' with
      | tup h2 r2 =>
        rename_i a vs b us
        refine .inr (.inr (.inr ⟨a, b, vs, us, rfl, rfl, sqT_le ok.le h1, sqT_le ok.le h2, by rw [r1.length, r2.length]; exact Nat.le_trans hl lim_line, fun z => ?_, fun _ z => ?_, fun _ _ => nwT rfl (r1.append r2)⟩))
        · subst z
          cases r1
          exact same _ (.tup h2 r2)
        · subst z
          cases r2
          exact same _ (by rw [List.append_nil]; exact .tup h1 r1)
    · cases e
  | sub =>
    replace e : subD x y = some d := e
    unfold subD at e
    split at e
    · rename_i i j
      obtain ⟨rfl, rfl⟩ := twoI rfl rfl
      cases e
      exact ⟨i, j, rfl, rfl, same _ (.int _)⟩
    · cases e
  | mul =>
    replace e : mulD x y = some d := e
    unfold mulD at e
    split at e
    · rename_i i j
      obtain ⟨rfl, rfl⟩ := twoI rfl rfl
      split at e <;> cases e
      rename_i hl
      rcases hl with ⟨h1, h2⟩ | hl
      · exact .inr (.inl ⟨i, j, rfl, rfl, wide_mul (a := 600) (b := 600) h1 h2 (by decide) (by decide) (by decide), same _ (.int _)⟩)
      · exact .inl ⟨i, j, rfl, rfl, cmul_of hl, same _ (.int _)⟩
    · rename_i xs k
      split at e <;> cases e
      rename_i hl
      obtain ⟨p, vs, rfl, h1, r1⟩ := hx.list ok.le
      cases hy.nolist (fun _ z => nomatch z)
      exact .inr (.inr (.inl ⟨p, k, vs, rfl, rfl, h1, by omega, by omega, by rw [r1.length]; exact Nat.le_trans hl.1 lim_line, nwL rfl (r1.rep _)⟩))
    · rename_i xs k
      split at e <;> cases e
      rename_i hl
      have hx' := hx.nolist (fun _ z => nomatch z)
      cases hx' with
      | tup h1 r1 =>
        rename_i a vs
        cases hy.nolist (fun _ z => nomatch z)
        refine .inr (.inr (.inr ⟨a, k, vs, rfl, rfl, sqT_le ok.le h1, fun z => hl.1 ?_, hl.2.2.1, hl.2.2.2, by rw [r1.length]; exact hl.2.1, nwT rfl (r1.rep _)⟩))
        have := r1.length
        rw [z] at this
        exact List.length_eq_zero_iff.mp this.symm
    · cases e
  | fdiv =>
    replace e : fdivD x y = some d := e
    unfold fdivD at e
    split at e
    · rename_i i j
      obtain ⟨rfl, rfl⟩ := twoI rfl rfl
      split at e <;> cases e
      rename_i hl
      exact ⟨i, j, rfl, rfl, wide_div (b := 600) hl.1 (by omega) (by decide) (by decide), same _ (.int _)⟩
    · cases e
  | mod =>
    replace e : modD x y = some d := e
    unfold modD at e
    split at e
    · rename_i i j
      obtain ⟨rfl, rfl⟩ := twoI rfl rfl
      split at e <;> cases e
      rename_i hl
      exact ⟨i, j, rfl, rfl, hl, same _ (.int _)⟩
    · cases e
  | pow =>
    replace e : powD x y = some d := e
    unfold powD at e
    split at e
    · rename_i i j
      obtain ⟨rfl, rfl⟩ := twoI rfl rfl
      split at e <;> cases e
      rename_i hl
      exact ⟨i, j, rfl, rfl, ⟨hl.1, by omega, by omega⟩, same _ (.int _)⟩
    · cases e
end
end LP
namespace LP
open PySem PySem.Spec
open PyProof.Rows L2
/-! ### == and < of data -/
mutual
def toPy : D → PyData
  | .non => .none | .bl b => .bool b | .int i => .int i | .str x => .str x
  | .tup xs => .tuple (toPys xs) | .lst xs => .list (toPys xs) | .scr ns => .list (ns.map .int) | .dct _ => .none | .obj _ => .none
def toPys : List D → List PyData
  | [] => []
  | x :: xs => toPy x :: toPys xs
end
theorem lay_ns : ∀ ns : List Int, PyData.canLayAll0 (ns.map .int) = true
  | [] => rfl
  | n :: ns => by simp only [List.map_cons, PyData.canLayAll0, PyData.canLay0, lay_ns ns, Bool.and_self]
theorem dep_ns : ∀ ns : List Int, PyData.depthAll (ns.map .int) = 0
  | [] => rfl
  | n :: ns => by simp only [List.map_cons, PyData.depthAll, PyData.depth, dep_ns ns, Nat.max_self]
mutual
theorem lay_py : ∀ d : D, d.pl = true → (toPy d).canLay0 = true
  | .non, _ => rfl
  | .bl _, _ => rfl
  | .int _, _ => rfl
  | .str x, h => by simpa only [toPy, PyData.canLay0, PyData.strOk, D.pl, sOk] using h
  | .tup xs, h => by simp only [toPy, PyData.canLay0]; exact lay_pys xs (by simpa only [D.pl] using h)
  | .lst xs, h => by simp only [toPy, PyData.canLay0]; exact lay_pys xs (by simpa only [D.pl] using h)
  | .scr ns, _ => by simp only [toPy, PyData.canLay0]; exact lay_ns ns
  | .dct _, h => by cases h
  | .obj _, h => by cases h
theorem lay_pys : ∀ ds : List D, D.pls ds = true → PyData.canLayAll0 (toPys ds) = true
  | [], _ => rfl
  | x :: xs, h => by
    have h' : x.pl = true ∧ D.pls xs = true := by simpa only [D.pls, Bool.and_eq_true] using h
    simp only [toPys, PyData.canLayAll0, lay_py x h'.1, lay_pys xs h'.2, Bool.and_self]
end
mutual
theorem dep_py : ∀ d : D, (toPy d).depth = d.dep
  | .non => rfl
  | .bl _ => rfl
  | .int _ => rfl
  | .str x => rfl
  | .tup xs => by simp only [toPy, PyData.depth, D.dep, dep_pys xs]
  | .lst xs => by simp only [toPy, PyData.depth, D.dep, dep_pys xs]
  | .scr ns => by simp only [toPy, PyData.depth, D.dep, dep_ns ns]
  | .dct _ => rfl
  | .obj _ => rfl
theorem dep_pys : ∀ ds : List D, PyData.depthAll (toPys ds) = D.deps ds
  | [] => rfl
  | x :: xs => by simp only [toPys, PyData.depthAll, D.deps, dep_py x, dep_pys xs]
end
theorem shaped_py {d : D} (h : d.pl = true) (hd : d.dep ≤ 60) : SeqAt.shaped (toPy d) = true := by
  unfold SeqAt.shaped
  rw [lay_py d h, dep_py, decide_eq_true (by omega), Bool.and_self]
section
variable {K : PySem.W.Frag} {as : List Addr} {H : Hp}
theorem dpAll_ints : ∀ ns : List Int, DpAll K H (ns.map V.int) (ns.map .int)
  | [] => .nil
  | n :: ns => .cons (.int n) (dpAll_ints ns)
mutual
theorem dp_of : ∀ (d : D) (v : V), d.pl = true → Rp K as H v d → Dp K H v (toPy d)
  | .non, _, _, h => by cases h; exact .non
  | .bl _, _, _, h => by cases h; exact .bl _
  | .int _, _, _, h => by cases h; exact .int _
  | .str _, _, _, h => by cases h; exact .str _
  | .tup ds, _, hp, h => by
    cases h with
    | tup h1 h2 => exact .tup h1 (dpAll_of ds _ (by simpa only [D.pl] using hp) h2)
  | .lst ds, _, hp, h => by
    cases h with
    | lst h1 h2 => exact .lst (SqL.of h1) (dpAll_of ds _ (by simpa only [D.pl] using hp) h2)
  | .scr ns, _, _, h => by
    cases h with
    | scr h1 => exact .lst h1 (dpAll_ints ns)
  | .dct _, _, hp, _ => by cases hp
  | .obj _, _, hp, _ => by cases hp
theorem dpAll_of : ∀ (ds : List D) (vs : List V), D.pls ds = true → RpL K as H vs ds → DpAll K H vs (toPys ds)
  | [], _, _, h => by cases h; exact .nil
  | d :: ds, _, hp, h => by
    have h' : d.pl = true ∧ D.pls ds = true := by simpa only [D.pls, Bool.and_eq_true] using hp
    cases h with
    | cons h1 h2 => exact .cons (dp_of d _ h'.1 h1) (dpAll_of ds _ h'.2 h2)
end
end
theorem eqv_scr : ∀ (ns : List Int) (ys : List D), D.pls ys = true → D.nss ys = true → PyData.eqvAll (ns.map .int) (toPys ys) = eqIs ns ys
  | [], [], _, _ => rfl
  | [], y :: ys, _, _ => by simp only [List.map_nil, toPys, PyData.eqvAll, eqIs]
  | n :: ns, [], _, _ => by simp only [List.map_cons, toPys, PyData.eqvAll, eqIs]
  | n :: ns, y :: ys, h, h2 => by
    have h' : y.pl = true ∧ D.pls ys = true := by simpa only [D.pls, Bool.and_eq_true] using h
    have h2' : y.ns = true ∧ D.nss ys = true := by simpa only [D.nss, Bool.and_eq_true] using h2
    have ih := eqv_scr ns ys h'.2 h2'.2
    cases y with
    | dct _ => cases h'.1
    | obj _ => cases h'.1
    | scr _ => cases h2'.1
    | bl b => simp only [List.map_cons, toPys, toPy, PyData.eqvAll, PyData.eqv, eqIs, ih, b2i]
    | _ => simp only [List.map_cons, toPys, toPy, PyData.eqvAll, PyData.eqv, eqIs, ih, Bool.false_and]
mutual
theorem eqv_py : ∀ (a b : D), a.pl = true → b.pl = true → a.ns = true → b.ns = true → PyData.eqv (toPy a) (toPy b) = D.eq a b
  | .non, b, _, hb, _, nb => by cases b <;> first | rfl | (cases hb; done) | (cases nb; done)
  | .bl _, b, _, hb, _, nb => by cases b <;> first | rfl | (cases hb; done) | (cases nb; done)
  | .int _, b, _, hb, _, nb => by cases b <;> first | rfl | (cases hb; done) | (cases nb; done)
  | .str _, b, _, hb, _, nb => by cases b <;> first | rfl | (cases hb; done) | (cases nb; done)
  | .tup xs, b, ha, hb, na, nb => by
    cases b with
    | tup ys =>
      simp only [toPy, PyData.eqv, D.eq]
      exact eqvs_py xs ys (by simpa only [D.pl] using ha) (by simpa only [D.pl] using hb) (by simpa only [D.ns] using na) (by simpa only [D.ns] using nb)
    | dct _ => cases hb
    | obj _ => cases hb
    | scr _ => cases nb
    | _ => rfl
  | .lst xs, b, ha, hb, na, nb => by
    cases b with
    | lst ys =>
      simp only [toPy, PyData.eqv, D.eq]
      exact eqvs_py xs ys (by simpa only [D.pl] using ha) (by simpa only [D.pl] using hb) (by simpa only [D.ns] using na) (by simpa only [D.ns] using nb)
    | dct _ => cases hb
    | obj _ => cases hb
    | scr _ => cases nb
    | _ => rfl
  | .scr _, _, _, _, na, _ => by cases na
  | .dct _, _, ha, _, _, _ => by cases ha
  | .obj _, _, ha, _, _, _ => by cases ha
theorem eqvs_py : ∀ (xs ys : List D), D.pls xs = true → D.pls ys = true → D.nss xs = true → D.nss ys = true → PyData.eqvAll (toPys xs) (toPys ys) = D.eqs xs ys
  | [], [], _, _, _, _ => rfl
  | [], _ :: _, _, _, _, _ => by simp only [toPys, PyData.eqvAll, D.eqs]
  | _ :: _, [], _, _, _, _ => by simp only [toPys, PyData.eqvAll, D.eqs]
  | x :: xs, y :: ys, ha, hb, na, nb => by
    have ha' : x.pl = true ∧ D.pls xs = true := by simpa only [D.pls, Bool.and_eq_true] using ha
    have hb' : y.pl = true ∧ D.pls ys = true := by simpa only [D.pls, Bool.and_eq_true] using hb
    have na' : x.ns = true ∧ D.nss xs = true := by simpa only [D.nss, Bool.and_eq_true] using na
    have nb' : y.ns = true ∧ D.nss ys = true := by simpa only [D.nss, Bool.and_eq_true] using nb
    simp only [toPys, PyData.eqvAll, D.eqs, eqv_py x y ha'.1 hb'.1 na'.1 nb'.1, eqvs_py xs ys ha'.2 hb'.2 na'.2 nb'.2]
end
theorem eqv_ok {a b : D} (h : D.eqOk a b = true) : PyData.eqv (toPy a) (toPy b) = D.eq a b ∧ SeqAt.shaped (toPy a) = true ∧ SeqAt.shaped (toPy b) = true ∧ a.pl = true ∧ b.pl = true := by
  unfold D.eqOk at h
  simp only [Bool.and_eq_true, Bool.or_eq_true, decide_eq_true_eq] at h
  obtain ⟨⟨⟨⟨⟨pa, pb⟩, da⟩, db⟩, n⟩, nb⟩ := h
  refine ⟨?_, shaped_py pa da, shaped_py pb db, pa, pb⟩
  rcases n with na | na
  · exact eqv_py a b pa pb na nb
  · cases a with
    | scr ns =>
      cases b with
      | lst ys =>
        simp only [toPy, PyData.eqv, D.eq]
        exact eqv_scr ns ys (by simpa only [D.pl] using pb) (by simpa only [D.ns] using nb)
      | dct _ => cases pb
      | obj _ => cases pb
      | scr _ => cases nb
      | _ => rfl
    | _ => cases na
/-! ### the comparisons' rules -/
def copOf : Cop → CmpOp
  | .eq => .Eq | .ne => .NotEq | .lt => .Lt | .le => .LtE | .gt => .Gt | .ge => .GtE | .iss => .Is | .isn => .IsNot | .inn => .In | .nin => .NotIn
/-- x < y of tuples of data, as it lies in the heap -/
def rLtD (K : PySem.W.Frag) : R2 := fun x y H Q => ∃ as xs ys, Rp K as H x (.tup xs) ∧ Rp K as H y (.tup ys) ∧ (D.likes xs ys && D.pls xs && D.pls ys && D.nss xs && D.nss ys && decide (D.deps xs ≤ 50) && decide (D.deps ys ≤ 50)) = true ∧ Q (.bl (D.lts xs ys)) H
section
variable {X : Cx} {pins : List (Addr × Obj)} {σ : L2.St} {H : Hp} {s : Shared} {as : List Addr}
theorem eqAt_D (I : Inv X pins σ H s) (A : Around) {x y : D} {vx vy : V} {ux uy : Value} (hx : Rp X.K as H vx x) (hy : Rp X.K as H vy y) (rx : RelV vx ux) (ry : RelV vy uy) (px : x.pl = true) (py : y.pl = true) (nx : x.ns = true) (ny : y.ns = true)
    (hd : x.dep ≤ 50) (hu : A.units + 50 < cLine) : SeqAt.EqAt A s ux uy (D.eq x y) := by
  obtain ⟨a1, r1⟩ := Dp.reads I _ _ _ (dp_of x vx px hx) rx
  obtain ⟨a2, r2⟩ := Dp.reads I _ _ _ (dp_of y vy py hy) ry
  rw [← eqv_py x y px py nx ny]
  refine SeqAt.eqAt_reads _ _ A s ux uy _ _ r1 r2 (lay_py x px) (lay_py y py) ?_
  have : min (toPy x).depth (toPy y).depth ≤ (toPy x).depth := Nat.min_le_left _ _
  rw [dep_py] at this ⊢
  omega
theorem lexAt_lts : ∀ (xs ys : List D) (e r : Nat → Bool) (i : Nat), (∀ j x y, xs[j]? = some x → ys[j]? = some y → e (i + j) = D.eq x y ∧ r (i + j) = D.lt x y) →
    Ob.lexAt e r (decide (xs.length < ys.length)) i (min xs.length ys.length) = D.lts xs ys
  | [], [], _, _, _, _ => rfl
  | [], _ :: _, _, _, _, _ => by simp [Ob.lexAt, D.lts]
  | _ :: _, [], _, _, _, _ => by simp [Ob.lexAt, D.lts]
  | x :: xs, y :: ys, e, r, i, h => by
    have h0 := h 0 x y rfl rfl
    have ih := lexAt_lts xs ys e r (i + 1) fun j a b ha hb => by
      have := h (j + 1) a b (by simpa using ha) (by simpa using hb)
      rwa [show i + (j + 1) = i + 1 + j by omega] at this
    have em : min (x :: xs).length (y :: ys).length = min xs.length ys.length + 1 := by simp only [List.length_cons]; omega
    have ed : decide ((x :: xs).length < (y :: ys).length) = decide (xs.length < ys.length) := by simp
    rw [em, ed, Ob.lexAt_succ, ih, D.lts]
    rw [Nat.add_zero] at h0
    rw [h0.1, h0.2]
mutual
theorem ltAt_D (I : Inv X pins σ H s) : ∀ (x y : D) (A : Around) (vx vy : V) (ux uy : Value), Rp X.K as H vx x → Rp X.K as H vy y → RelV vx ux → RelV vy uy → D.like x y = true → x.pl = true → y.pl = true → x.ns = true → y.ns = true →
    x.dep ≤ 50 → A.units + 50 + x.dep < cLine → Ob.RcOp .Lt A s ux uy (D.lt x y)
  | .int i, y, A, vx, vy, ux, uy, hx, hy, rx, ry, hl, _, _, _, _, _, _ => by
    cases y with
    | int j =>
      cases hx; cases hy
      obtain ⟨t, rfl⟩ := rx
      obtain ⟨t', rfl⟩ := ry
      exact Ob.RcOp.lt_int _ _ _ _
    | _ => cases hl
  | .str i, y, A, vx, vy, ux, uy, hx, hy, rx, ry, hl, _, _, _, _, _, _ => by
    cases y with
    | str j =>
      cases hx; cases hy
      obtain ⟨t, rfl⟩ := rx
      obtain ⟨t', rfl⟩ := ry
      exact fun _ _ _ _ h => PySem.P.lt_str h
    | _ => cases hl
  | .tup xs, y, A, vx, vy, ux, uy, hx, hy, rx, ry, hl, px, py, nx, ny, hd, hu => by
    cases y with
    | tup ys =>
      cases hx with
      | tup h1 h2 =>
      cases hy with
      | tup k1 k2 =>
        rename_i a vs b us
        cases (show ux = Value.ref a from rx)
        cases (show uy = Value.ref b from ry)
        obtain ⟨its, r1, p1, _⟩ := I.tuple h1
        obtain ⟨its2, r2, p2, _⟩ := I.tuple k1
        have hlen : its.length = xs.length := by rw [← r1.length, h2.length]
        have hlen2 : its2.length = ys.length := by rw [← r2.length, k2.length]
        have hd' : D.deps xs + 1 ≤ 50 := by simpa only [D.dep] using hd
        have hu' : A.units + 50 + (D.deps xs + 1) < cLine := by simpa only [D.dep] using hu
        have all := ltAts_D I xs ys A.in1 vs us its its2 h2 k2 r1 r2 (by simpa only [D.like] using hl) (by simpa only [D.pl] using px) (by simpa only [D.pl] using py) (by simpa only [D.ns] using nx) (by simpa only [D.ns] using ny) (by omega) (by show A.units + 1 + 50 + D.deps xs < cLine; omega)
        have R := Ob.RcOp.tuples_lt (A := A) (s := s) (e := fun j => D.eq (xs.getD j .non) (ys.getD j .non)) (r := fun j => D.lt (xs.getD j .non) (ys.getD j .non)) p1 p2 (by omega) (fun j g1 g2 => by
          have g1' : j < its.length := by simpa using g1
          have g2' : j < its2.length := by simpa using g2
          have := (all j (its[j]) (its2[j]) (by simp) (by simp)).1
          simpa using this) (fun j g1 g2 _ => by
          have g1' : j < its.length := by simpa using g1
          have g2' : j < its2.length := by simpa using g2
          have := (all j (its[j]) (its2[j]) (by simp) (by simp)).2
          simpa using this)
        have e0 := lexAt_lts xs ys (fun j => D.eq (xs.getD j .non) (ys.getD j .non)) (fun j => D.lt (xs.getD j .non) (ys.getD j .non)) 0 fun j x y h1 h2 => by simp [List.getD, h1, h2]
        simp only [List.size_toArray, hlen, hlen2, e0] at R
        simpa only [D.lt] using R
    | _ => cases hl
  | .non, _, _, _, _, _, _, _, _, _, _, hl, _, _, _, _, _, _ => by cases hl
  | .bl _, _, _, _, _, _, _, _, _, _, _, hl, _, _, _, _, _, _ => by cases hl
  | .lst _, _, _, _, _, _, _, _, _, _, _, hl, _, _, _, _, _, _ => by cases hl
  | .scr _, _, _, _, _, _, _, _, _, _, _, hl, _, _, _, _, _, _ => by cases hl
  | .dct _, _, _, _, _, _, _, _, _, _, _, hl, _, _, _, _, _, _ => by cases hl
  | .obj _, _, _, _, _, _, _, _, _, _, _, hl, _, _, _, _, _, _ => by cases hl
theorem ltAts_D (I : Inv X pins σ H s) : ∀ (xs ys : List D) (A : Around) (vs us : List V) (its its2 : List Value), RpL X.K as H vs xs → RpL X.K as H us ys → Vals vs its → Vals us its2 → D.likes xs ys = true → D.pls xs = true → D.pls ys = true → D.nss xs = true → D.nss ys = true →
    D.deps xs ≤ 50 → A.units + 50 + D.deps xs < cLine → ∀ (j : Nat) (u u2 : Value), its[j]? = some u → its2[j]? = some u2 → SeqAt.EqAt A s u u2 (D.eq (xs.getD j .non) (ys.getD j .non)) ∧ Ob.RcOp .Lt A s u u2 (D.lt (xs.getD j .non) (ys.getD j .non))
  | [], _, _, _, _, _, _, h1, _, r1, _, _, _, _, _, _, _, _, j, u, u2, e1, _ => by
    cases h1; cases r1; simp at e1
  | _ :: _, [], _, _, _, _, _, _, h2, _, r2, _, _, _, _, _, _, _, j, u, u2, _, e2 => by
    cases h2; cases r2; simp at e2
  | x :: xs, y :: ys, A, _, _, _, _, h1, h2, r1, r2, hl, px, py, nx, ny, hd, hu, j, u, u2, e1, e2 => by
    cases h1 with
    | cons h1 h1' =>
    cases h2 with
    | cons h2 h2' =>
    cases r1 with
    | cons r1 r1' =>
    cases r2 with
    | cons r2 r2' =>
      have hl' : D.like x y = true ∧ D.likes xs ys = true := by simpa only [D.likes, Bool.and_eq_true] using hl
      have px' : x.pl = true ∧ D.pls xs = true := by simpa only [D.pls, Bool.and_eq_true] using px
      have py' : y.pl = true ∧ D.pls ys = true := by simpa only [D.pls, Bool.and_eq_true] using py
      have nx' : x.ns = true ∧ D.nss xs = true := by simpa only [D.nss, Bool.and_eq_true] using nx
      have ny' : y.ns = true ∧ D.nss ys = true := by simpa only [D.nss, Bool.and_eq_true] using ny
      simp only [D.deps] at hd hu
      cases j with
      | zero =>
        simp at e1 e2
        subst e1 e2
        simp only [List.getD_cons_zero]
        exact ⟨eqAt_D I A h1 h2 r1 r2 px'.1 py'.1 nx'.1 ny'.1 (by omega) (by omega), ltAt_D I x y A _ _ _ _ h1 h2 r1 r2 hl'.1 px'.1 py'.1 nx'.1 ny'.1 (by omega) (by omega)⟩
      | succ j =>
        have := ltAts_D I xs ys A _ _ _ _ h1' h2' r1' r2' hl'.2 px'.2 py'.2 nx'.2 ny'.2 (by omega) (by omega) j u u2 (by simpa using e1) (by simpa using e2)
        simpa using this
end
end
end LP
namespace LP
open PySem PySem.Spec
open PyProof.Rows L2
section
variable {X : Cx}
theorem op_ltD (hu : X.A.units + 200 < cLine) : OpR X (compareOp .Lt) (rLtD X.K) := by
  intro pins s σ H x y v u Q I rx ry want; have h := want
  obtain ⟨as, xs, ys, hx, hy, hb, q⟩ := h
  simp only [Bool.and_eq_true, decide_eq_true_eq] at hb
  obtain ⟨⟨⟨⟨⟨⟨h1, h2⟩, h3⟩, h4⟩, h5⟩, h6⟩, h7⟩ := hb
  have hx0 := hx
  have hy0 := hy
  cases hx with
  | tup t1 t2 =>
  cases hy with
  | tup u1 u2 =>
    rename_i a vs b us
    cases show v = .ref a from rx
    cases show u = .ref b from ry
    obtain ⟨its, r1, p1, _⟩ := I.tuple t1
    obtain ⟨its2, r2, p2, _⟩ := I.tuple u1
    have hlen : its.length = xs.length := by rw [← r1.length, t2.length]
    have hlen2 : its2.length = ys.length := by rw [← r2.length, u2.length]
    have all := ltAts_D I xs ys X.A.in1 vs us its its2 t2 u2 r1 r2 h1 h2 h3 h4 h5 h6 (by show X.A.units + 1 + 50 + D.deps xs < cLine; omega)
    have R := Ob.RcOp.tuples_lt (A := X.A) (s := s) (e := fun j => D.eq (xs.getD j .non) (ys.getD j .non)) (r := fun j => D.lt (xs.getD j .non) (ys.getD j .non)) p1 p2 (by omega) (fun j g1 g2 => by
      have g1' : j < its.length := by simpa using g1
      have g2' : j < its2.length := by simpa using g2
      have := (all j (its[j]) (its2[j]) (by simp) (by simp)).1
      simpa using this) (fun j g1 g2 _ => by
      have g1' : j < its.length := by simpa using g1
      have g2' : j < its2.length := by simpa using g2
      have := (all j (its[j]) (its2[j]) (by simp) (by simp)).2
      simpa using this)
    have e0 := lexAt_lts xs ys (fun j => D.eq (xs.getD j .non) (ys.getD j .non)) (fun j => D.lt (xs.getD j .non) (ys.getD j .non)) 0 fun j x y h1 h2 => by simp [List.getD, h1, h2]
    simp only [List.size_toArray, hlen, hlen2, e0] at R
    exact R X.prog X.w X.xe (EP X pins σ Q) ⟨.bl _, H, I, rfl, q⟩
end
def rCmp (K : PySem.W.Frag) : Cop → R2
  | .eq => rEqD K
  | .ne => rNeD K
  | .lt => fun x y H Q => rI0 (fun i j => .bl (decide (i < j))) x y H Q ∨ (∃ i j, x = .str i ∧ y = .str j ∧ Q (.bl (decide (i.cps.toList < j.cps.toList))) H) ∨ rLtD K x y H Q
  | .le => fun x y H Q => rI0 (fun i j => .bl (decide (i ≤ j))) x y H Q ∨ (∃ i j, x = .str i ∧ y = .str j ∧ Q (.bl (!decide (j.cps.toList < i.cps.toList))) H)
  | .gt => rI0 (fun i j => .bl (decide (j < i)))
  | .ge => fun x y H Q => rI0 (fun i j => .bl (decide (j ≤ i))) x y H Q ∨ (∃ i j, x = .str i ∧ y = .str j ∧ Q (.bl (!decide (i.cps.toList < j.cps.toList))) H)
  | .iss => fun x y H Q => (y = .non ∧ Q (.bl (decide (x = .non))) H) ∨ ∃ a b, x = .bl a ∧ y = .bl b ∧ Q (.bl (decide (a = b))) H
  | .isn => fun x y H Q => (y = .non ∧ Q (.bl (!decide (x = .non))) H) ∨ ∃ a b, x = .bl a ∧ y = .bl b ∧ Q (.bl (!decide (a = b))) H
  | .inn => fun x y H Q => rInD K x y H Q ∨ rIn K false x y H Q ∨ ∃ (c : Nat) (z : Str), x = .str ⟨#[c]⟩ ∧ y = .str z ∧ Q (.bl (decide (c ∈ z.cps.toList))) H
  | .nin => fun x y H Q => rNotInD K x y H Q ∨ rIn K true x y H Q ∨ ∃ (c : Nat) (z : Str), x = .str ⟨#[c]⟩ ∧ y = .str z ∧ Q (.bl (!decide (c ∈ z.cps.toList))) H
theorem op_cmp {X : Cx} (hu : X.A.units + 200 < cLine) (o : Cop) : OpR X (compareOp (copOf o)) (rCmp X.K o) := by
  cases o with
  | eq => exact op_eqD (by omega)
  | ne => exact op_neD (by omega)
  | lt => exact op_lt.or (op_lt_str.or (op_ltD hu))
  | le => exact op_le.or op_le_str
  | gt => exact op_gt
  | ge => exact op_ge.or op_ge_str
  | iss => exact op_isN.or op_is_bl
  | isn => exact op_notN.or op_isnot_bl
  | inn => exact (op_inD (by omega)).or (op_in_seq.or op_in_sign)
  | nin => exact (op_notInD (by omega)).or (op_notIn_seq.or op_notIn_sign)
section
variable {K : PySem.W.Frag} {T : List (Addr × Str)} {as : List Addr} {S : Sto} {F H : Hp} {Q : VK} {bx by_ : Bool} {vx vy : V} {x y : D} {b : Bool}
theorem flat_V (h : Rp K as H vx x) (f : flat x = true) : flatV vx = true := by
  cases h <;> first | rfl | cases f
theorem flats_V : ∀ {vs : List V} {ds : List D}, RpL K as H vs ds → ds.all flat = true → vs.all flatV = true
  | _, _, .nil, _ => rfl
  | _, _, .cons h t, f => by
    simp only [List.all_cons, Bool.and_eq_true] at f
    rw [List.all_cons, flat_V h f.1, flats_V t f.2] <;> rfl
theorem eqV_D (hx : Rp K as H vx x) (hy : Rp K as H vy y) (fx : flat x = true) (fy : flat y = true) : eqV vx vy = D.eq x y := by
  cases hx <;> first | (cases fx; done) | (cases hy <;> first | (cases fy; done) | rfl)
theorem inV_D (hx : Rp K as H vx x) (fx : flat x = true) : ∀ {vs : List V} {ds : List D}, RpL K as H vs ds → ds.all flat = true → inV vx vs = has x ds
  | _, _, .nil, _ => rfl
  | _, _, .cons h t, f => by
    simp only [List.all_cons, Bool.and_eq_true] at f
    have ih := inV_D hx fx t f.2
    unfold inV has at ih ⊢
    rw [List.any_cons, List.any_cons, ih, eqV_D h hx f.1 fx]
theorem any_eqv {x : D} (px : x.pl = true) (nx : x.ns = true) : ∀ ys : List D, D.pls ys = true → D.nss ys = true → ((toPys ys).any fun z => PyData.eqv z (toPy x)) = has x ys
  | [], _, _ => rfl
  | y :: ys, h, n => by
    have h' : y.pl = true ∧ D.pls ys = true := by simpa only [D.pls, Bool.and_eq_true] using h
    have n' : y.ns = true ∧ D.nss ys = true := by simpa only [D.nss, Bool.and_eq_true] using n
    have ih := any_eqv px nx ys h'.2 n'.2
    unfold has at ih ⊢
    rw [toPys, List.any_cons, List.any_cons, ih, eqv_py y x h'.1 px n'.1 nx]
theorem in_ok (neg : Bool) (le : Le F H) (hx : Vw bx K as F H vx x) (hy : Vw by_ K as F H vy y) (e : inD x y = some b) (q : Q (.bl (if neg = true then !b else b)) H) : rCmp K (if neg = true then .nin else .inn) vx vy H Q := by
  have hx' := hx.rpH le
  have hy' := hy.rpH le
  unfold inD at e
  split at e
  · rename_i ys
    split at e <;> cases e
    rename_i ho
    unfold hasOk at ho
    simp only [Bool.and_eq_true, decide_eq_true_eq] at ho
    obtain ⟨⟨⟨⟨⟨px, dx⟩, nx⟩, py⟩, dy⟩, ny⟩ := ho
    have d1 := dp_of x vx px hx'
    have d2 := dp_of (.lst ys) vy (by simpa only [D.pl] using py) hy'
    have s1 := shaped_py (d := x) px (by omega)
    have s2 := shaped_py (d := .lst ys) (by simpa only [D.pl] using py) (by simp only [D.dep]; omega)
    have e3 := any_eqv px nx ys py ny
    cases neg with
    | true => exact .inl ⟨toPy x, toPys ys, d1, d2, s1, s2, by rw [e3]; exact q⟩
    | false => exact .inl ⟨toPy x, toPys ys, d1, d2, s1, s2, by rw [e3]; exact q⟩
  · rename_i ys
    split at e <;> cases e
    rename_i hf
    rw [Bool.and_eq_true] at hf
    cases hy' with
    | tup h1 h2 =>
      have e3 := inV_D hx' hf.1 h2 hf.2
      cases neg with
      | true => exact .inr (.inl ⟨_, _, rfl, .inr h1, flat_V hx' hf.1, flats_V h2 hf.2, by rw [e3]; exact q⟩)
      | false => exact .inr (.inl ⟨_, _, rfl, .inr h1, flat_V hx' hf.1, flats_V h2 hf.2, by rw [e3]; exact q⟩)
  · rename_i z
    split at e
    · rename_i w
      split at e <;> cases e
      rename_i hl
      cases hx'
      cases hy'
      obtain ⟨c, hc⟩ : ∃ c, w = ⟨#[c]⟩ := by
        obtain ⟨cps⟩ := w
        obtain ⟨l⟩ := cps
        match l, hl with
        | [c], _ => exact ⟨c, rfl⟩
      subst hc
      have e4 : z.cps.toList.contains ((⟨#[c]⟩ : Str).cps.toList.headD 0) = decide (c ∈ z.cps.toList) := by
        simp
      rw [e4] at q
      cases neg with
      | true => exact .inr (.inr ⟨c, z, rfl, rfl, q⟩)
      | false => exact .inr (.inr ⟨c, z, rfl, rfl, q⟩)
    · cases e
  · cases e
theorem is_ok (neg : Bool) (hx : Vw bx K as F H vx x) (hy : Vw by_ K as F H vy y) (le : Le F H) (e : isD x y = some b) (q : Q (.bl (if neg = true then !b else b)) H) : rCmp K (if neg = true then .isn else .iss) vx vy H Q := by
  have hx' := hx.rpH le
  have hy' := hy.rpH le
  unfold isD at e
  split at e
  case h_7 a c =>
    cases hx'
    cases hy'
    cases e
    have e2 : (a == c) = decide (a = c) := by cases a <;> cases c <;> rfl
    rw [e2] at q
    cases neg with
    | true => exact .inr ⟨a, c, rfl, rfl, q⟩
    | false => exact .inr ⟨a, c, rfl, rfl, q⟩
  case h_8 => cases e
  all_goals
    cases hy'
    cases e
    cases neg with
    | true =>
      refine .inl ⟨rfl, ?_⟩
      cases hx' <;> simpa using q
    | false =>
      refine .inl ⟨rfl, ?_⟩
      cases hx' <;> simpa using q
theorem cmp_ok {o : Cop} (le : Le F H) (hx : Vw bx K as F H vx x) (hy : Vw by_ K as F H vy y) (e : cmpD o x y = some b) (q : Q (.bl b) H) : rCmp K o vx vy H Q := by
  have twoI : ∀ {i j : Int}, x = .int i → y = .int j → vx = .int i ∧ vy = .int j := fun {i j} e1 e2 => by
    subst e1 e2
    cases hx.nolist (fun _ z => nomatch z)
    cases hy.nolist (fun _ z => nomatch z)
    exact ⟨rfl, rfl⟩
  have twoS : ∀ {i j : Str}, x = .str i → y = .str j → vx = .str i ∧ vy = .str j := fun {i j} e1 e2 => by
    subst e1 e2
    cases hx.nolist (fun _ z => nomatch z)
    cases hy.nolist (fun _ z => nomatch z)
    exact ⟨rfl, rfl⟩
  have eqs : ∀ {c : Bool}, eqD x y = some c → PyData.eqv (toPy x) (toPy y) = c ∧ Dp K H vx (toPy x) ∧ Dp K H vy (toPy y) ∧ SeqAt.shaped (toPy x) = true ∧ SeqAt.shaped (toPy y) = true := fun {c} e => by
    unfold eqD at e
    split at e <;> cases e
    rename_i ho
    obtain ⟨h1, h2, h3, h4, h5⟩ := eqv_ok ho
    exact ⟨h1, dp_of _ _ h4 (hx.rpH le), dp_of _ _ h5 (hy.rpH le), h2, h3⟩
  cases o with
  | eq =>
    obtain ⟨h1, h2, h3, h4, h5⟩ := eqs (show eqD x y = some b from e)
    exact ⟨_, _, h2, h3, h4, h5, by rw [h1]; exact q⟩
  | ne =>
    replace e : (eqD x y).map (!·) = some b := e
    cases e2 : eqD x y with
    | none => rw [e2] at e; cases e
    | some c =>
      rw [e2] at e
      cases e
      obtain ⟨h1, h2, h3, h4, h5⟩ := eqs e2
      exact ⟨_, _, h2, h3, h4, h5, by rw [h1]; exact q⟩
  | lt =>
    replace e : ltD x y = some b := e
    unfold ltD at e
    split at e
    · rename_i i j
      obtain ⟨rfl, rfl⟩ := twoI rfl rfl
      cases e
      exact .inl ⟨i, j, rfl, rfl, q⟩
    · rename_i i j
      obtain ⟨rfl, rfl⟩ := twoS rfl rfl
      cases e
      exact .inr (.inl ⟨i, j, rfl, rfl, q⟩)
    · rename_i xs ys
      split at e <;> cases e
      rename_i hb
      exact .inr (.inr ⟨as, xs, ys, hx.rpH le, hy.rpH le, hb, q⟩)
    · cases e
  | le =>
    replace e : leD x y = some b := e
    unfold leD at e
    split at e
    · rename_i i j
      obtain ⟨rfl, rfl⟩ := twoI rfl rfl
      cases e
      exact .inl ⟨i, j, rfl, rfl, q⟩
    · rename_i i j
      obtain ⟨rfl, rfl⟩ := twoS rfl rfl
      cases e
      exact .inr ⟨i, j, rfl, rfl, q⟩
    · cases e
  | gt =>
    replace e : gtD x y = some b := e
    unfold gtD at e
    split at e
    · rename_i i j
      obtain ⟨rfl, rfl⟩ := twoI rfl rfl
      cases e
      exact ⟨i, j, rfl, rfl, q⟩
    · cases e
  | ge =>
    replace e : geD x y = some b := e
    unfold geD at e
    split at e
    · rename_i i j
      obtain ⟨rfl, rfl⟩ := twoI rfl rfl
      cases e
      exact .inl ⟨i, j, rfl, rfl, q⟩
    · rename_i i j
      obtain ⟨rfl, rfl⟩ := twoS rfl rfl
      cases e
      exact .inr ⟨i, j, rfl, rfl, q⟩
    · cases e
  | iss => exact is_ok false hx hy le e q
  | isn =>
    replace e : (isD x y).map (!·) = some b := e
    cases e2 : isD x y with
    | none => rw [e2] at e; cases e
    | some c =>
      rw [e2] at e
      cases e
      exact is_ok true hx hy le e2 q
  | inn => exact in_ok false le hx hy e q
  | nin =>
    replace e : (inD x y).map (!·) = some b := e
    cases e2 : inD x y with
    | none => rw [e2] at e; cases e
    | some c =>
      rw [e2] at e
      cases e
      exact in_ok true le hx hy e2 q
end
end LP
namespace LP
open PySem
/-! ### the order of data of one kind -/
theorem str_ext {x y : Str} (h : x.cps.toList = y.cps.toList) : x = y := by
  obtain ⟨⟨a⟩⟩ := x
  obtain ⟨⟨b⟩⟩ := y
  have h : a = b := h
  rw [h]
theorem sLt_iff {x y : Str} : sLt x y = true ↔ x.cps.toList < y.cps.toList := by unfold sLt; exact decide_eq_true_iff
theorem sLt_irr (x : Str) : sLt x x = false := by
  unfold sLt
  exact decide_eq_false (List.lt_irrefl _)
theorem sLt_trans {x y z : Str} (h1 : sLt x y = true) (h2 : sLt y z = true) : sLt x z = true := sLt_iff.mpr (List.lt_trans (sLt_iff.mp h1) (sLt_iff.mp h2))
theorem sLt_tot {x y : Str} (h1 : sLt x y = false) (h2 : sLt y x = false) : x = y := by
  unfold sLt at h1 h2
  have a : ¬ x.cps.toList < y.cps.toList := of_decide_eq_false h1
  have b : ¬ y.cps.toList < x.cps.toList := of_decide_eq_false h2
  exact str_ext (List.le_antisymm (List.not_lt.mp b) (List.not_lt.mp a))
mutual
theorem like_sym : ∀ x y : D, D.like x y = true → D.like y x = true
  | .int _, y, h => by cases y <;> first | rfl | cases h
  | .str a, y, h => by
    cases y with
    | str b =>
      have h : (sOk a && sOk b) = true := h
      show (sOk b && sOk a) = true
      rw [Bool.and_comm]; exact h
    | _ => cases h
  | .tup xs, y, h => by
    cases y with
    | tup ys =>
      simp only [D.like] at h ⊢
      exact likes_sym xs ys h
    | _ => cases h
  | .non, _, h => by cases h
  | .bl _, _, h => by cases h
  | .lst _, _, h => by cases h
  | .scr _, _, h => by cases h
  | .dct _, _, h => by cases h
  | .obj _, _, h => by cases h
theorem likes_sym : ∀ xs ys : List D, D.likes xs ys = true → D.likes ys xs = true
  | [], [], _ => rfl
  | [], _ :: _, _ => by simp only [D.likes]
  | _ :: _, [], _ => by simp only [D.likes]
  | x :: xs, y :: ys, h => by
    simp only [D.likes, Bool.and_eq_true] at h ⊢
    exact ⟨like_sym x y h.1, likes_sym xs ys h.2⟩
end
mutual
theorem eq_iff : ∀ x y : D, D.like x y = true → (D.eq x y = true ↔ x = y)
  | .int i, y, h => by
    cases y with
    | int j => simp only [D.eq, beq_iff_eq, D.int.injEq]
    | _ => cases h
  | .str a, y, h => by
    cases y with
    | str b => simp only [D.eq, beq_iff_eq, D.str.injEq]
    | _ => cases h
  | .tup xs, y, h => by
    cases y with
    | tup ys =>
      simp only [D.like] at h
      simp only [D.eq, D.tup.injEq]
      exact eqs_iff xs ys h
    | _ => cases h
  | .non, _, h => by cases h
  | .bl _, _, h => by cases h
  | .lst _, _, h => by cases h
  | .scr _, _, h => by cases h
  | .dct _, _, h => by cases h
  | .obj _, _, h => by cases h
theorem eqs_iff : ∀ xs ys : List D, D.likes xs ys = true → (D.eqs xs ys = true ↔ xs = ys)
  | [], [], _ => by simp only [D.eqs]
  | [], y :: ys, _ => by simp [D.eqs]
  | x :: xs, [], _ => by simp [D.eqs]
  | x :: xs, y :: ys, h => by
    simp only [D.likes, Bool.and_eq_true] at h
    simp only [D.eqs, Bool.and_eq_true, eq_iff x y h.1, eqs_iff xs ys h.2, List.cons.injEq]
end
mutual
theorem lt_irr : ∀ x : D, D.like x x = true → D.lt x x = false
  | .int i, _ => by simp [D.lt]
  | .str a, _ => by simp only [D.lt]; exact sLt_irr a
  | .tup xs, h => by
    simp only [D.like] at h
    simp only [D.lt]
    exact lts_irr xs h
  | .non, h => by cases h
  | .bl _, h => by cases h
  | .lst _, h => by cases h
  | .scr _, h => by cases h
  | .dct _, h => by cases h
  | .obj _, h => by cases h
theorem lts_irr : ∀ xs : List D, D.likes xs xs = true → D.lts xs xs = false
  | [], _ => rfl
  | x :: xs, h => by
    simp only [D.likes, Bool.and_eq_true] at h
    have e := (eq_iff x x h.1).mpr rfl
    simp only [D.lts, e, if_true]
    exact lts_irr xs h.2
end
mutual
theorem lt_trans : ∀ x y z : D, D.like x y = true → D.like y z = true → D.like x z = true → D.lt x y = true → D.lt y z = true → D.lt x z = true
  | .int i, y, z, h1, h2, h3, a, b => by
    cases y with
    | int j =>
      cases z with
      | int k =>
        simp only [D.lt, decide_eq_true_eq] at a b ⊢
        omega
      | _ => cases h2
    | _ => cases h1
  | .str i, y, z, h1, h2, h3, a, b => by
    cases y with
    | str j =>
      cases z with
      | str k =>
        simp only [D.lt] at a b ⊢
        exact sLt_trans a b
      | _ => cases h2
    | _ => cases h1
  | .tup xs, y, z, h1, h2, h3, a, b => by
    cases y with
    | tup ys =>
      cases z with
      | tup zs =>
        simp only [D.like] at h1 h2 h3
        simp only [D.lt] at a b ⊢
        exact lts_trans xs ys zs h1 h2 h3 a b
      | _ => cases h2
    | _ => cases h1
  | .non, _, _, h, _, _, _, _ => by cases h
  | .bl _, _, _, h, _, _, _, _ => by cases h
  | .lst _, _, _, h, _, _, _, _ => by cases h
  | .scr _, _, _, h, _, _, _, _ => by cases h
  | .dct _, _, _, h, _, _, _, _ => by cases h
  | .obj _, _, _, h, _, _, _, _ => by cases h
theorem lts_trans : ∀ xs ys zs : List D, D.likes xs ys = true → D.likes ys zs = true → D.likes xs zs = true → D.lts xs ys = true → D.lts ys zs = true → D.lts xs zs = true
  | [], [], [], _, _, _, a, b => b
  | [], _ :: _, [], _, _, _, a, b => by simp [D.lts] at b
  | [], _, _ :: _, _, _, _, _, _ => by simp [D.lts]
  | _ :: _, [], _, _, _, _, a, _ => by simp [D.lts] at a
  | _ :: _, _ :: _, [], _, _, _, _, b => by simp [D.lts] at b
  | x :: xs, y :: ys, z :: zs, h1, h2, h3, a, b => by
    simp only [D.likes, Bool.and_eq_true] at h1 h2 h3
    simp only [D.lts] at a b ⊢
    by_cases e1 : D.eq x y = true
    · have q1 := (eq_iff x y h1.1).mp e1
      rw [if_pos e1] at a
      subst q1
      by_cases e2 : D.eq x z = true
      · rw [if_pos e2] at b ⊢
        exact lts_trans xs ys zs h1.2 h2.2 h3.2 a b
      · rw [if_neg e2] at b ⊢
        exact b
    · rw [if_neg e1] at a
      by_cases e2 : D.eq y z = true
      · have q2 := (eq_iff y z h2.1).mp e2
        subst q2
        rw [if_neg e1]
        exact a
      · rw [if_neg e2] at b
        have l := lt_trans x y z h1.1 h2.1 h3.1 a b
        by_cases e3 : D.eq x z = true
        · exfalso
          have q3 := (eq_iff x z h3.1).mp e3
          subst q3
          have ir := lt_irr x h3.1
          rw [ir] at l; cases l
        · rw [if_neg e3]
          exact l
end
mutual
theorem lt_tot : ∀ x y : D, D.like x y = true → D.lt x y = false → D.lt y x = false → x = y
  | .int i, y, h, a, b => by
    cases y with
    | int j =>
      simp only [D.lt, decide_eq_false_iff_not] at a b
      have : i = j := by omega
      rw [this]
    | _ => cases h
  | .str i, y, h, a, b => by
    cases y with
    | str j =>
      simp only [D.lt] at a b
      rw [sLt_tot a b]
    | _ => cases h
  | .tup xs, y, h, a, b => by
    cases y with
    | tup ys =>
      simp only [D.like] at h
      simp only [D.lt] at a b
      rw [lts_tot xs ys h a b]
    | _ => cases h
  | .non, _, h, _, _ => by cases h
  | .bl _, _, h, _, _ => by cases h
  | .lst _, _, h, _, _ => by cases h
  | .scr _, _, h, _, _ => by cases h
  | .dct _, _, h, _, _ => by cases h
  | .obj _, _, h, _, _ => by cases h
theorem lts_tot : ∀ xs ys : List D, D.likes xs ys = true → D.lts xs ys = false → D.lts ys xs = false → xs = ys
  | [], [], _, _, _ => rfl
  | [], _ :: _, _, a, _ => by simp [D.lts] at a
  | _ :: _, [], _, _, b => by simp [D.lts] at b
  | x :: xs, y :: ys, h, a, b => by
    simp only [D.likes, Bool.and_eq_true] at h
    simp only [D.lts] at a b
    by_cases e : D.eq x y = true
    · have q := (eq_iff x y h.1).mp e
      subst q
      rw [if_pos e] at a b
      rw [lts_tot xs ys h.2 a b]
    · have e' : ¬ D.eq y x = true := fun z => e ((eq_iff x y h.1).mpr ((eq_iff y x (like_sym x y h.1)).mp z).symm)
      rw [if_neg e] at a
      rw [if_neg e'] at b
      exact absurd ((eq_iff x y h.1).mpr (lt_tot x y h.1 a b)) e
end
theorem lt_asym {x y : D} (h : D.like x y = true) (hx : D.like x x = true) (a : D.lt x y = true) : D.lt y x = false := by
  cases b : D.lt y x with
  | false => rfl
  | true =>
    have := lt_trans x y x h (like_sym x y h) hx a b
    rw [lt_irr x hx] at this
    cases this
/-! ### sorting -/
/-- all of one kind -/
def AllLike (xs : List D) : Prop := ∀ x ∈ xs, ∀ y ∈ xs, D.like x y = true
/-- rising, equal ones let -/
def Rising (xs : List D) : Prop := xs.Pairwise fun x y => D.lt y x = false
theorem ins_perm (x : D) : ∀ ys : List D, (D.ins x ys).Perm (x :: ys)
  | [] => .refl _
  | y :: ys => by
    unfold D.ins
    split
    · exact .refl _
    · exact ((ins_perm x ys).cons y).trans (.swap x y ys)
theorem srt_perm : ∀ xs : List D, (D.srt xs).Perm xs
  | [] => .refl _
  | x :: xs => (ins_perm x (D.srt xs)).trans ((srt_perm xs).cons x)
theorem AllLike.perm {xs ys : List D} (h : AllLike xs) (p : ys.Perm xs) : AllLike ys := fun x hx y hy => h x (p.mem_iff.mp hx) y (p.mem_iff.mp hy)
theorem ins_rising (x : D) : ∀ ys : List D, AllLike (x :: ys) → Rising ys → Rising (D.ins x ys)
  | [], _, _ => List.pairwise_singleton _ _
  | y :: ys, al, r => by
    unfold D.ins
    have r' := List.pairwise_cons.mp r
    split
    · rename_i hl
      refine List.pairwise_cons.mpr ⟨fun z hz => ?_, r⟩
      have lx : ∀ z ∈ y :: ys, D.like x z = true := fun z hz => al x List.mem_cons_self z (List.mem_cons_of_mem _ hz)
      obtain rfl | hz' := List.mem_cons.mp hz
      · exact lt_asym (lx z List.mem_cons_self) (al x List.mem_cons_self x List.mem_cons_self) hl
      · cases q : D.lt z x with
        | false => rfl
        | true =>
          have h1 : D.like z x = true := like_sym _ _ (lx z hz)
          have h2 : D.like x y = true := lx y List.mem_cons_self
          have h3 : D.like z y = true := al z (List.mem_cons_of_mem _ hz) y (List.mem_cons_of_mem _ List.mem_cons_self)
          have := lt_trans z x y h1 h2 h3 q hl
          rw [r'.1 z hz'] at this
          cases this
    · rename_i hl
      have al' : AllLike (x :: ys) := fun a ha b hb => al a (by
        obtain rfl | ha := List.mem_cons.mp ha
        · exact List.mem_cons_self
        · exact List.mem_cons_of_mem _ (List.mem_cons_of_mem _ ha)) b (by
        obtain rfl | hb := List.mem_cons.mp hb
        · exact List.mem_cons_self
        · exact List.mem_cons_of_mem _ (List.mem_cons_of_mem _ hb))
      refine List.pairwise_cons.mpr ⟨fun z hz => ?_, ins_rising x ys al' r'.2⟩
      rcases List.mem_cons.mp ((ins_perm x ys).mem_iff.mp hz) with rfl | hz'
      · simpa using hl
      · exact r'.1 z hz'
theorem srt_rising : ∀ xs : List D, AllLike xs → Rising (D.srt xs)
  | [], _ => List.Pairwise.nil
  | x :: xs, al => ins_rising x (D.srt xs) (al.perm ((srt_perm xs).cons x)) (srt_rising xs fun a ha b hb => al a (List.mem_cons_of_mem _ ha) b (List.mem_cons_of_mem _ hb))
/-- two rising arrangements are one -/
theorem rising_uniq : ∀ {xs ys : List D}, AllLike xs → Rising xs → Rising ys → xs.Perm ys → xs = ys
  | [], ys, _, _, _, p => (List.nil_perm.mp p).symm
  | x :: xs, [], _, _, _, p => absurd p.length_eq (by simp)
  | x :: xs, y :: ys, al, r1, r2, p => by
    have q1 := List.pairwise_cons.mp r1
    have q2 := List.pairwise_cons.mp r2
    have hy : y ∈ x :: xs := p.mem_iff.mpr List.mem_cons_self
    have hx : x ∈ y :: ys := p.mem_iff.mp List.mem_cons_self
    have e : x = y := by
      obtain e | hy' := List.mem_cons.mp hy
      · exact e.symm
      · rcases List.mem_cons.mp hx with e | hx'
        · exact e
        · exact lt_tot x y (al x List.mem_cons_self y hy) (q2.1 x hx') (q1.1 y hy')
    subst e
    rw [rising_uniq (fun a ha b hb => al a (List.mem_cons_of_mem _ ha) b (List.mem_cons_of_mem _ hb)) q1.2 q2.2 (List.Perm.cons_inv p)]
theorem srt_uniq {xs ys : List D} (al : AllLike xs) (r : Rising ys) (p : ys.Perm xs) : D.srt xs = ys :=
  rising_uniq (al.perm (srt_perm xs)) (srt_rising xs al) r ((srt_perm xs).trans p.symm)
theorem like_of_ok {xs : List D} (h : D.srtOk xs = true) : AllLike xs := by
  unfold D.srtOk at h
  rw [Bool.and_eq_true, List.all_eq_true] at h
  intro x hx y hy
  have := h.1 x hx
  simp only [Bool.and_eq_true, List.all_eq_true] at this
  exact this.2 y hy
end LP
namespace LP
open PySem PySem.Spec
open PyProof.Rows L2
/-! ### sorted -/
/-- how many of xs are less -/
def rank (xs : List D) (d : D) : Nat := (xs.filter fun e => D.lt e d).length
theorem filter_sub {p q : D → Bool} : ∀ (l : List D), (∀ e ∈ l, p e = true → q e = true) → (l.filter p).length ≤ (l.filter q).length
  | [], _ => Nat.le_refl _
  | x :: l, h => by
    have ih := filter_sub l fun e he => h e (List.mem_cons_of_mem _ he)
    cases hp : p x with
    | true =>
      rw [List.filter_cons_of_pos hp, List.filter_cons_of_pos (h x List.mem_cons_self hp), List.length_cons, List.length_cons]
      omega
    | false =>
      rw [List.filter_cons_of_neg (by rw [hp]; decide)]
      cases hq : q x with
      | true => rw [List.filter_cons_of_pos hq, List.length_cons]; omega
      | false => rw [List.filter_cons_of_neg (by rw [hq]; decide)]; exact ih
theorem filter_less {p q : D → Bool} {d : D} : ∀ (l : List D), (∀ e ∈ l, p e = true → q e = true) → d ∈ l → p d = false → q d = true → (l.filter p).length < (l.filter q).length
  | [], _, hd, _, _ => absurd hd (by simp)
  | x :: l, h, hd, hp, hq => by
    have sub := filter_sub l fun e he => h e (List.mem_cons_of_mem _ he)
    rcases List.mem_cons.mp hd with e | hd'
    · subst e
      rw [List.filter_cons_of_neg (by rw [hp]; decide), List.filter_cons_of_pos hq, List.length_cons]
      omega
    · have ih := filter_less l (fun e he => h e (List.mem_cons_of_mem _ he)) hd' hp hq
      cases hp' : p x with
      | true =>
        rw [List.filter_cons_of_pos hp', List.filter_cons_of_pos (h x List.mem_cons_self hp'), List.length_cons, List.length_cons]
        omega
      | false =>
        rw [List.filter_cons_of_neg (by rw [hp']; decide)]
        cases hq' : q x with
        | true => rw [List.filter_cons_of_pos hq', List.length_cons]; omega
        | false => rw [List.filter_cons_of_neg (by rw [hq']; decide)]; exact ih
theorem rank_lt {xs : List D} (al : AllLike xs) {d e : D} (hd : d ∈ xs) (he : e ∈ xs) : decide (rank xs d < rank xs e) = D.lt d e := by
  cases q : D.lt d e with
  | true =>
    refine decide_eq_true (filter_less xs (fun z hz h => ?_) hd (lt_irr d (al d hd d hd)) q)
    exact lt_trans z d e (al z hz d hd) (al d hd e he) (al z hz e he) h q
  | false =>
    refine decide_eq_false (Nat.not_lt.mpr (filter_sub xs fun z hz h => ?_))
    cases q2 : D.lt e d with
    | true => exact lt_trans z e d (al z hz e he) (al e he d hd) (al z hz d hd) h q2
    | false => rw [lt_tot d e (al d hd e he) q q2]; exact h
section
variable {X : Cx} {pins : List (Addr × Obj)} {σ : L2.St} {H : Hp} {s : Shared} {as : List Addr}
mutual
/-- data of one kind is told by where it lies -/
theorem rp_inj (I : Inv X pins σ H s) : ∀ (d e : D) (v : V), D.like d e = true → Rp X.K as H v d → Rp X.K as H v e → d = e
  | .int _, e, _, hl, h1, h2 => by
    cases e with
    | int _ => cases h1; cases h2; rfl
    | _ => cases hl
  | .str _, e, _, hl, h1, h2 => by
    cases e with
    | str _ => cases h1; cases h2; rfl
    | _ => cases hl
  | .tup xs, e, _, hl, h1, h2 => by
    cases e with
    | tup ys =>
      cases h1 with
      | tup a1 a2 =>
      cases h2 with
      | tup b1 b2 =>
        have e := I.tuple_inj a1 b1
        subst e
        rw [rpl_inj I xs ys _ (by simpa only [D.like] using hl) a2 b2]
    | _ => cases hl
  | .non, _, _, hl, _, _ => by cases hl
  | .bl _, _, _, hl, _, _ => by cases hl
  | .lst _, _, _, hl, _, _ => by cases hl
  | .scr _, _, _, hl, _, _ => by cases hl
  | .dct _, _, _, hl, _, _ => by cases hl
  | .obj _, _, _, hl, _, _ => by cases hl
theorem rpl_inj (I : Inv X pins σ H s) : ∀ (ds es : List D) (vs : List V), D.likes ds es = true → RpL X.K as H vs ds → RpL X.K as H vs es → ds = es
  | [], [], _, _, _, _ => rfl
  | [], _ :: _, _, _, h1, h2 => by cases h1; cases h2
  | _ :: _, [], _, _, h1, h2 => by cases h2; cases h1
  | d :: ds, e :: es, _, hl, h1, h2 => by
    simp only [D.likes, Bool.and_eq_true] at hl
    cases h1 with
    | cons a1 a2 =>
    cases h2 with
    | cons b1 b2 => rw [rp_inj I d e _ hl.1 a1 b1, rpl_inj I ds es _ hl.2 a2 b2]
end
theorem katlex (I : Inv X pins σ H s) (A : Around) {Q : Bool → Shared → Prop} : ∀ (xs ys : List D) (vs us : List V) (its its2 : List Value) (i : Nat), RpL X.K as H vs xs → RpL X.K as H us ys → Vals vs its → Vals us its2 →
    D.likes xs ys = true → D.pls xs = true → D.pls ys = true → D.nss xs = true → D.nss ys = true → D.deps xs ≤ 50 → A.units + 50 + D.deps xs < cLine →
    (i = 0 → ∀ x r, xs = x :: r → (∃ n, x = .int n) ∨ ∃ z, x = .str z) → Q (D.lts xs ys) s →
    PySem.W.KatLex X.prog X.w A true (decide (its.length < its2.length)) Q (its.zip its2) i s
  | [], ys, _, us, its, its2, i, h1, h2, r1, r2, _, _, _, _, _, _, _, _, q => by
    cases h1; cases r1
    have e2 : us.length = ys.length := h2.length
    have e3 := r2.length
    refine PySem.W.kat_nil ?_
    cases ys with
    | nil =>
      cases h2; cases r2
      exact q
    | cons y ys =>
      have : ([] : List Value).length < its2.length := by rw [← e3, e2]; simp
      rw [decide_eq_true this]
      exact q
  | x :: xs, [], _, us, its, its2, i, h1, h2, r1, r2, _, _, _, _, _, _, _, _, q => by
    cases h2; cases r2
    rw [List.zip_nil_right]
    refine PySem.W.kat_nil ?_
    have : ¬ its.length < ([] : List Value).length := by simp
    rw [decide_eq_false this]
    exact q
  | x :: xs, y :: ys, _, _, _, _, i, h1, h2, r1, r2, hl, px, py, nx, ny, hd, hu, hf, q => by
    cases h1 with
    | cons h1 h1' =>
    cases h2 with
    | cons h2 h2' =>
    cases r1 with
    | cons r1 r1' =>
    cases r2 with
    | cons r2 r2' =>
      rename_i vx vs vy us ux its uy its2
      have hl' : D.like x y = true ∧ D.likes xs ys = true := by simpa only [D.likes, Bool.and_eq_true] using hl
      have px' : x.pl = true ∧ D.pls xs = true := by simpa only [D.pls, Bool.and_eq_true] using px
      have py' : y.pl = true ∧ D.pls ys = true := by simpa only [D.pls, Bool.and_eq_true] using py
      have nx' : x.ns = true ∧ D.nss xs = true := by simpa only [D.nss, Bool.and_eq_true] using nx
      have ny' : y.ns = true ∧ D.nss ys = true := by simpa only [D.nss, Bool.and_eq_true] using ny
      simp only [D.deps] at hd hu
      have ed : decide ((ux :: its).length < (uy :: its2).length) = decide (its.length < its2.length) := by simp
      rw [ed, List.zip_cons_cons]
      refine PySem.W.kat_cons (eqAt_D I A h1 h2 r1 r2 px'.1 py'.1 nx'.1 ny'.1 (by omega) (by omega) X.prog X.w _ _ ?_)
      simp only [D.lts] at q
      cases e : D.eq x y with
      | true =>
        rw [e, if_pos rfl] at q
        exact PySem.W.kat_yes (katlex I A xs ys _ _ its its2 (i + 1) h1' h2' r1' r2' hl'.2 px'.2 py'.2 nx'.2 ny'.2 (by omega) (by omega) (fun z => absurd z (by omega)) q)
      | false =>
        rw [e, if_neg (by decide)] at q
        refine PySem.W.kat_no ?_
        by_cases hi : i = 0
        · subst hi
          have eb : (true && (0 : Nat) == 0) = true := rfl
          rw [eb]
          rcases hf rfl x xs rfl with ⟨n, rfl⟩ | ⟨z, rfl⟩
          · cases y with
            | int m =>
              cases h1; cases h2
              obtain ⟨t, rfl⟩ := r1
              obtain ⟨t', rfl⟩ := r2
              exact oneLt_int q
            | _ => cases hl'.1
          · cases y with
            | str m =>
              cases h1; cases h2
              obtain ⟨t, rfl⟩ := r1
              obtain ⟨t', rfl⟩ := r2
              exact oneLt_str q
            | _ => cases hl'.1
        · have eb : (true && i == 0) = false := by simp [hi]
          rw [eb]
          exact PySem.W.kat_one _ _ (ltAt_D I x y A _ _ _ _ h1 h2 r1 r2 hl'.1 px'.1 py'.1 nx'.1 ny'.1 (by omega) (by omega) X.prog X.w _ _ q)
end
end LP
namespace LP
open PySem PySem.Spec
open PyProof.Rows L2
/-- the datum of a value among its, as xs tell -/
def keyOf (its : List Value) (xs : List D) (u : Value) : D := xs.getD (its.findIdx fun v => decide (v = u)) .non
def backV (u : Value) : V := (absV u).getD .non
/-- sorted(l): the items' data xs; F tells them -/
def rSortD (K : PySem.W.Frag) : List V → Hp → VK → Prop := fun ws H Q => ∃ (as : List Addr) (F : Hp) (a : Addr) (vs : List V) (xs : List D), ws = [.ref a] ∧ Le F H ∧ SqL K H a vs ∧ RpL K as F vs xs ∧ D.srtOk xs = true ∧
  ∀ p us, H p = none → RpL K as F us (D.srt xs) → Q (.ref p) (upd H p (.lst us))
theorem findIdx_get (its : List Value) (u : Value) (h : u ∈ its) : its[its.findIdx fun v => decide (v = u)]? = some u := by
  have hlt : (its.findIdx fun v => decide (v = u)) < its.length := List.findIdx_lt_length.mpr ⟨u, h, by simp⟩
  rw [List.getElem?_eq_getElem hlt]
  have := List.findIdx_getElem (w := hlt)
  simpa using this
theorem rpl_map {K : PySem.W.Frag} {as : List Addr} {F : Hp} {k : Value → D} {f : Value → V} : ∀ l : List Value, (∀ u ∈ l, Rp K as F (f u) (k u)) → RpL K as F (l.map f) (l.map k)
  | [], _ => .nil
  | u :: l, h => .cons (h u List.mem_cons_self) (rpl_map l fun z hz => h z (List.mem_cons_of_mem _ hz))
theorem vals_map {f : Value → V} : ∀ l : List Value, (∀ u ∈ l, RelV (f u) u) → Vals (l.map f) l
  | [], _ => .nil
  | u :: l, h => .cons (h u List.mem_cons_self) (vals_map l fun z hz => h z (List.mem_cons_of_mem _ hz))
/-- what sorting needs of the items its, whose data are xs; and what comes of it -/
theorem sortCore {X : Cx} (hu : X.A.units + 200 < cLine) {pins : List (Addr × Obj)} {σ : L2.St} {H : Hp} {s : Shared} (I : Inv X pins σ H s) {as : List Addr} {F : Hp} {vs : List V} {xs : List D} {its : List Value} (le : Le F H) (hF : RpL X.K as F vs xs)
    (rv : Vals vs its) (ok : D.srtOk xs = true) : ∃ ltv : Value → Value → Bool, SrtO.Swo ltv ∧
      (2 ≤ its.length → ∀ (s1 : Shared) (a : Addr), (∀ h' : Heap, (∀ b o, b ≠ a → s1.heap.get? b = some o → h'.get? b = some o) → Inv X pins σ H { s1 with heap := h' }) → SrtO.SortableO X.prog X.w X.A.in1.in1 s1 a its ltv) ∧
      ∀ out : List Value, SrtO.Srtd ltv out → SrtO.Stb ltv out its → ∃ us, Vals us out ∧ RpL X.K as F us (D.srt xs) := by
  have al := like_of_ok ok
  have hH : RpL X.K as H vs xs := hF.up (Pre.refl _) le
  have ok' := ok
  unfold D.srtOk at ok'
  rw [Bool.and_eq_true, List.all_eq_true, decide_eq_true_eq] at ok'
  have each : ∀ x ∈ xs, D.hd x = true ∧ x.dep ≤ 50 ∧ x.pl = true ∧ x.ns = true := fun x hx => by
    have := ok'.1 x hx
    simp only [Bool.and_eq_true, decide_eq_true_eq] at this
    exact ⟨this.1.1.1.1, this.1.1.1.2, this.1.1.2, this.1.2⟩
  have hlen : its.length = xs.length := by rw [← rv.length, hH.length]
  -- what stands at place j
  have place : ∀ (j : Nat) w, its[j]? = some w → ∃ v d, vs[j]? = some v ∧ xs[j]? = some d ∧ RelV v w ∧ Rp X.K as F v d := fun j w hj => by
    have hlt : j < vs.length := by rw [rv.length]; exact (List.getElem?_eq_some_iff.mp hj).1
    obtain ⟨w', e1, e2⟩ := rv.get (i := j) (x := vs[j]) (by simp [hlt])
    rw [hj] at e1
    cases e1
    obtain ⟨d, e3, e4⟩ := hF.getV (i := j) (v := vs[j]) (by simp [hlt])
    exact ⟨vs[j], d, by simp [hlt], e3, e2, e4⟩
  obtain ⟨k, hk⟩ : ∃ k : Value → D, k = keyOf its xs := ⟨_, rfl⟩
  have kAt : ∀ w ∈ its, ∃ v, RelV v w ∧ Rp X.K as F v (k w) ∧ k w ∈ xs := fun w hw => by
    obtain ⟨v, d, e1, e2, e3, e4⟩ := place _ w (findIdx_get its w hw)
    have ek : k w = d := by rw [hk]; unfold keyOf; rw [List.getD, e2]; rfl
    rw [ek]
    exact ⟨v, e3, e4, List.mem_of_getElem? e2⟩
  have kMap : its.map k = xs := by
    apply List.ext_getElem?; intro j
    rw [List.getElem?_map]
    cases hj : its[j]? with
    | none =>
      have : its.length ≤ j := List.getElem?_eq_none_iff.mp hj
      rw [List.getElem?_eq_none (by omega)] <;> rfl
    | some w =>
      obtain ⟨v, d, e1, e2, e3, e4⟩ := place j w hj
      obtain ⟨v', f1, f2, f3⟩ := kAt w (List.mem_of_getElem? hj)
      have ev : v = v' := e3.inj f1
      subst ev
      have := rp_inj I (k w) d v (al _ f3 _ (List.mem_of_getElem? e2)) (f2.up (Pre.refl _) le) (e4.up (Pre.refl _) le)
      show some (k w) = xs[j]?
      rw [this, e2]
  obtain ⟨ltv, hlt⟩ : ∃ ltv : Value → Value → Bool, ltv = fun u v => decide (rank xs (k u) < rank xs (k v)) := ⟨_, rfl⟩
  have O : SrtO.Swo ltv := by
    rw [hlt]
    constructor; rotate_left; intro x y z h1 h2; rotate_left; intro x y h
    · have a := of_decide_eq_true h
      exact decide_eq_false_iff_not.mpr (by omega)
    · have a := of_decide_eq_false h1
      have bb := of_decide_eq_false h2
      exact decide_eq_false_iff_not.mpr (by omega)
  have ltEq : ∀ w ∈ its, ∀ z ∈ its, ltv w z = D.lt (k w) (k z) := fun w hw z hz => by
    obtain ⟨_, _, _, m1⟩ := kAt w hw
    obtain ⟨_, _, _, m2⟩ := kAt z hz
    rw [hlt]
    exact rank_lt al m1 m2
  refine ⟨ltv, O, fun h2 s1 a' inv => ?_, fun out h1 h2 => ?_⟩
  · intro h' keep
    have I' : Inv X pins σ H { s1 with heap := h' } := inv h' keep
    obtain ⟨i1, hi1⟩ : ∃ w, its[0]? = some w := ⟨its[0], by simp [show 0 < its.length by omega]⟩
    obtain ⟨d0, hd0⟩ : ∃ d, k i1 = d := ⟨_, rfl⟩
    have m1 : i1 ∈ its := List.mem_of_getElem? hi1
    obtain ⟨_, _, _, k1⟩ := kAt i1 m1
    have hhd := (each _ k1).1
    have un : ∀ {d : D}, d.dep ≤ 50 → X.A.in1.in1.units + 50 + d.dep < cLine := fun {d} hd => by
      show X.A.units + 1 + 1 + 50 + d.dep < cLine
      omega
    -- all are of the first one's kind
    have same : ∀ w ∈ its, D.like (k i1) (k w) = true := fun w hw => by
      obtain ⟨_, _, _, k2⟩ := kAt w hw
      exact al _ k1 _ k2
    rw [hd0] at same hhd
    cases d0 with
    | int n0 =>
      have isI : ∀ w ∈ its, ∃ n t, w = Value.int n t ∧ k w = .int n := fun w hw => by
        have hs := same w hw
        obtain ⟨v, e1, e2, _⟩ := kAt w hw
        cases e : k w with
        | int n =>
          rw [e] at e2
          cases e2
          obtain ⟨t, rfl⟩ := e1
          exact ⟨n, t, rfl, rfl⟩
        | _ => rw [e] at hs; cases hs
      refine ⟨oneType', fun Q E hq => PySem.W.kas_kind (T := .type "int") h2 (fun w hw => ?_) (by rfl) (by rfl) hq, fun p q' hp hq' => ?_⟩
      · obtain ⟨n, t, rfl, _⟩ := isI w hw
        exact PySem.W.Looks.now
      · have hp : p.1 ∈ its := hp
        have hq' : q'.1 ∈ its := hq'
        show wpAny _ _ _ (fun r s' => s' = _ ∧ r = ltv p.1 q'.1) _ _
        rw [ltEq _ hp _ hq']
        obtain ⟨n, t, e1, e2⟩ := isI _ hp
        obtain ⟨m, t', e3, e4⟩ := isI _ hq'
        rw [e2, e4, e1, e3, keyLt'_oneType]
        exact oneLt_int ⟨rfl, rfl⟩
    | str n0 =>
      have isS : ∀ w ∈ its, ∃ n t, w = Value.str n t ∧ k w = .str n := fun w hw => by
        have hs := same w hw
        obtain ⟨v, e1, e2, _⟩ := kAt w hw
        cases e : k w with
        | str n =>
          rw [e] at e2
          cases e2
          obtain ⟨t, rfl⟩ := e1
          exact ⟨n, t, rfl, rfl⟩
        | _ => rw [e] at hs; cases hs
      refine ⟨oneType', fun Q E hq => PySem.W.kas_kind (T := .type "str") h2 (fun w hw => ?_) (by rfl) (by rfl) hq, fun p q' hp hq' => ?_⟩
      · obtain ⟨n, t, rfl, _⟩ := isS w hw
        exact PySem.W.Looks.now
      · have hp : p.1 ∈ its := hp
        have hq' : q'.1 ∈ its := hq'
        show wpAny _ _ _ (fun r s' => s' = _ ∧ r = ltv p.1 q'.1) _ _
        rw [ltEq _ hp _ hq']
        obtain ⟨n, t, e1, e2⟩ := isS _ hp
        obtain ⟨m, t', e3, e4⟩ := isS _ hq'
        rw [e2, e4, e1, e3, keyLt'_oneType]
        exact oneLt_str ⟨rfl, rfl⟩
    | tup ds0 =>
      obtain ⟨f0, fr0, hds0⟩ : ∃ f0 fr0, ds0 = f0 :: fr0 := by
        cases ds0 with
        | nil => cases hhd
        | cons f0 fr0 => exact ⟨f0, fr0, rfl⟩
      subst hds0
      -- each is a tuple whose first is of the kind of f0
      have isT : ∀ w ∈ its, ∃ (b : Addr) (wits : List Value) (wvs : List V) (f : D) (fr : List D), w = .ref b ∧ k w = .tup (f :: fr) ∧ IsTup h' b wits.toArray ∧ Vals wvs wits ∧ RpL X.K as H wvs (f :: fr) ∧ D.like f0 f = true ∧ D.hd (.tup (f :: fr)) = true := fun w hw => by
        have hs := same w hw
        obtain ⟨v, e1, e2, e3⟩ := kAt w hw
        have hh := (each _ e3).1
        cases e : k w with
        | tup fs =>
          rw [e] at e2 hs hh
          cases fs with
          | nil => cases hh
          | cons f fr =>
            simp only [D.like, D.likes, Bool.and_eq_true] at hs
            cases e2 with
            | tup t1 t2 =>
              rename_i b wvs
              cases (show w = Value.ref b from e1)
              obtain ⟨wits, rw1, pw, _⟩ := I'.tuple (sqT_le le t1)
              exact ⟨b, wits, wvs, f, fr, rfl, rfl, pw, rw1, t2.up (Pre.refl _) le, hs.1, hh⟩
        | _ => rw [e] at hs; cases hs
      have firsts : ∀ l : List Value, (∀ w ∈ l, w ∈ its) → ∃ fs, PySem.W.KatTups h' l fs ∧ fs.length = l.length ∧ ∀ z ∈ fs, ∃ (v : V) (f : D), RelV v z ∧ Rp X.K as H v f ∧ D.like f0 f = true := by
        intro l
        induction l with
        | nil => intro _; exact ⟨[], PySem.W.KatTups.nil, rfl, fun z hz => absurd hz (by simp)⟩
        | cons w l ih =>
          intro hm
          obtain ⟨fs, g1, g2, g3⟩ := ih fun z hz => hm z (List.mem_cons_of_mem _ hz)
          obtain ⟨b, wits, wvs, f, fr, rfl, _, ⟨o, ho, hc, n, hd⟩, rw1, rp1, lk, _⟩ := isT w (hm w List.mem_cons_self)
          cases rp1 with
          | cons p1 p2 =>
          cases rw1 with
          | cons q1 q2 =>
            rename_i v1 vr1 u1 ur1
            refine ⟨u1 :: fs, PySem.W.KatTups.cons ho hc hd (by simp) g1, by simp [g2], fun z hz => ?_⟩
            obtain rfl | hz := List.mem_cons.mp hz
            · exact ⟨v1, f, q1, p1, lk⟩
            · exact g3 z hz
      obtain ⟨fs, g1, g2, g3⟩ := firsts its fun w hw => hw
      have cmp : SrtO.Cmp X.prog X.w X.A.in1.in1 { s1 with heap := h' } (tuples' true) (fun p => p.1 ∈ its) (SrtO.lt2 ltv) := fun p q' hp hq' => by
        have hp : p.1 ∈ its := hp
        have hq' : q'.1 ∈ its := hq'
        show wpAny _ _ _ (fun r s' => s' = _ ∧ r = ltv p.1 q'.1) _ _
        rw [ltEq _ hp _ hq']
        obtain ⟨_, _, _, kp⟩ := kAt _ hp
        obtain ⟨_, _, _, kq⟩ := kAt _ hq'
        have lk := al _ kp _ kq
        obtain ⟨_, dp, pp, np⟩ := each _ kp
        obtain ⟨_, dq, pq, nq⟩ := each _ kq
        obtain ⟨b, wits, wvs, f, fr, e1, e2, ⟨o, ho, hc, n, hd⟩, rw1, rp1, _, hh1⟩ := isT _ hp
        obtain ⟨b2, wits2, wvs2, f2, fr2, e3, e4, ⟨o2, ho2, hc2, n2, hd2⟩, rw2, rp2, _, _⟩ := isT _ hq'
        rw [e2] at lk dp pp np
        rw [e4] at lk dq pq nq
        rw [e2, e4, e1, e3]
        refine PySem.W.kat_lt ho hd ho2 hd2 ?_
        have e5 : decide (wits.toArray.size < wits2.toArray.size) = decide (wits.length < wits2.length) := by simp
        rw [e5]
        simp only [D.like] at lk
        simp only [D.pl] at pp pq
        simp only [D.ns] at np nq
        simp only [D.dep] at dp dq
        refine katlex I' X.A.in1.in1 (f :: fr) (f2 :: fr2) wvs wvs2 wits wits2 0 rp1 rp2 rw1 rw2 lk pp pq np nq (by omega) (by show X.A.units + 1 + 1 + 50 + D.deps (f :: fr) < cLine; omega) (fun _ x r er => ?_) ⟨rfl, rfl⟩
        cases er
        cases f with
        | int n => exact .inl ⟨n, rfl⟩
        | str z => exact .inr ⟨z, rfl⟩
        | _ => cases hh1
      cases f0 with
      | int n0 =>
        refine ⟨tuples' true, fun Q E hq => PySem.W.kat_kind (T := .type "int") g1 (by rw [g2]; omega) (fun z hz => ?_) (by rfl) (by
          have e : (Value.type "int" != Value.type "tuple") = true := by decide
          rw [e]; exact hq), cmp⟩
        obtain ⟨v, f, q1, q2, q3⟩ := g3 z hz
        cases f with
        | int m =>
          cases q2
          obtain ⟨t, rfl⟩ := q1
          exact PySem.W.Looks.now
        | _ => cases q3
      | str n0 =>
        refine ⟨tuples' true, fun Q E hq => PySem.W.kat_kind (T := .type "str") g1 (by rw [g2]; omega) (fun z hz => ?_) (by rfl) (by
          have e : (Value.type "str" != Value.type "tuple") = true := by decide
          rw [e]; exact hq), cmp⟩
        obtain ⟨v, f, q1, q2, q3⟩ := g3 z hz
        cases f with
        | str m =>
          cases q2
          obtain ⟨t, rfl⟩ := q1
          exact PySem.W.Looks.now
        | _ => cases q3
      | _ => cases hhd
    | bl _ =>
      have := same i1 m1
      rw [hd0] at this
      cases this
    | _ => cases hhd
  · have hm : ∀ u ∈ out, u ∈ its := fun u hu => h2.perm.mem_iff.mp hu
    have rel : ∀ u ∈ out, RelV (backV u) u ∧ Rp X.K as F (backV u) (k u) := fun u hu => by
      obtain ⟨v, e1, e2, _⟩ := kAt u (hm u hu)
      have eb : backV u = v := by unfold backV; rw [e1.abs]; rfl
      rw [eb]
      exact ⟨e1, e2⟩
    have vm := vals_map (f := backV) out fun u hu => (rel u hu).1
    have rm := rpl_map (k := k) (f := backV) out fun u hu => (rel u hu).2
    have es : D.srt xs = out.map k := by
      refine srt_uniq al ?_ ?_
      · refine List.pairwise_map.mpr ?_
        have h1' : out.Pairwise fun x y => ltv y x = false := h1
        refine (List.Pairwise.imp_of_mem (fun {a b} ha hb h => ?_) h1')
        rw [← ltEq b (hm b hb) a (hm a ha)]
        exact h
      · have := h2.perm.map k
        rw [kMap] at this
        exact this
    rw [← es] at rm
    exact ⟨_, vm, rm⟩
theorem cr_sortD {X : Cx} (hu : X.A.units + 200 < cLine) : CallR X (.builtin "sorted") (rSortD X.K) := by
  intro pins s σ H ws us Q I r h
  obtain ⟨as, F, a, vs, xs, rfl, le, hs, hF, ok, q⟩ := h
  have ⟨its, rv, hl, hz⟩ := I.list hs
  obtain ⟨u, eu, ru⟩ := vals1 r; subst eu
  cases show u = .ref a from ru
  obtain ⟨ltv, O, c1, c2⟩ := sortCore hu I le hF rv ok
  refine SrtO.sorted_ord O hl.isList (by rw [← rv.length]; exact hz) (fun h2 h₁ a' ha kk => c1 h2 _ a' fun h' keep => ?_) fun out h1 h2 => ?_
  · exact I.kept (t' := s.toks) fun b o e => keep b o (kk b o e).1 (kk b o e).2
  · obtain ⟨ep, he'⟩ := PyProof.Rows.sortedAll_at s.heap its out.toArray
    obtain ⟨us, vm, rm⟩ := c2 out h1 h2
    have hlen2 : us.length ≤ sizeLine := by
      rw [vm.length, h2.perm.length_eq, ← rv.length]
      exact hz
    exact ⟨.ref _, upd H (s.heap.objs.size + 1) (.lst us), I.laid (t' := s.toks) (fun _ _ => PyProof.Rows.sortedAll_old) (Nat.le_succ _) ⟨hlen2, out, ep, vm, he'⟩, rfl, q _ _ (I.hok.fresh (Nat.le_succ _)) rm⟩
end LP
/-! LP.Pot: a set of tuples of texts and numbers; one more goes in. -/
namespace LP.Pot
open PySem PySem.Spec
open PyProof.Rows L2
section
variable {P : Program} {w : World} {A : Around} {E : Value → Shared → Prop} {s : Shared} {kf : Addr → List Key} {a : Addr} {bs : List Addr} {ep : Nat} {t : SetTable}
theorem pass1 {M : Model} {α β : Type} {x : α} {f : α → Sem β} {Q : β → Shared → Prop} (h : wpAny M A (f x) Q E s) : wpAny M A (pure x >>= f) Q E s := wpAny_bind (wpAny_pure h)
/-- the tuple at b has the signs k -/
abbrev Tk (P : Program) (w : World) (h : Heap) (k : List Key) (b : Addr) : Prop := IsTupleKey (mixKind P w) h k b
abbrev hsh (P : Program) (w : World) (k : List Key) : Int := tupleKeyHash (mixKind P w) k
/-! ### what is asked of a tuple of such signs -/
def easy (v : Value) : Prop := ∀ n, ofAClassStatement n v = pure false ∧ ∃ r, hashByValue n v = pure r
theorem easy_of {q : Key} {v : Value} (h : (mixKind P w).is q v = true) : easy v := fun n => by
  obtain ⟨i, u, _, e⟩ | ⟨z, u, _, e⟩ := keyIs_shape h <;> subst e <;> cases n <;> exact ⟨rfl, _, rfl⟩
theorem easy_all {k : List Key} {vs : List Value} (h : ItemsAre (mixKind P w) k vs) : ∀ v ∈ vs, easy v := by
  induction h with
  | nil => exact fun _ z => nomatch z
  | cons h1 _ ih => exact fun v hv => (List.mem_cons.mp hv).elim (fun e => e ▸ easy_of h1) (ih v)
theorem noClass {k : List Key} {b : Addr} {Q : Bool → Shared → Prop} (x : Tk P w s.heap k b) (q : Q false s) : wpAny (model P w) A (ofAClassStatement 8 (.ref b)) Q E s := by
  have ty := x.typeIs
  obtain ⟨o, its, n, ho, _, hd, hi⟩ := x
  have ez := easy_all hi
  unfold ofAClassStatement
  refine wpAny_bind (wpAny_typeOf ty ?_)
  simp only [beq_self_eq_true, if_true, Bool.not_true, Bool.false_eq_true, if_false]
  try refine pass1 ?_
  try simp only [if_false, Bool.not_true, Bool.false_eq_true]
  apply wpAny_bind; apply wpAny_seqItems ho hd
  dsimp only
  refine wpAny_bind ?_
  show wpAny _ _ (forIn its _ _) _ _ _
  rw [← Array.forIn_toList]
  refine wpAny_forIn_list _ (fun r c s' => (c.1 = none ∧ s' = s) ∧ ∀ v ∈ r, easy v) _ (fun v r c s' h => ?_) (fun c s' h => ?_) _ _ ⟨⟨rfl, rfl⟩, ez⟩
  · obtain ⟨⟨_, rfl⟩, h2⟩ := h
    rw [(h2 v (.head _) _).1]
    refine pass1 ?_
    rw [if_neg (nomatch ·)]
    exact wpAny_pure ⟨⟨rfl, rfl⟩, fun u hu => h2 u (.tail _ hu)⟩
  · obtain ⟨c1, c2⟩ := c
    obtain ⟨⟨h1, rfl⟩, _⟩ := h
    cases h1
    exact wpAny_pure q
theorem byHash {k : List Key} {b : Addr} {Q : Bool → Shared → Prop} (x : Tk P w s.heap k b) (q : ∀ r, Q r s) : wpAny (model P w) A (hashByValue 8 (.ref b)) Q E s := by
  have ty := x.typeIs
  obtain ⟨o, its, n, ho, _, hd, hi⟩ := x
  have ez := easy_all hi
  unfold hashByValue
  refine wpAny_bind (wpAny_specialOf ty F.slot_tuple_hash.lookup ?_)
  dsimp only
  apply wpAny_bind; apply wpAny_seqItems ho hd
  refine wpAny_bind ?_
  show wpAny _ _ (forIn its _ _) _ _ _
  rw [← Array.forIn_toList]
  refine wpAny_forIn_list _ (fun r c s' => (c.1 = none ∧ s' = s) ∧ ∀ v ∈ r, easy v) _ (fun v r c s' h => ?_) (fun c s' h => ?_) _ _ ⟨⟨rfl, rfl⟩, ez⟩
  · obtain ⟨⟨_, rfl⟩, h2⟩ := h
    obtain ⟨y, hy⟩ := (h2 v (.head _) _).2
    rw [hy]
    refine pass1 ?_
    cases y
    · rw [if_pos (by rfl)]
      exact wpAny_pure (wpAny_pure (q _))
    · rw [if_neg (by decide)]
      exact wpAny_pure ⟨⟨rfl, rfl⟩, fun u hu => h2 u (.tail _ hu)⟩
  · obtain ⟨c1, c2⟩ := c
    obtain ⟨⟨h1, rfl⟩, _⟩ := h
    cases h1
    exact wpAny_pure (q _)
theorem unseen {k : List Key} {x : Addr} {ys : List Value} {Q : Bool → Shared → Prop} (hx : Tk P w s.heap k x) (hy : ∀ y ∈ ys, ∃ c j, y = .ref c ∧ Tk P w s.heap j c) (q : Q false s) :
    wpAny (model P w) A (searchCouldBeSeen (.ref x) ys) Q E s := by
  unfold searchCouldBeSeen
  refine wpAny_bind (wpAny_forIn_list _ (fun r c s' => (c.1 = none ∧ s' = s) ∧ ∀ y ∈ r, ∃ c j, y = .ref c ∧ Tk P w s.heap j c) _ (fun v r c s' h => ?_) (fun c s' h => ?_) _ _ ⟨⟨rfl, rfl⟩, hy⟩)
  · obtain ⟨⟨_, rfl⟩, h2⟩ := h
    obtain ⟨z, j, rfl, hz⟩ := h2 v (.head _)
    have fin : ∀ y ∈ r, ∃ c j, y = Value.ref c ∧ Tk P w s'.heap j c := fun u hu => h2 u (.tail _ hu)
    dsimp only
    split
    · exact wpAny_pure ⟨⟨rfl, rfl⟩, fin⟩
    · refine wpAny_bind (wpAny_eqIsQuiet_tuple hx ?_)
      rw [if_neg (by decide)]
      refine wpAny_bind (wpAny_eqIsQuiet_tuple hz ?_)
      rw [if_neg (by decide)]
      refine wpAny_bind (noClass hx ?_)
      rw [if_neg (by decide)]
      refine wpAny_bind (noClass hz ?_)
      rw [if_neg (by decide)]
      exact wpAny_pure ⟨⟨rfl, rfl⟩, fin⟩
  · obtain ⟨c1, c2⟩ := c
    obtain ⟨⟨h1, rfl⟩, _⟩ := h
    cases h1
    exact wpAny_pure q
/-! ### the pot -/
def row (P : Program) (w : World) (kf : Addr → List Key) (b : Addr) : Int × Value := (hsh P w (kf b), .ref b)
def rws (P : Program) (w : World) (kf : Addr → List Key) (bs : List Addr) : Array (Int × Value) := (bs.map (row P w kf)).toArray
def potO (P : Program) (w : World) (kf : Addr → List Key) (bs : List Addr) (ep : Nat) (t : SetTable) : Obj := { cls := .type "set", dict := none, data := .set (rws P w kf bs) ep t }
abbrev hshs (P : Program) (w : World) (kf : Addr → List Key) (bs : List Addr) : List Int := bs.map fun b => hsh P w (kf b)
/-- at a stands a set of the tuples bs; kf tells each one's signs -/
structure Bag (P : Program) (w : World) (kf : Addr → List Key) (h : Heap) (a : Addr) (bs : List Addr) (ep : Nat) (t : SetTable) : Prop where
  here : h.get? a = some (potO P w kf bs ep t)
  tab : TabOk t (hshs P w kf bs)
  apart : (bs.map kf).Nodup
  each : ∀ b ∈ bs, Tk P w h (kf b) b
  led : t.led = true ∨ w.params.followText "set-order" = true
  room : bs.length * 5 < t.mask * 3
theorem rws_size : (rws P w kf bs).size = bs.length := by simp [rws]
theorem rws_at {i : Nat} {b : Addr} (h : bs[i]? = some b) : (rws P w kf bs)[i]? = some (row P w kf b) := by simp [rws, h]
theorem Bag.size (B : Bag P w kf s.heap a bs ep t) : t.place.size = bs.length := by
  have := B.tab.sz
  simpa using this
theorem fits_of {n : Nat} (h1 : t.place.size = n) (h2 : t.dummies = #[]) (h3 : n ≤ t.mask) : t.fits n = true := by
  simp [SetTable.fits, SetTable.fill, h1, h2, h3]
theorem Bag.fits (B : Bag P w kf s.heap a bs ep t) : t.fits (rws P w kf bs).size = true :=
  fits_of (by rw [rws_size]; exact B.size) B.tab.dm (by rw [rws_size]; have := B.room; omega)
/-- where the way of a hash stands at its c-th step -/
abbrev stand (t : SetTable) (h : Int) (c : Nat) : SetTable.Probe := nth t.mask (runAt t.mask (SetTable.bits h % (t.mask + 1)) (SetTable.bits h)) c
theorem stand_bare (t : SetTable) (h : Int) (c : Nat) : (stand t h c).dummy = none := by
  induction c with
  | zero => rfl
  | succ c ih =>
    show (nth _ _ (c + 1)).dummy = none
    rw [nth_succ, adv]
    split <;> exact ih
theorem seek (B : Bag P w kf s.heap a bs ep t) {x : Addr} (hx : Tk P w s.heap (kf x) x) (hu : A.units < cLine) {K : Nat} (lim : K < 10 * SetTable.turns t.mask) (free : way t.mask (hsh P w (kf x)) K ∉ t.place.toList)
    (full : ∀ c, c < K → way t.mask (hsh P w (kf x)) c ∈ t.place.toList) {Q : SetFound → Shared → Prop} (yes : kf x ∈ bs.map kf → Q (.there none) s) (no : kf x ∉ bs.map kf → Q (.free (way t.mask (hsh P w (kf x)) K) false) s) (n : Nat) :
    ∀ (c : Nat) (st : Option SetTable.Probe), c ≤ K → K - c < n → st.getD (t.probeStart (hsh P w (kf x))) = stand t (hsh P w (kf x)) c →
      (∀ (c' i : Nat) (b : Addr), c' < c → t.place.toList[i]? = some (way t.mask (hsh P w (kf x)) c') → bs[i]? = some b → kf b ≠ kf x) → wpAny (model P w) A (setSearchFrom a (.ref x) (hsh P w (kf x)) true n st) Q E s := by
  obtain ⟨g, hg⟩ : ∃ g, g = hsh P w (kf x) := ⟨_, rfl⟩
  rw [← hg] at free full no ⊢
  induction n with
  | zero => exact fun c _ _ z => absurd z (Nat.not_lt_zero _)
  | succ n ih =>
    intro c st hc hn hst past
    have shift : ∀ q, nth t.mask (stand t g c) q = stand t g (c + q) := fun q => (nth_add t.mask c _ q).symm
    have wayAt : ∀ q, (nth t.mask (stand t g c) q).j = way t.mask g (c + q) := fun q => by rw [shift]
    obtain ⟨hA, hhA⟩ : ∃ hA : Nat → Int, hA = fun i => ((rws P w kf bs)[i]?.map (·.1)).getD 0 := ⟨_, rfl⟩
    have hAt : ∀ (i : Nat) (b : Addr), bs[i]? = some b → hA i = hsh P w (kf b) := fun i b hb => by rw [hhA]; simp only [rws_at hb]; rfl
    rw [setSearchFrom_succ]
    refine wpAny_bind (wpAny_setState_of B.here rfl B.fits ?_)
    dsimp only
    rw [if_neg (show ¬ t.gaveWay = true by rw [SetTable.gaveWay, mask_odd B.tab.mok]; decide), hst, ← hhA]
    try refine pass1 ?_
    obtain ⟨q, i, hq, hi, hh, hno, hp⟩ | ⟨hno, hp⟩ := go_spec t B.tab.ris B.tab.dm hA g (10 * SetTable.turns t.mask) (K - c) (stand t g c) (stand_bare t g c) (by omega)
      (fun q hq => by rw [wayAt]; exact full _ (by omega)) (by rw [wayAt, Nat.add_sub_cancel' hc]; exact free)
    · rw [show t.probe hA g (stand t g c) = _ from hp]
      dsimp only
      rw [wayAt] at hi ⊢
      have il : i < bs.length := by
        obtain ⟨z, _⟩ := List.getElem?_eq_some_iff.mp hi
        rwa [Array.length_toList, B.size] at z
      obtain ⟨b, hb⟩ : ∃ b, bs[i]? = some b := ⟨_, List.getElem?_eq_getElem il⟩
      have bm : b ∈ bs := List.mem_of_getElem? hb
      have rest : wpAny (model P w) A (searchRest a (.ref x) g true n (rws P w kf bs) t (way t.mask g (c + q)) i (nth t.mask (stand t g c) (q + 1))) Q E s := by
        rw [searchRest, rws_at hb]
        dsimp only [row]
        refine wpAny_bind (wpAny_holding (wpAny_eqBool_tuple hu (B.each b bm) hx (wpAny_bind (wpAny_setState_of B.here rfl B.fits ?_))))
        dsimp only
        by_cases same : kf b = kf x
        · rw [decide_eq_true same, if_pos (by rfl)]
          exact wpAny_pure (yes (List.mem_map.mpr ⟨b, bm, same⟩))
        · rw [decide_eq_false same, if_neg (by decide)]
          try refine pass1 ?_
          have sl := slot_live B.tab.ris hi
          simp only [sameMem, if_true, sl, rws_at hb, row]
          refine wpAny_bind (wpAny_isSame_ref_self ?_)
          refine pass1 ?_
          simp only [if_true, Bool.false_eq_true, if_false]
          refine ih (c + (q + 1)) _ (by omega) (by omega) (shift (q + 1)) fun c' i' b' h1 h2 h3 e => ?_
          by_cases f1 : c' < c
          · exact past c' i' b' f1 h2 h3 e
          by_cases f2 : c' < c + q
          · exact hno (c' - c) i' (by omega) (by rw [wayAt, Nat.add_sub_cancel' (Nat.le_of_not_lt f1)]; exact h2) (by rw [hAt i' b' h3, e, hg])
          obtain rfl : c' = c + q := by omega
          have := slot_live B.tab.ris h2
          rw [sl] at this
          cases this
          rw [hb] at h3
          cases h3
          exact same e
      by_cases hl : t.led = true
      · rw [if_neg (by rw [hl]; decide)]
        try refine pass1 ?_
        exact rest
      · rw [if_pos (by rw [Bool.eq_false_iff.mpr hl]; rfl)]
        refine wpAny_bind (unseen hx (fun y hy => ?_) ?_)
        · simp only [List.mem_map, rws] at hy
          obtain ⟨e, he, rfl⟩ := hy
          have he' : e ∈ bs.map (row P w kf) := by
            simp only [Array.toList_filter, List.mem_filter] at he
            simpa using he.1
          obtain ⟨b', hb', rfl⟩ := List.mem_map.mp he'
          exact ⟨b', _, rfl, B.each b' hb'⟩
        · rw [if_neg (by decide)]
          try refine pass1 ?_
          exact rest
    · rw [show t.probe hA g (stand t g c) = _ from hp]
      dsimp only
      rw [wayAt, Nat.add_sub_cancel' hc]
      refine wpAny_pure (no fun hm => ?_)
      have ⟨b, hb, e⟩ := List.mem_map.mp hm
      obtain ⟨i, hi⟩ := List.getElem?_of_mem hb
      have il : i < t.place.toList.length := by
        rw [Array.length_toList, B.size]
        exact (List.getElem?_eq_some_iff.mp hi).1
      obtain ⟨k, k1, k2⟩ := B.tab.before (h := g) free (by rw [List.getElem?_map, hi, hg, ← e]; rfl) (List.getElem?_eq_getElem il)
      have pk : t.place.toList[i]? = some (way t.mask g k) := by rw [List.getElem?_eq_getElem il, k2]
      by_cases f1 : k < c
      · exact past k i b f1 pk hi e
      · exact hno (k - c) i (by omega) (by rw [wayAt, Nat.add_sub_cancel' (Nat.le_of_not_lt f1)]; exact pk) (by rw [hAt i b hi, e, hg])
end
end LP.Pot
namespace LP.Pot
open PySem PySem.Spec
open PyProof.Rows L2
section
variable {P : Program} {w : World} {A : Around} {E : Value → Shared → Prop} {s : Shared} {kf : Addr → List Key} {a : Addr} {bs : List Addr} {ep : Nat} {t : SetTable}
theorem tk_keep {h h' : Heap} {k : List Key} {b : Addr} (x : Tk P w h k b) (up : ∀ o, h.get? b = some o → h'.get? b = some o) : Tk P w h' k b :=
  let ⟨o, its, n, ho, r⟩ := x
  ⟨o, its, n, up o ho, r⟩
theorem tk_apart {h : Heap} {k : List Key} {b : Addr} (x : Tk P w h k b) (here : h.get? a = some (potO P w kf bs ep t)) : b ≠ a := fun e => by
  obtain ⟨o, its, n, ho, _, hd, _⟩ := x
  rw [e, here] at ho
  cases ho
  cases hd
theorem tk_same {h h' : Heap} {k : List Key} {b : Addr} (x : Tk P w h k b) (here : h.get? a = some (potO P w kf bs ep t)) (sb : Heap.SameBut a h h') : Tk P w h' k b :=
  tk_keep x fun o e => (sb.2 b (tk_apart x here)).trans e
theorem stored {h : Heap} (here : h.get? a = some (potO P w kf bs ep t)) (cs : List Addr) (t' : SetTable) : (h.update a (Obj.putSet (rws P w kf cs) t')).get? a = some (potO P w kf cs (ep + 1) t') := store_at here rfl
theorem picked : ∀ l : List Nat, (∀ i ∈ l, i < bs.length) → l.filterMap (fun i => (rws P w kf bs)[i]?) = (l.map fun i => bs.getD i 0).map (row P w kf)
  | [], _ => rfl
  | i :: l, h => by
    have e : bs[i]? = some (bs.getD i 0) := by simp [List.getD, List.getElem?_eq_getElem (h i (.head _))]
    rw [List.filterMap_cons_some (rws_at e), picked l fun j hj => h j (.tail _ hj)]
    rfl
theorem wholly (bs : List Addr) : (List.range bs.length).map (fun i => bs.getD i 0) = bs := by
  apply List.ext_getElem
  · simp
  · intro i h1 h2
    simp [List.getD, List.getElem?_eq_getElem h2]
/-- five are laid anew -/
theorem relay5 (here : s.heap.get? a = some (potO P w kf bs ep t)) (sz : t.place.size = bs.length) (dm : t.dummies = #[]) (five : bs.length = 5) (roomy : 5 ≤ t.mask) (apart : (bs.map kf).Nodup) (each : ∀ b ∈ bs, Tk P w s.heap (kf b) b)
    (led : t.led = true ∨ w.params.followText "set-order" = true) {Q : Unit → Shared → Prop}
    (q : ∀ h' cs ep' t', Heap.SameBut a s.heap h' → Bag P w kf h' a cs ep' t' → cs.Perm bs → Q () { s with heap := h' }) : wpAny (model P w) A (setRelay a (SetTable.grown 5)) Q E s := by
  have hsz : ((rws P w kf bs).map (·.1)).size = bs.length := by rw [Array.size_map, rws_size]
  obtain ⟨t', order, e1, pm, T, m31, hl, _, _⟩ := relaid_ok t (hs := (rws P w kf bs).map (·.1)) (wanted := SetTable.grown 5) (M := 31) (by rw [size_20]) (.inr (.inl rfl)) (by rw [hsz, five]; decide)
  rw [hsz] at pm
  have inn : ∀ i ∈ order.toList, i < bs.length := fun i hi => List.mem_range.mp (pm.mem_iff.mp hi)
  obtain ⟨cs, hcs⟩ : ∃ cs, cs = order.toList.map fun i => bs.getD i 0 := ⟨_, rfl⟩
  have perm : cs.Perm bs := by
    have := pm.map fun i => bs.getD i 0
    rw [wholly] at this
    rw [hcs]
    exact this
  have new : order.filterMap ((rws P w kf bs)[·]?) = rws P w kf cs := by
    apply Array.ext'
    rw [Array.toList_filterMap, picked _ inn, ← hcs]
    rfl
  have tabs : TabOk t' (hshs P w kf cs) := by
    have e : (order.toList.map fun i => ((rws P w kf bs).map (·.1)).getD i 0) = hshs P w kf cs := by
      rw [hcs, hshs, List.map_map]
      refine List.map_congr_left fun i hi => ?_
      have e2 : bs[i]? = some (bs.getD i 0) := by simp [List.getD, List.getElem?_eq_getElem (inn i hi)]
      have e3 : ((rws P w kf bs).map (·.1))[i]? = some (hsh P w (kf (bs.getD i 0))) := by
        rw [Array.getElem?_map, rws_at e2]
        rfl
      simp only [Array.getD_eq_getD_getElem?, e3, Option.getD_some, Function.comp]
    rw [← e]
    exact T
  rw [setRelay_eq]
  refine wpAny_bind (wpAny_setState_of here rfl (fits_of (by rw [rws_size]; exact sz) dm (by rw [rws_size, five]; exact roomy)) ?_)
  dsimp only
  rw [if_neg (by rw [size_20, sizeLine_eq]; decide), e1]
  try refine pass1 ?_
  dsimp only
  rw [new, rws_size, rws_size, perm.length_eq, if_neg (by simp)]
  try refine pass1 ?_
  dsimp only
  have sb : Heap.SameBut a s.heap (s.heap.update a (Obj.putSet (rws P w kf cs) t')) := Heap.SameBut.update ..
  refine wpAny_storeSet_of here rfl (q _ cs (ep + 1) t' sb ⟨stored here cs t', tabs, (perm.map kf).nodup_iff.mpr apart, fun b hb => ?_, by rw [hl]; exact led, ?_⟩ perm) (by rw [rws_size, perm.length_eq, five, sizeLine_eq]; decide)
  · exact tk_same (each b (perm.mem_iff.mp hb)) here sb
  · rw [perm.length_eq, five, m31]
    decide
theorem put_rows (p : Nat) (x : Addr) : SetTable.insertAt (rws P w kf bs) p (row P w kf x) = rws P w kf (bs.take p ++ x :: bs.drop p) := by
  apply Array.ext'
  rw [SetTable.toList_insertAt]
  simp [rws, List.map_take, List.map_drop]
/-- what has become of the pot -/
def After (kf : Addr → List Key) (bs : List Addr) (x : Addr) (cs : List Addr) : Prop := kf x ∈ bs.map kf ∧ cs = bs ∨ kf x ∉ bs.map kf ∧ cs.Perm (x :: bs)
theorem put (B : Bag P w kf s.heap a bs ep t) {x : Addr} (hx : Tk P w s.heap (kf x) x) (hu : A.units < cLine) (few : bs.length < 18) {Q : Bool → Shared → Prop}
    (q : ∀ r h' cs ep' t', Heap.SameBut a s.heap h' → Bag P w kf h' a cs ep' t' → After kf bs x cs → Q r { s with heap := h' }) : wpAny (model P w) A (setAddHashed a (.ref x) (hsh P w (kf x))) Q E s := by
  have rm := B.room
  obtain ⟨K, k1, k2, k3⟩ := B.tab.first (by simp; omega) (hsh P w (kf x))
  have k4 : K < 100000 := by
    have : 10 * SetTable.turns t.mask ≤ 2000 := by
      obtain e | e | e := B.tab.mok <;> rw [e] <;> decide
    omega
  unfold setAddHashed
  refine wpAny_holding ?_
  rw [setAddHashedIn_succ (fuel := 99999)]
  refine wpAny_bind (wpAny_setState_of B.here rfl B.fits ?_)
  dsimp only
  rw [if_neg (by simp [byScan, Value.scannable])]
  unfold setSearch
  refine wpAny_bind (seek B hx hu k1 k2 k3 (fun hm => ?_) (fun hm => ?_) 100000 0 none (Nat.zero_le _) (by omega) rfl fun c' _ _ z => absurd z (Nat.not_lt_zero _))
  · exact wpAny_pure (q false s.heap bs ep t (Heap.SameBut.refl a s.heap) B (.inl ⟨hm, rfl⟩))
  dsimp only
  refine wpAny_bind (wpAny_setState_of B.here rfl B.fits ?_)
  dsimp only
  obtain ⟨p1, _, p3, p4, p5, _, _, _, p9⟩ := B.tab.put k2 k3
  rw [List.length_map] at p9
  rw [show (hshs P w kf bs).take (SetTable.below t.place (way t.mask (hsh P w (kf x)) K)) ++ hsh P w (kf x) :: (hshs P w kf bs).drop (SetTable.below t.place (way t.mask (hsh P w (kf x)) K)) = hshs P w kf (bs.take (SetTable.below t.place (way t.mask (hsh P w (kf x)) K)) ++ x :: bs.drop (SetTable.below t.place (way t.mask (hsh P w (kf x)) K))) by simp [hshs, List.map_take, List.map_drop]] at p3
  generalize SetTable.below t.place (way t.mask (hsh P w (kf x)) K) = p at p1 p3
  generalize t.put (way t.mask (hsh P w (kf x)) K) = tp at p1 p3 p4 p5 p9 ⊢
  obtain ⟨t1, p'⟩ := tp
  dsimp only at p1 p3 p4 p5 p9 ⊢
  subst p1
  have perm : (bs.take p' ++ x :: bs.drop p').Perm (x :: bs) := by
    have : (bs.take p' ++ x :: bs.drop p').Perm (x :: (bs.take p' ++ bs.drop p')) := List.perm_middle
    rwa [List.take_append_drop] at this
  generalize hcs : bs.take p' ++ x :: bs.drop p' = cs at p3 perm
  have hlen : cs.length = bs.length + 1 := perm.length_eq
  have go : ∀ t2 : SetTable, TabOk t2 (hshs P w kf cs) → t2.mask = t.mask → t2.led = t.led → t2.fill = bs.length + 1 →
      wpAny (model P w) A (do
        storeSet a (SetTable.insertAt (rws P w kf bs) p' (row P w kf x)) t2
        if !false && t2.tooFull then setRelay a (SetTable.grown ((rws P w kf bs).size + 1))
        return true) Q E s := fun t2 g1 g2 g3 g4 => by
    rw [put_rows, hcs, rws_size]
    have sb : Heap.SameBut a s.heap (s.heap.update a (Obj.putSet (rws P w kf cs) t2)) := Heap.SameBut.update ..
    have st := stored B.here cs t2
    refine wpAny_bind (wpAny_storeSet_of B.here rfl ?_ (by rw [rws_size, hlen, sizeLine_eq]; omega))
    generalize s.heap.update a (Obj.putSet (rws P w kf cs) t2) = h1 at sb st ⊢
    have each : ∀ b ∈ cs, Tk P w h1 (kf b) b := fun b hb => tk_same (by
      obtain e | hb := List.mem_cons.mp (perm.mem_iff.mp hb)
      · rw [e]; exact hx
      · exact B.each b hb) B.here sb
    have apart : (cs.map kf).Nodup := (perm.map kf).nodup_iff.mpr (List.nodup_cons.mpr ⟨hm, B.apart⟩)
    have led : t2.led = true ∨ w.params.followText "set-order" = true := by rw [g3]; exact B.led
    by_cases hf : (bs.length + 1) * 5 ≥ t2.mask * 3
    · have five : t.mask = 7 ∧ bs.length = 4 := by
        rw [g2] at hf
        obtain e | e | e := B.tab.mok <;> rw [e] at hf rm <;> omega
      have tf : (!false && t2.tooFull) = true := by simp [SetTable.tooFull, g4, hf]
      rw [if_pos tf, five.2]
      refine wpAny_bind (relay5 (s := { s with heap := h1 }) st (by have := g1.sz; simpa using this) g1.dm (by omega) (by rw [g2, five.1]; decide) apart each led fun h' ds ep' t' sb2 B2 pm2 => ?_)
      exact wpAny_pure (q true h' ds ep' t' (sb.trans sb2) B2 (.inr ⟨hm, pm2.trans perm⟩))
    · have tf : ¬ (!false && t2.tooFull) = true := by simp [SetTable.tooFull, g4]; omega
      rw [if_neg tf]
      try refine pass1 ?_
      exact wpAny_pure (q true h1 cs (ep + 1) t2 sb ⟨st, g1, apart, each, led, by omega⟩ (.inr ⟨hm, perm⟩))
  have fin : ∀ r : Bool, wpAny (model P w) A (do
        storeSet a (SetTable.insertAt (rws P w kf bs) p' (row P w kf x)) (if r then t1 else { t1 with plain := false })
        if !false && (if r then t1 else { t1 with plain := false }).tooFull then setRelay a (SetTable.grown ((rws P w kf bs).size + 1))
        return true) Q E s := fun r => by
    cases r
    · exact go { t1 with plain := false } ⟨p3.ris, p3.dm, p3.sz, p3.mok, p3.bd, p3.reach⟩ p4 p5 p9
    · exact go t1 p3 p4 p5 p9
  by_cases pl : t1.plain = true
  · rw [if_pos pl]
    exact wpAny_bind (byHash hx fin)
  · rw [if_neg pl]
    exact wpAny_bind (wpAny_pure (fin true))
end
end LP.Pot
namespace LP.Pot
open PySem PySem.Spec
open PyProof.Rows L2
section
variable {P : Program} {w : World} {A : Around} {E : Value → Shared → Prop} {s : Shared} {kf : Addr → List Key} {a : Addr} {bs : List Addr} {ep : Nat} {t : SetTable}
/-- bs stand for all of xs -/
structure Stands (kf : Addr → List Key) (xs bs : List Addr) : Prop where
  from_ : ∀ b ∈ bs, b ∈ xs
  every : ∀ b ∈ xs, kf b ∈ bs.map kf
  few : bs.length ≤ xs.length
theorem Stands.more {xs cs : List Addr} {x : Addr} (S : Stands kf xs bs) (h : After kf bs x cs) : Stands kf (xs ++ [x]) cs := by
  obtain ⟨h1, rfl⟩ | ⟨_, pm⟩ := h
  · refine ⟨fun b hb => List.mem_append_left _ (S.from_ b hb), fun b hb => ?_, by rw [List.length_append]; exact Nat.le_add_right_of_le S.few⟩
    obtain hb | hb := List.mem_append.mp hb
    · exact S.every b hb
    · cases List.mem_singleton.mp hb
      exact h1
  · refine ⟨fun b hb => ?_, fun b hb => ?_, by rw [pm.length_eq]; simpa using S.few⟩
    · obtain rfl | hb := List.mem_cons.mp (pm.mem_iff.mp hb)
      · exact List.mem_append_right _ (.head _)
      · exact List.mem_append_left _ (S.from_ b hb)
    · refine (pm.map kf).mem_iff.mpr ?_
      obtain hb | hb := List.mem_append.mp hb
      · exact .tail _ (S.every b hb)
      · cases List.mem_singleton.mp hb
        exact .head _
theorem Bag.keep {h h' : Heap} (B : Bag P w kf h a bs ep t) (here : ∀ o, h.get? a = some o → h'.get? a = some o) (up : ∀ b ∈ bs, Tk P w h' (kf b) b) : Bag P w kf h' a bs ep t :=
  ⟨here _ B.here, B.tab, B.apart, up, B.led, B.room⟩
theorem upd_open {I : Addr} {R : Result → Shared → Prop} (h : wpAny (model P w) A.in1 (Builtin.«set.update.loop» ⟨[.ref a, .ref I], []⟩) (fun fin s' => match fin with | .done f => R (.ok f) s' | .again c' => c'.quiet = true ∧ codeAny (model P w) A c' R s') (fun e s' => R (.error e) s') s) :
    codeAny (model P w) A (.builtin "set.update.loop" ⟨[.ref a, .ref I], []⟩) R s := codeAny_builtin F.entry_set_update_loop (by rw [Around.under_plainId F.plain_set_update_loop _]; exact h)
/-- all that a list's iterator still has goes in -/
theorem pour {I l : Addr} {all : List Addr} {R : Result → Shared → Prop} (few : all.length ≤ 18) (hh : A.in1.handled = none) (hu : A.in1.units < cLine) (h0 : Heap) (hl0 : h0.IsList l (all.map Value.ref).toArray)
    (tk0 : ∀ b ∈ all, Tk P w h0 (kf b) b) (na : h0.get? a = none) (nI : h0.get? I = none) (ne : a ≠ I) :
    ∀ (rest done : List Addr) (s : Shared) (bs : List Addr) (ep : Nat) (t : SetTable), all = done ++ rest → s.heap.IsListIter I l done.length → (∀ b o, h0.get? b = some o → s.heap.get? b = some o) → Bag P w kf s.heap a bs ep t → Stands kf done bs →
      (∀ h' tk cs ep' t', (∀ b o, h0.get? b = some o → h'.get? b = some o) → Bag P w kf h' a cs ep' t' → Stands kf all cs → R (.ok (.ret .none)) { s with heap := h', toks := tk }) →
      codeAny (model P w) A (.builtin "set.update.loop" ⟨[.ref a, .ref I], []⟩) R s := by
  have hlt : ∀ {h : Heap}, (∀ b o, h0.get? b = some o → h.get? b = some o) → h.IsList l (all.map Value.ref).toArray := fun k => let ⟨o, ho, r⟩ := hl0; ⟨o, k l o ho, r⟩
  have notI : ∀ b o, h0.get? b = some o → b ≠ I := fun b o e z => by rw [z, nI] at e; cases e
  have nota : ∀ b o, h0.get? b = some o → b ≠ a := fun b o e z => by rw [z, na] at e; cases e
  intro rest
  induction rest with
  | nil =>
    intro done s bs ep t hal hit keep B S fin
    refine upd_open ?_
    rw [List.append_nil] at hal
    change wpAny _ A.in1 (pyNext (.ref I) >>= _) _ _ s
    refine wpAny_bind (wpAny_pyNext_list_end hh hit (hlt keep) (by simp [hal]) fun h' ex => ?_)
    have keep' : ∀ b o, h0.get? b = some o → h'.get? b = some o := fun b o e => ex b o (notI b o e) (keep b o e)
    exact wpAny_pure (fin h' s.toks bs ep t keep' (B.keep (fun o e => ex a o ne e) fun b hb => tk_keep (tk0 b (by rw [hal]; exact S.from_ b hb)) (keep' b)) (by rw [hal]; exact S))
  | cons x rest ih =>
    intro done s bs ep t hal hit keep B S fin
    have hlen := congrArg List.length hal
    rw [List.length_append, List.length_cons] at hlen
    have xm : x ∈ all := by rw [hal]; simp
    refine upd_open ?_
    change wpAny _ A.in1 (pyNext (.ref I) >>= _) _ _ s
    refine wpAny_bind (wpAny_pyNext_list_item (x := .ref x) hit (hlt keep) (by simp [hal]) fun h1 hit1 sb1 => ?_)
    have keep1 : ∀ b o, h0.get? b = some o → h1.get? b = some o := fun b o e => (sb1.2 b (notI b o e)).trans (keep b o e)
    have B1 : Bag P w kf h1 a bs ep t := B.keep (fun o e => (sb1.2 a ne).trans e) fun b hb => tk_keep (tk0 b (by rw [hal]; exact List.mem_append_left _ (S.from_ b hb))) (keep1 b)
    have hx : Tk P w h1 (kf x) x := tk_keep (tk0 x xm) (keep1 x)
    show wpAny _ _ (holding [Value.ref x] (setAdd a (.ref x)) >>= _) _ _ _
    refine wpAny_bind (wpAny_holding (?_ : wpAny _ _ (setAdd a (.ref x)) _ _ _))
    unfold setAdd
    refine wpAny_holding (wpAny_bind (wpAny_pyHash_tuple (s := { s with heap := h1 }) hu hx ?_))
    refine put (s := { s with heap := h1, toks := s.toks + ((kf x).length + 1) }) B1 hx hu (by have := S.few; omega) fun r h2 cs ep2 t2 sb2 B2 af => ?_
    have keep2 : ∀ b o, h0.get? b = some o → h2.get? b = some o := fun b o e => (sb2.2 b (nota b o e)).trans (keep1 b o e)
    refine wpAny_pure ⟨plainId_quiet F.plain_set_update_loop _, ih (done ++ [x]) _ cs ep2 t2 (by rw [hal, List.append_assoc]; rfl) ?_ keep2 B2 (S.more af) fun h' tk ds ep' t' k3 B3 S3 => fin h' tk ds ep' t' k3 B3 S3⟩
    obtain ⟨o, ho, r2⟩ := hit1
    rw [List.length_append]
    exact ⟨o, (sb2.2 I (Ne.symm ne)).trans ho, r2⟩
/-- a set without anything -/
abbrev emp (w : World) : Obj := { cls := .type "set", dict := none, data := .set #[] 0 (.fresh 0 0 (!w.params.followText "set-order")) }
theorem bag_emp {h : Heap} (ho : h.get? a = some (emp w)) : Bag P w kf h a [] 0 (.fresh 0 0 (!w.params.followText "set-order")) where
  here := ho
  tab := ⟨.nil, rfl, rfl, .inl rfl, fun _ z => (nomatch z), fun _ _ _ z => (by simp at z)⟩
  apart := .nil
  each := fun _ z => nomatch z
  led := (Bool.eq_false_or_eq_true (w.params.followText "set-order")).symm.imp (fun e => by show (!_) = true; rw [e]; rfl) id
  room := by show 0 * 5 < 7 * 3; decide
end
end LP.Pot
namespace LP.Pot
open PySem PySem.Spec
open PyProof.Rows L2
section
variable {P : Program} {w : World} {A : Around} {E : Value → Shared → Prop} {s : Shared} {kf : Addr → List Key}
/-- the set's filling, as set.__init__ does it -/
theorem fill {B : Around} {h : Heap} {a l : Addr} {all : List Addr} {tk : Nat} {Q : Unit → Shared → Prop} (few : all.length ≤ 18) (hh : B.handled = none) (hu : B.units + 2 < cLine) (h0 : Heap) (hl0 : h0.IsList l (all.map Value.ref).toArray)
    (tk0 : ∀ b ∈ all, Tk P w h0 (kf b) b) (na : h0.get? a = none) (up : ∀ b o, h0.get? b = some o → h.get? b = some o) (ho : h.get? a = some (emp w))
    (fin : ∀ h' tk cs ep' t', (∀ b o, h0.get? b = some o → h'.get? b = some o) → Bag P w kf h' a cs ep' t' → Stands kf all cs → Q () { s with heap := h', toks := tk }) :
    wpAny (model P w) B (pyIter (.ref l)) (fun v s' => wpAny (model P w) B (do let _ ← runValue (.builtin "set.update.loop" ⟨[.ref a, v], []⟩); pure ()) Q E s') E { s with heap := h, toks := tk } := by
  have hl : h.IsList l (all.map Value.ref).toArray := let ⟨o, e, r⟩ := hl0; ⟨o, up l o e, r⟩
  have lt : ∀ b o, h.get? b = some o → b < h.objs.size := fun b o e => Heap.lt_size e
  refine wpAny_pyIter_list (s := { s with heap := h, toks := tk }) hl (wpAny_bind (wpAny_runValue ?_))
  refine pour (A := B) few hh (by show B.units + 1 < cLine; omega) h0 hl0 tk0 na (I := h.objs.size) ?_ (Nat.ne_of_lt (lt a _ ho)) all [] _ [] 0 _ rfl ⟨_, Heap.get?_push_size _ rfl, rfl, rfl⟩ (fun b o e => Heap.get?_push_of_some _ (up b o e)) (bag_emp (Heap.get?_push_of_some _ ho)) ⟨fun _ z => (nomatch z), fun _ z => (nomatch z), Nat.le_refl _⟩ fun h' tk' cs ep' t' k B' S' => ?_
  · cases e : h0.get? h.objs.size with
    | none => rfl
    | some o => exact absurd (lt _ _ (up _ _ e)) (Nat.lt_irrefl _)
  · exact wpAny_pure (fin h' tk' cs ep' t' k B' S')
theorem brew {l : Addr} {all : List Addr} {Q : Value → Shared → Prop} (hh : A.handled = none) (hu : A.units + 10 < cLine) (few : all.length ≤ 18) (hl : s.heap.IsList l (all.map Value.ref).toArray) (tk : ∀ b ∈ all, Tk P w s.heap (kf b) b)
    (q : ∀ h' tk cs ep t, (∀ b o, s.heap.get? b = some o → h'.get? b = some o) → Bag P w kf h' s.heap.objs.size cs ep t → Stands kf all cs → Q (.ref s.heap.objs.size) { s with heap := h', toks := tk }) : wpAny (model P w) A (PySem.call (.type "set") [.ref l]) Q E s := by
  refine wpAny_call (codeAny_of_tree (wpAny_pure ⟨Code.quiet_builtin _ (by decide +kernel), codeAny_builtin F.entry_type_call ?_⟩))
  have plain := Around.under_plain (A := A) (weight_type_call_type "set" [.ref l] []) rfl
  rw [plain]
  have k1 := F.called_set.notType
  have k2 := F.called_set.canCreate
  have k3 := F.typeCall_set_1 (.ref l)
  have k4 := F.called_set.made
  have k5 := F.called_set.sub
  have ⟨_, _, k6⟩ := F.called_set.mro
  repeat' (first | assumption | wp_step)
  refine codeAny_mono (code_set_led1 (E := E) _ (Q₁ := fun o s₁ => o = .ref s.heap.objs.size ∧ s₁ = { s with heap := s.heap.push (emp w) }) ⟨rfl, rfl⟩) ?_
  rintro (e | f) s₁ hr
  · exact hr
  cases f with
  | ret o =>
    obtain ⟨rfl, rfl⟩ := hr
    have here : (s.heap.push (emp w)).get? s.heap.objs.size = some (emp w) := Heap.get?_push_size _ rfl
    have ty : Shared.TypeIs { s with heap := s.heap.push (emp w) } (.ref s.heap.objs.size) "set" := ⟨_, here, rfl⟩
    have i1 := F.called_set.init.lookup
    have i2 := F.called_set.init.bind (.ref s.heap.objs.size)
    repeat' (first | assumption | wp_step)
    obtain ⟨G, hG⟩ : ∃ G : Shared → Prop, G = fun s₂ => ∃ h' tk cs ep t, s₂ = { s with heap := h', toks := tk } ∧ (∀ b o, s.heap.get? b = some o → h'.get? b = some o) ∧ Bag P w kf h' s.heap.objs.size cs ep t ∧ Stands kf all cs := ⟨_, rfl⟩
    refine codeAny_mono (codeAny_call_builtin (R := wants (fun r s₂ => r = .none ∧ G s₂) E) F.called_set.init.plain F.entry_set_init (check_set_init_1 ty ?_)) ?_
    · have no1 := F.sub_list_set
      have no2 := F.sub_list_frozenset
      have no3 : (Value.type "list" == Value.type "dict") = false := by decide
      have tyl : Shared.TypeIs { s with heap := s.heap.push (emp w) } (.ref l) "list" := (hl.push _).typeIs (s := { s with heap := s.heap.push (emp w) })
      unfold Builtin.«set.__init__» Builtin.Frozenset.updateFrom noKeywords
      generalize hp : pyIter = it
      wp_walk
      subst hp
      refine fill (s := s) (tk := s.toks) few (by simp [hh]) (by show A.units + 1 + 1 + 2 < cLine; omega) s.heap hl tk ?_ (fun b o e => Heap.get?_push_of_some _ e) here fun h' tk' cs ep' t' g1 g2 g3 => ?_
      · cases e : s.heap.get? s.heap.objs.size with
        | none => rfl
        | some o => exact (Nat.lt_irrefl _ (Heap.lt_size e)).elim
      · refine wpAny_pure ⟨rfl, ?_⟩
        rw [hG]
        exact ⟨h', tk', cs, ep', t', rfl, g1, g2, g3⟩
    · rintro (e | f) s₂ hr2
      · exact hr2
      cases f with
      | ret o =>
        obtain ⟨rfl, g⟩ := hr2
        rw [hG] at g
        obtain ⟨h', tk', cs, ep, t, rfl, g1, g2, g3⟩ := g
        repeat' (first | assumption | wp_step)
        exact q h' tk' cs ep t g1 g2 g3
      | _ => exact hr2.elim
  | _ => exact hr.elim
end
end LP.Pot
namespace LP
open PySem PySem.Spec
open PyProof.Rows L2
def kD : Key → D
  | .inl i => .int i
  | .inr x => .str x
def datum (kf : Addr → List Key) (b : Addr) : D := .tup ((kf b).map kD)
theorem kD_inj {x y : Key} (h : kD x = kD y) : x = y := by
  cases x <;> cases y <;> cases h <;> rfl
theorem kDs_inj : ∀ {xs ys : List Key}, xs.map kD = ys.map kD → xs = ys
  | [], [], _ => rfl
  | [], _ :: _, h => nomatch h
  | _ :: _, [], h => nomatch h
  | x :: xs, y :: ys, h => by
    rw [List.map_cons, List.map_cons, List.cons.injEq] at h
    rw [kD_inj h.1, kDs_inj h.2]
/-- what is told of a set by its one object -/
def PotAt (P : Program) (w : World) (a : Addr) (kf : Addr → List Key) (cs : List Addr) (h : Heap) : Prop :=
  ∃ ep t, h.get? a = some (Pot.potO P w kf cs ep t) ∧ TabOk t (Pot.hshs P w kf cs) ∧ (t.led = true ∨ w.params.followText "set-order" = true) ∧ cs.length * 5 < t.mask * 3
def potH (P : Program) (w : World) (a : Addr) (kf : Addr → List Key) (cs : List Addr) : HO := .ext (PotAt P w a kf cs)
theorem pot_new {P : Program} {w : World} {H : Hp} {h : Heap} {a : Addr} {kf : Addr → List Key} {cs : List Addr} (x : PotAt P w a kf cs h) : ObjOk P w H h a (potH P w a kf cs) := by
  refine ⟨x, ?_, fun h1 h2 p k => ?_⟩
  · obtain ⟨ep, t, e, _⟩ := x
    exact ⟨_, e⟩
  · obtain ⟨ep, t, e, r⟩ := p
    exact ⟨ep, t, k _ e, r⟩
theorem keys_of : ∀ ds : List D, ds.all D.txt = true → ∃ ks : List Key, ds = ks.map kD
  | [], _ => ⟨[], rfl⟩
  | d :: ds, h => by
    have h := Bool.and_eq_true_iff.mp (List.all_cons ▸ h)
    obtain ⟨ks, e⟩ := keys_of ds h.2
    cases d with
    | str x => exact ⟨.inr x :: ks, by rw [e]; rfl⟩
    | _ => cases h.1
theorem item_keys {d : D} (h : d.sItem = true) : ∃ ks : List Key, d = .tup (ks.map kD) := by
  cases d with
  | tup ds =>
    cases ds with
    | nil => cases h
    | cons x xs =>
      obtain ⟨ks, e⟩ := keys_of (x :: xs) (by simpa [D.sItem] using h)
      exact ⟨ks, by rw [e]⟩
  | _ => cases h
theorem likes_txt : ∀ xs ys : List D, xs.all D.txt = true → ys.all D.txt = true → D.likes xs ys = true
  | [], ys, _, _ => by cases ys <;> rfl
  | x :: xs, [], _, _ => by simp [D.likes]
  | x :: xs, y :: ys, h1, h2 => by
    rw [List.all_cons, Bool.and_eq_true] at h1 h2
    cases x with
    | str a =>
      cases y with
      | str b =>
        have g1 := h1.1
        have g2 := h2.1
        simp only [D.txt] at g1 g2
        simp [D.likes, D.like, g1, g2, likes_txt xs ys h1.2 h2.2]
      | _ => cases h2.1
    | _ => cases h1.1
theorem item_txt {d : D} (h : d.sItem = true) : ∃ x xs, d = .tup (x :: xs) ∧ (x :: xs).all D.txt = true := by
  cases d with
  | tup ds =>
    cases ds with
    | nil => cases h
    | cons x xs => exact ⟨x, xs, rfl, by simpa [D.sItem] using h⟩
  | _ => cases h
theorem like_item {d e : D} (h1 : d.sItem = true) (h2 : e.sItem = true) : D.like d e = true := by
  obtain ⟨x, xs, rfl, g1⟩ := item_txt h1
  obtain ⟨y, ys, rfl, g2⟩ := item_txt h2
  simp only [D.like]
  exact likes_txt _ _ g1 g2
theorem txt_flat : ∀ ds : List D, ds.all D.txt = true → D.deps ds = 0 ∧ D.pls ds = true ∧ D.nss ds = true
  | [], _ => ⟨rfl, rfl, rfl⟩
  | d :: ds, h => by
    have h := Bool.and_eq_true_iff.mp (List.all_cons ▸ h)
    obtain ⟨h1, h2, h3⟩ := txt_flat ds h.2
    cases d with
    | str x =>
      have := h.1
      simp only [D.txt] at this
      simp [D.deps, D.pls, D.nss, D.dep, D.pl, D.ns, h1, h2, h3, this]
    | _ => cases h.1
theorem srtOk_items {ds : List D} (h : ∀ d ∈ ds, d.sItem = true) (hl : ds.length ≤ 100000) : D.srtOk ds = true := by
  unfold D.srtOk
  rw [Bool.and_eq_true, List.all_eq_true, decide_eq_true_eq]
  refine ⟨fun d hd => ?_, hl⟩
  obtain ⟨x, xs, rfl, g⟩ := item_txt (h d hd)
  obtain ⟨f1, f2, f3⟩ := txt_flat _ g
  have hh : D.hd (.tup (x :: xs)) = true := by
    cases x with
    | str y => rfl
    | _ => simp [D.txt] at g
  simp only [Bool.and_eq_true, decide_eq_true_eq, List.all_eq_true]
  refine ⟨⟨⟨⟨hh, by simp only [D.dep]; omega⟩, by simp only [D.pl]; exact f2⟩, by simp only [D.ns]; exact f3⟩, fun y hy => like_item (h _ hd) (h y hy)⟩
section
variable {X : Cx}
def rSet (X : Cx) : List V → Hp → VK → Prop := fun ws H Q => ∃ (as : List Addr) (F : Hp) (l : Addr) (vs : List V) (xs : List D), ws = [.ref l] ∧ Le F H ∧ SqL X.K H l vs ∧ RpL X.K as F vs xs ∧ (∀ d ∈ xs, d.sItem = true) ∧ xs.length ≤ 18 ∧
  ∀ a kf cs, H a = none → (∀ b ∈ cs, Rp X.K as F (.ref b) (datum kf b)) → (cs.map (datum kf)).Nodup → (∀ d, d ∈ cs.map (datum kf) ↔ d ∈ xs) → Q (.ref a) (upd H a (potH X.prog X.w a kf cs))
theorem rpl_keys {K : PySem.W.Frag} {as : List Addr} {F : Hp} : ∀ {ws : List V} (ks : List Key), RpL K as F ws (ks.map kD) → ws = ks.map kV
  | _, [], h => by cases h; rfl
  | _, k :: ks, h => by
    cases h with
    | cons h1 h2 =>
      rw [rpl_keys ks h2]
      cases k <;> cases h1 <;> rfl
theorem refs_all {K : PySem.W.Frag} {as : List Addr} {F : Hp} : ∀ {vs : List V} (xs : List D), RpL K as F vs xs → (∀ d ∈ xs, d.sItem = true) → ∃ all : List Addr, vs = all.map V.ref
  | _, [], h, _ => by cases h; exact ⟨[], rfl⟩
  | _, d :: xs, h, hs => by
    cases h with
    | cons h1 h2 =>
      obtain ⟨all, e⟩ := refs_all xs h2 fun z hz => hs z (.tail _ hz)
      obtain ⟨x, ds, rfl, _⟩ := item_txt (hs d (.head _))
      cases h1 with
      | tup g1 g2 => exact ⟨_ :: all, by rw [e]; rfl⟩
theorem vals_refs : ∀ {all : List Addr} {us : List Value}, Vals (all.map V.ref) us → us = all.map Value.ref
  | [], _, .nil => rfl
  | _ :: _, _, .cons h t => by
    cases h
    rw [vals_refs t]
    rfl
theorem tk_of {pins : List (Addr × Obj)} {σ : L2.St} {H F : Hp} {s : Shared} (I : Inv X pins σ H s) {as : List Addr} (le : Le F H) {ks : List Key} {b : Addr} (h : Rp X.K as F (.ref b) (.tup (ks.map kD))) : Pot.Tk X.prog X.w s.heap ks b := by
  cases h with
  | tup h1 h2 =>
    rw [rpl_keys ks h2] at h1
    obtain ⟨its, rv, ⟨o, ho, hc, n, hd⟩, _⟩ := I.tuple (sqT_le le h1)
    exact ⟨o, its.toArray, n, ho, hc, hd, by simpa using items_are rv⟩
theorem call_set (hc : X.calm = true) (hu : X.A.units + 200 < cLine) : CallR X (.type "set") (rSet X) := by
  intro pins s σ H ws us Q I r h
  obtain ⟨as, F, l, vs, xs, rfl, le, hs, hF, hit, few, q⟩ := h
  obtain ⟨u, eu, ru⟩ := vals1 r; subst eu
  cases show u = .ref l from ru
  obtain ⟨all, rfl⟩ := refs_all xs hF hit
  obtain ⟨its, rv, pl, _⟩ := I.list hs
  have ei := vals_refs rv
  subst ei
  have hlen : all.length = xs.length := by
    have := hF.length
    simpa using this
  -- the signs of each
  have dep : ∀ (i j : Nat) b, all[i]? = some b → all[j]? = some b → xs[i]? = xs[j]? := fun i j b hi hj => by
    obtain ⟨d, e1, e2⟩ := hF.getV (i := i) (v := .ref b) (by simp [hi])
    obtain ⟨e, f1, f2⟩ := hF.getV (i := j) (v := .ref b) (by simp [hj])
    rw [e1, f1, rp_inj I d e _ (like_item (hit d (List.mem_of_getElem? e1)) (hit e (List.mem_of_getElem? f1))) (e2.up (Pre.refl _) le) (f2.up (Pre.refl _) le)]
  obtain ⟨kf, hkf⟩ : ∃ kf : Addr → List Key, ∀ (i : Nat) b, all[i]? = some b → xs[i]? = some (datum kf b) := by
    classical
    refine ⟨fun b => if h : ∃ ks : List Key, ∃ i : Nat, all[i]? = some b ∧ xs[i]? = some (.tup (ks.map kD)) then Classical.choose h else [], fun i b hi => ?_⟩
    have ex : ∃ ks : List Key, ∃ i : Nat, all[i]? = some b ∧ xs[i]? = some (.tup (ks.map kD)) := by
      obtain ⟨d, e1, _⟩ := hF.getV (i := i) (v := .ref b) (by simp [hi])
      obtain ⟨ks, rfl⟩ := item_keys (hit d (List.mem_of_getElem? e1))
      exact ⟨ks, i, hi, e1⟩
    obtain ⟨j, j1, j2⟩ := Classical.choose_spec ex
    rw [dep i j b hi j1, j2]
    simp only [datum, dif_pos ex]
  have exs : xs = all.map (datum kf) := by
    apply List.ext_getElem?
    intro i
    rw [List.getElem?_map]
    cases hi : all[i]? with
    | none => rw [List.getElem?_eq_none_iff.mpr (by rw [← hlen]; exact List.getElem?_eq_none_iff.mp hi)]; rfl
    | some b => rw [hkf i b hi]; rfl
  have rp : ∀ b ∈ all, Rp X.K as F (.ref b) (datum kf b) := fun b hb => by
    obtain ⟨i, hi⟩ := List.getElem?_of_mem hb
    obtain ⟨d, e1, e2⟩ := hF.getV (i := i) (v := .ref b) (by simp [hi])
    rw [hkf i b hi] at e1
    cases e1
    exact e2
  refine Pot.brew (kf := kf) (all := all) (I.ok.hd hc) (by omega) (by omega) pl.isList (fun b hb => tk_of I le (rp b hb)) fun h' tk cs ep t keep B S => ?_
  refine ⟨.ref s.heap.objs.size, upd H s.heap.objs.size (potH X.prog X.w s.heap.objs.size kf cs), I.laid (t' := tk) keep (Nat.le_refl _) (pot_new ⟨ep, t, B.here, B.tab, B.led, B.room⟩), rfl, ?_⟩
  refine q _ kf cs (I.hok.fresh (Nat.le_refl _)) (fun b hb => rp b (S.from_ b hb)) ?_ fun d => ?_
  · have e : cs.map (datum kf) = (cs.map kf).map fun ks => D.tup (ks.map kD) := by rw [List.map_map]; rfl
    rw [e]
    refine List.pairwise_map.mpr (B.apart.imp fun {x y} hne z => hne (kDs_inj ?_))
    injection z
  · rw [exs]
    constructor
    · intro hd
      obtain ⟨b, hb, e⟩ := List.mem_map.mp hd
      exact List.mem_map.mpr ⟨b, S.from_ b hb, e⟩
    · intro hd
      obtain ⟨b, hb, e⟩ := List.mem_map.mp hd
      obtain ⟨c, hc2, e2⟩ := List.mem_map.mp (S.every b hb)
      exact List.mem_map.mpr ⟨c, hc2, by rw [← e, datum, datum, e2]⟩
end
end LP
namespace LP
open PySem PySem.Spec
open PyProof.Rows L2
section
variable {X : Cx}
/-- sorted(set) -/
def rSortP (X : Cx) : List V → Hp → VK → Prop := fun ws H Q => ∃ (as : List Addr) (F : Hp) (a : Addr) (kf : Addr → List Key) (cs : List Addr), ws = [.ref a] ∧ Le F H ∧ H a = some (potH X.prog X.w a kf cs) ∧ (∀ b ∈ cs, Rp X.K as F (.ref b) (datum kf b)) ∧
  (∀ b ∈ cs, (datum kf b).sItem = true) ∧ ∀ p us, H p = none → RpL X.K as F us (D.srt (cs.map (datum kf))) → Q (.ref p) (upd H p (.lst us))
def adr : Value → Addr
  | .ref b => b
  | _ => 0
/-- an order of references is an order of addresses -/
theorem order_of {vs : List Value} {cs : List Addr} (pm : vs.Perm (cs.map Value.ref)) : vs = (vs.map adr).map Value.ref ∧ (vs.map adr).Perm cs := by
  constructor
  · have key : ∀ l : List Value, (∀ v ∈ l, v ∈ vs) → l = (l.map adr).map Value.ref := fun l => by
      induction l with
      | nil => exact fun _ => rfl
      | cons v l ih =>
        intro h
        obtain ⟨b, _, rfl⟩ := List.mem_map.mp (pm.mem_iff.mp (h v (.head _)))
        rw [List.map_cons, List.map_cons, ← ih fun u hu => h u (.tail _ hu)]
        rfl
    exact key vs fun _ h => h
  · have := pm.map adr
    rwa [List.map_map, show (adr ∘ Value.ref) = id from rfl, List.map_id] at this
theorem inv_at {pins : List (Addr × Obj)} {σ : L2.St} {H : Hp} {s s1 : Shared} {h' : Heap} (I : Inv X pins σ H s) (k : ∀ b o, s.heap.get? b = some o → h'.get? b = some o) (g : s1.gens = s.gens) (o : s1.os = s.os) : Inv X pins σ H { s1 with heap := h' } := by
  have J : Inv X pins σ H { s with heap := h', gens := s1.gens, drawn := s1.drawn, toks := s1.toks } := I.call (ch := []) (Un.kept k) (I.hok.kept k) (by rw [g]; exact I.bare) fun _ z => nomatch z
  cases s1
  cases s
  cases o
  exact J
theorem inv_new {pins : List (Addr × Obj)} {σ : L2.St} {H : Hp} {s s1 : Shared} {p : Addr} {u : HO} (I : Inv X pins σ H s) (k : ∀ b o, s.heap.get? b = some o → s1.heap.get? b = some o) (hp : s.heap.objs.size ≤ p) (new : ObjOk X.prog X.w (upd H p u) s1.heap p u)
    (g : s1.gens = s.gens) (o : s1.os = s.os) : Inv X pins σ (upd H p u) s1 := by
  have J : Inv X pins σ (upd H p u) { s with heap := s1.heap, gens := s1.gens, drawn := s1.drawn, toks := s1.toks } := I.call (ch := []) (Un.laid k hp (I.hok.fresh hp)) (I.hok.laid k hp new) (by rw [g]; exact I.bare) fun _ z => nomatch z
  cases s1
  cases s
  cases o
  exact J
theorem call_sortP (hc : X.calm = true) (hu : X.A.units + 200 < cLine) : CallR X (.builtin "sorted") (rSortP X) := by
  intro pins s σ H ws us Q I r h
  obtain ⟨as, F, a, kf, cs, rfl, le, ha, rp, hit, q⟩ := h
  obtain ⟨u, eu, ru⟩ := vals1 r; subst eu
  cases show u = .ref a from ru
  obtain ⟨ep, t, here, tab, led, room⟩ : PotAt X.prog X.w a kf cs s.heap := (I.hok a _ ha).1
  have psz : t.place.size = cs.length := by
    have := tab.sz
    simpa using this
  have few : cs.length < 80 := by
    obtain e | e | e := tab.mok <;> rw [e] at room <;> omega
  apply Calls.call_function_entry kind_sorted plain_sorted entry_sorted (args_sorted1 _)
  rw [Builtin.«sorted»]
  apply wpAny_bind (m := checkCount "sorted" 1 1 _); apply wpAny_pure
  refine wpAny_bind (collect_set (A := X.A.in1) (I.ok.hd hc) ⟨_, here, rfl, rfl⟩ (Pot.fits_of (by rw [Pot.rws_size]; exact psz) tab.dm (by rw [Pot.rws_size]; omega)) (by rw [Pot.rws_size, scanBound]; omega) tab.ris led.symm fun s1 vs k1 hz g1 o1 pm => ?_)
  rw [show (Pot.rws X.prog X.w kf cs).toList.map (·.2) = cs.map Value.ref by simp [Pot.rws, Pot.row]] at pm
  obtain ⟨ev, pm2⟩ := order_of pm
  obtain ⟨ds, hds⟩ : ∃ ds, ds = vs.map adr := ⟨_, rfl⟩
  rw [← hds] at ev pm2
  subst ev
  have hF : RpL X.K as F (ds.map V.ref) (ds.map (datum kf)) := by
    have key : ∀ l : List Addr, (∀ b ∈ l, b ∈ cs) → RpL X.K as F (l.map V.ref) (l.map (datum kf)) := fun l => by
      induction l with
      | nil => exact fun _ => .nil
      | cons b l ih => exact fun h => .cons (rp b (h b (.head _))) (ih fun c hc => h c (.tail _ hc))
    exact key ds fun b hb => pm2.mem_iff.mp hb
  have rv : Vals (ds.map V.ref) (ds.map Value.ref) := by
    clear hds pm hF pm2
    induction ds with
    | nil => exact .nil
    | cons b l ih => exact .cons rfl ih
  have hit2 : ∀ d ∈ ds.map (datum kf), d.sItem = true := fun d hd => by
    have ⟨b, hb, eb⟩ := List.mem_map.mp hd; subst eb
    exact hit b (pm2.mem_iff.mp hb)
  have ok : D.srtOk (ds.map (datum kf)) = true := srtOk_items hit2 (by rw [List.length_map, pm2.length_eq]; omega)
  have same : D.srt (ds.map (datum kf)) = D.srt (cs.map (datum kf)) := by
    have al := like_of_ok ok
    refine srt_uniq al (srt_rising _ (al.perm (pm2.map _).symm)) ((srt_perm _).trans (pm2.map _).symm)
  obtain ⟨ltv, O, c1, c2⟩ := sortCore hu I le hF rv ok
  have dl : (ds.map Value.ref).length < 80 := by rw [List.length_map, pm2.length_eq]; exact few
  refine wpAny_bind (wpAny_newList ?_ (Nat.le_trans (Nat.le_of_lt dl) (by rw [sizeLine_eq]; decide)))
  have hoL : (s1.heap.push (seqObj "list" (ds.map Value.ref).toArray 0)).get? s1.heap.objs.size = some (seqObj "list" (ds.map Value.ref).toArray 0) := Heap.get?_push_size _ rfl
  refine wpAny_bind (wpAny_holding (wpAny_call_entry slot_list_sort ⟨_, hoL, rfl⟩ entry_list_sort (SrtO.list_sort_ord (s := { s1 with heap := s1.heap.push (seqObj "list" (ds.map Value.ref).toArray 0) }) O hoL (by rw [sizeLine_eq]; omega) (fun h2 => c1 h2 _ _ fun h' keep => ?_) fun out hs hb => ⟨_, rfl, ?_⟩) (args_list_sort _)))
  · refine inv_at (s1 := s1) I (fun b o e => ?_) g1 o1
    have e1 := k1 b o e
    exact keep b o (Nat.ne_of_lt (Heap.lt_size e1)) (Heap.get?_push_of_some _ e1)
  · obtain ⟨us, vm, rm⟩ := c2 out hs hb
    rw [same] at rm
    obtain ⟨c, hcc⟩ := sortedHeap_at (vs := ds.map Value.ref) (out := out.toArray) hoL
    have hn : H s1.heap.objs.size = none := I.hok.fresh hz
    have ul : us.length ≤ sizeLine := by
      rw [vm.length, hb.perm.length_eq, sizeLine_eq]
      omega
    refine wpAny_pure ⟨_, rfl, .ref s1.heap.objs.size, upd H s1.heap.objs.size (.lst us), inv_new I (fun b o e => ?_) hz ⟨ul, out, c, vm, hcc⟩ g1 o1, rfl, q _ us hn rm⟩
    have e1 := k1 b o e
    have hlt := Heap.lt_size e1
    show (sortedHeap _ _ _ _).get? b = some o
    have old := sortedHeap_old (h := s1.heap.push (seqObj "list" (ds.map Value.ref).toArray 0)) (vs := ds.map Value.ref) (out := out.toArray) (Nat.ne_of_lt hlt) (by rw [size_push']; exact Nat.lt_add_right 1 hlt)
    rw [old, Heap.get?_push_of_some _ e1]
end
end LP
namespace LP
open PySem
/-- dedup keeps each of them once -/
theorem dedup_mem : ∀ xs : List D, AllLike xs → ∀ d, d ∈ dedup xs ↔ d ∈ xs
  | [], _, d => Iff.rfl
  | x :: xs, al, d => by
    have ih := dedup_mem xs (fun a ha b hb => al a (.tail _ ha) b (.tail _ hb)) d
    rw [dedup, List.mem_cons, List.mem_cons, List.mem_filter, ih]
    constructor
    · exact fun h => h.imp id And.left
    · rintro (e | h)
      · exact .inl e
      · by_cases e : d = x
        · exact .inl e
        · refine .inr ⟨h, ?_⟩
          have := eq_iff x d (al x (.head _) d (.tail _ h))
          rw [Bool.not_eq_true', Bool.eq_false_iff]
          exact fun z => e (this.mp z).symm
theorem dedup_nodup : ∀ xs : List D, AllLike xs → (dedup xs).Nodup
  | [], _ => .nil
  | x :: xs, al => by
    have al' : AllLike xs := fun a ha b hb => al a (.tail _ ha) b (.tail _ hb)
    rw [dedup, List.nodup_cons]
    refine ⟨fun h => ?_, (dedup_nodup xs al').filter _⟩
    have h2 := (List.mem_filter.mp h).2
    rw [(eq_iff x x (al x (.head _) x (.head _))).mpr rfl] at h2
    cases h2
/-- another arrangement of the same ones, each once, is sorted alike -/
theorem srt_dedup {xs ds : List D} (hit : ∀ d ∈ xs, d.sItem = true) (nd : ds.Nodup) (mem : ∀ d, d ∈ ds ↔ d ∈ xs) : D.srt ds = D.srt (dedup xs) := by
  have al : AllLike xs := fun a ha b hb => like_item (hit a ha) (hit b hb)
  have ad : AllLike ds := fun a ha b hb => al a ((mem a).mp ha) b ((mem b).mp hb)
  have pm : ds.Perm (dedup xs) := (List.perm_ext_iff_of_nodup nd (dedup_nodup xs al)).mpr fun d => by rw [mem, dedup_mem xs al]
  exact srt_uniq ad (srt_rising _ (ad.perm pm.symm)) ((srt_perm _).trans pm.symm)
end LP
namespace LP
open PySem PySem.Spec
open PyProof.Rows L2
/-! ### min(.., default=None) -/
theorem read_ints {h : Heap} : ∀ {ns : List Int} {its : List Value}, Vals (ns.map V.int) its → ReadsAll h its (ns.map .int) []
  | [], _, .nil => .nil
  | n :: ns, _, .cons r t => by
    obtain ⟨k, rfl⟩ := r
    exact .cons (as := []) (.int n k) (read_ints t)
theorem fold_minI : ∀ (ns : List Int) (m : Int), ns.foldl min m = minI m ns
  | [], _ => rfl
  | n :: ns, m => by
    rw [List.foldl_cons, minI, fold_minI ns]
    congr 1
    split <;> omega
def rMinD (K : PySem.W.Frag) : List V → List V → Hp → VK → Prop := fun vs zs H Q => ∃ (a : Addr) (ns : List Int), vs = [.ref a] ∧ zs = [.non] ∧ SqL K H a (ns.map V.int) ∧ (ns = [] → Q .non H) ∧ ∀ m t, ns = m :: t → Q (.int (minI m t)) H
theorem deps_ints : ∀ ns : List Int, PyData.depthAll (ns.map .int) = 0
  | [] => rfl
  | n :: ns => by
    have := deps_ints ns
    simp [PyData.depthAll, PyData.depth, this]
theorem call_minD {X : Cx} (hc : X.calm = true) (hu : X.A.units + 200 < cLine) : CallRK X (.builtin "min") [Str.ofString "default"] (rMinD X.K) := by
  intro pins s σ H vs zs us ws Q I r r2 h
  obtain ⟨a, ns, rfl, rfl, hs, q0, q1⟩ := h
  obtain ⟨u, eu, ru⟩ := vals1 r; subst eu
  obtain ⟨d, ed, rd⟩ := vals1 r2; subst ed
  cases show u = .ref a from ru
  cases show d = .none from rd
  obtain ⟨its, rv, pl, _⟩ := I.list hs
  have hr : ReadsAll s.heap its.toArray.toList (ns.map .int) [] := by simpa using read_ints rv
  refine PySem.W.min_list_default (I.ok.hd hc) pl.isList hr ⟨fun x hx y hy => ?_, fun x hx => ?_⟩ (by rw [deps_ints]; omega) (fun e h' tk k => ?_) fun y ys i v h' tk bs e hv rd k => ?_
  · obtain ⟨m, _, rfl⟩ := List.mem_map.mp hx
    obtain ⟨n, _, rfl⟩ := List.mem_map.mp hy
    rfl
  · obtain ⟨m, _, rfl⟩ := List.mem_map.mp hx
    exact fun z => nomatch z
  · refine ⟨.non, H, I.kept k, rfl, q0 ?_⟩
    simpa using e
  · cases ns with
    | nil => cases e
    | cons m t =>
      rw [List.map_cons, List.cons.injEq] at e
      obtain ⟨rfl, rfl⟩ := e
      rw [PySem.W.minD_ints, fold_minI] at rd
      cases rd with
      | int _ t' => exact ⟨.int _, H, I.kept k, ⟨t', rfl⟩, q1 m t rfl⟩
end LP
namespace LP
open PySem PySem.Spec
open PyProof.Rows L2
/-! ### items, slices, built-ins, by values -/
section
variable {K : PySem.W.Frag} {T : List (Addr × Str)} {as : List Addr} {S : Sto} {F H : Hp} {Q : VK} {bx by_ : Bool} {vx vy : V} {x y d : D}
theorem ixAt_eq (n : Nat) (i : Int) : ixAt n i = ixN n i := rfl
theorem getD_rp {vs : List V} {xs : List D} {i : Int} (h : RpL K as F vs xs) (e : getD xs i = some d) : ∃ v, atI vs i = some v ∧ Rp K as F v d := by
  unfold getD at e
  unfold atI
  rw [h.length, ← ixAt_eq]
  cases q : ixAt xs.length i with
  | none => simp [q] at e
  | some j =>
    rw [q] at e
    exact h.get (i := j) e
theorem getD_map {α β : Type} (f : α → β) (xs : List α) (i : Int) : getD (xs.map f) i = (getD xs i).map f := by
  unfold getD
  rw [List.length_map]
  cases ixAt xs.length i with
  | none => rfl
  | some j => show (xs.map f)[j]? = (xs[j]?).map f; rw [List.getElem?_map]
theorem ix_ok (ok : Ok K T as S F H) (hx : Vw bx K as F H vx x) (hy : Vw by_ K as F H vy y) (e : ixD x y S = some d) (q : ∀ v, Rp K as F v d → Q v H) : rIx K vx vy H Q := by
  unfold ixD at e
  split at e
  · rename_i xs i
    cases hy.nolist (fun _ z => nomatch z)
    have hx' := hx.nolist (fun _ z => nomatch z)
    cases hx' with
    | tup h1 h2 =>
      obtain ⟨v, e1, e2⟩ := getD_rp h2 e
      exact .inr (.inl ⟨_, _, i, v, rfl, rfl, sqT_le ok.le h1, e1, q v e2⟩)
  · rename_i xs i
    cases hy.nolist (fun _ z => nomatch z)
    obtain ⟨p, vs, rfl, h1, h2⟩ := hx.list ok.le
    obtain ⟨v, e1, e2⟩ := getD_rp h2 e
    exact .inl ⟨_, _, i, v, rfl, rfl, SqL.of h1, e1, q v e2⟩
  · rename_i ns i
    cases hy.nolist (fun _ z => nomatch z)
    have hx' := hx.nolist (fun _ z => nomatch z)
    cases hx' with
    | scr h1 =>
      cases e2 : getD ns i with
      | none => rw [e2] at e; cases e
      | some n =>
        rw [e2] at e
        cases e
        have e3 : atI (ns.map V.int) i = some (.int n) := by
          have := getD_map V.int ns i
          rw [e2] at this
          exact this
        exact .inl ⟨_, _, i, _, rfl, rfl, sqL_le ok.le h1, e3, q _ (.int n)⟩
  · rename_i z i
    cases hy.nolist (fun _ z => nomatch z)
    cases hx.nolist (fun _ z => nomatch z)
    split at e
    · rename_i hl
      cases e2 : getD z.cps.toList i with
      | none => rw [e2] at e; cases e
      | some c =>
        rw [e2] at e
        cases e
        exact .inr (.inr ⟨z, i, c, rfl, rfl, Nat.le_trans hl lim_line, e2, q _ (.str _)⟩)
    · cases e
  · rename_i k i
    cases hy.nolist (fun _ z => nomatch z)
    have hx' := hx.nolist (fun _ z => nomatch z)
    cases hx' with
    | obj h1 =>
      unfold cellAt at e
      cases e2 : S[k]? with
      | none => rw [e2] at e; cases e
      | some so =>
        rw [e2] at e
        cases so with
        | cell xs =>
          obtain ⟨vs, g1, g2⟩ := ok.cel k _ _ h1 e2
          obtain ⟨v, e1, e3⟩ := getD_rp g2 (show getD xs i = some d from e)
          exact .inl ⟨_, _, i, v, rfl, rfl, SqL.of g1, e1, q v e3⟩
        | _ => cases e
  · cases e
theorem cut_rp {vs : List V} {xs : List D} {lo hi : Option Int} (h : RpL K as F vs xs) : RpL K as F (cutV vs lo hi) (cut xs lo hi) := by
  unfold cutV cut
  rw [h.length]
  exact (h.drop _).take _
/-- what a slice asks -/
def rSl (K : PySem.W.Frag) : V → Option Int → Option Int → Hp → VK → Prop := fun x lo hi H Q => rSlL K x lo hi H Q ∨ rSlA K x lo hi H Q ∨ rSlS x lo hi H Q
theorem sl_any {X : Cx} : SlR X (rSl X.K) := sl_list.or (sl_tupA.or sl_str)
theorem cut_all {vs : List V} {lo hi : Option Int} (h : HT.sIx vs.length 0 lo = 0 ∧ HT.sIx vs.length vs.length hi = vs.length) : cutV vs lo hi = vs := by
  unfold cutV
  rw [h.1, h.2]
  simp
theorem sl_ok {lo hi : Option Int} (ok : Ok K T as S F H) (hx : Vw bx K as F H vx x) (e : slD x lo hi = some d) (q : ∀ G J v, Stp as F H as G J → Ok K T as S G J → Rp K as G v d → Q v J) : rSl K vx lo hi H Q := by
  unfold slD at e
  split at e
  · rename_i xs
    cases e
    have hx' := hx.nolist (fun _ z => nomatch z)
    cases hx' with
    | tup h1 h2 =>
      refine .inr (.inl ⟨_, _, rfl, sqT_le ok.le h1, fun hw => ?_, fun _ p hp => ?_⟩)
      · have e := cut_rp (lo := lo) (hi := hi) h2
        rw [cut_all hw] at e
        exact q F H _ (Stp.refl _ _ _) ok (.tup h1 e)
      · obtain ⟨ok1, st1⟩ := ok.frozen (p := p) (o := .tup (cutV _ lo hi)) hp (fun _ z => nomatch z)
        exact q _ _ _ st1 ok1 (.tup (SqT.of upd_same) ((cut_rp h2).stp st1))
  · rename_i xs
    cases e
    obtain ⟨p, vs, rfl, h1, h2⟩ := hx.list ok.le
    refine .inl ⟨p, vs, rfl, SqL.of h1, fun p' hp => ?_⟩
    obtain ⟨ok1, st1⟩ := ok.frozen (p := p') (o := .lst (cutV vs lo hi)) hp (fun _ z => nomatch z)
    exact q _ _ _ st1 ok1 (.lst upd_same ((cut_rp h2).stp st1))
  · rename_i z
    split at e <;> cases e
    rename_i hl
    cases hx.nolist (fun _ z => nomatch z)
    exact .inr (.inr ⟨z, rfl, Nat.le_trans hl lim_line, q F H _ (Stp.refl _ _ _) ok (.str _)⟩)
  · cases e
end
/-! ### built-in functions -/
def bltVal : Blt → Value
  | .len => .builtin "len" | .sorted => .builtin "sorted" | .sum => .builtin "sum" | .all => .builtin "all" | .any => .builtin "any"
  | .tuple => .type "tuple" | .list => .type "list" | .max => .builtin "max" | .min => .builtin "min" | .int => .type "int" | .sset => .type "set" | .str => .type "str"
def bltName : Blt → Str
  | .len => "len" | .sorted => "sorted" | .sum => "sum" | .all => "all" | .any => "any"
  | .tuple => "tuple" | .list => "list" | .max => "max" | .min => "min" | .int => "int" | .sset => "set" | .str => "str"
def rBlt (K : PySem.W.Frag) : Blt → List V → Hp → VK → Prop
  | .len => fun xs H Q => (∃ p ys, xs = [.ref p] ∧ (SqL K H p ys ∨ SqT K H p ys) ∧ Q (.int ys.length) H) ∨ ∃ z, xs = [.str z] ∧ z.length ≤ sizeLine ∧ Q (.int z.length) H
  | .sorted => rSortD K
  | .sum => rSum K
  | .all => rAll K
  | .any => rAny K
  | .tuple => fun xs H Q => ∃ p ys, xs = [.ref p] ∧ ((SqL K H p ys ∧ ∀ l, H l = none → Q (.ref l) (upd H l (.tup ys))) ∨ (SqT K H p ys ∧ Q (.ref p) H))
  | .list => fun xs H Q => ∃ p ys, xs = [.ref p] ∧ (SqL K H p ys ∨ SqT K H p ys) ∧ ∀ l, H l = none → Q (.ref l) (upd H l (.lst ys))
  | .max => fun xs H Q => (∃ i j, xs = [.int i, .int j] ∧ Q (.int (if j > i then j else i)) H) ∨ rMax K xs H Q
  | .min => fun xs H Q => (∃ i j, xs = [.int i, .int j] ∧ Q (.int (if j < i then j else i)) H) ∨ rMin K xs H Q
  | .int => fun xs H Q => (∃ i, xs = [.int i] ∧ Q (.int i) H) ∨ ∃ k, xs = [.bl k] ∧ Q (.int (if k then 1 else 0)) H
  | _ => fun _ _ _ => False
theorem call_blt {X : Cx} (hu : X.A.units + 200 < cLine) (hc : X.calm = true) (f : Blt) : CallR X (bltVal f) (rBlt X.K f) := by
  cases f with
  | len => exact call_len_seq.or call_len_str
  | sorted => exact cr_sortD hu
  | sum => exact cr_sum hc
  | all => exact cr_all hc
  | any => exact cr_any hc
  | tuple => exact call_tuple_of
  | list => exact call_list_of
  | max => exact (call_max2 hc).or (cr_max hc)
  | min => exact (call_min2 hc).or (cr_min hc)
  | int => exact call_int1
  | sset => exact fun _ _ _ _ _ _ _ _ _ h => h.elim
  | str => exact fun _ _ _ _ _ _ _ _ _ h => h.elim
theorem maxI_spec : ∀ (ns : List Int) (m : Int), maxI m ns ∈ m :: ns ∧ ∀ y ∈ m :: ns, y ≤ maxI m ns
  | [], m => ⟨List.mem_cons_self, fun y hy => by simp at hy; subst hy; exact Int.le_refl _⟩
  | n :: ns, m => by
    obtain ⟨h1, h2⟩ := maxI_spec ns (if n > m then n else m)
    unfold maxI
    refine ⟨?_, fun y hy => ?_⟩
    · rcases List.mem_cons.mp h1 with e | h
      · rw [e]
        split
        · exact List.mem_cons_of_mem _ List.mem_cons_self
        · exact List.mem_cons_self
      · exact List.mem_cons_of_mem _ (List.mem_cons_of_mem _ h)
    · have hm := h2 _ List.mem_cons_self
      obtain e | hy := List.mem_cons.mp hy
      · subst e
        refine Int.le_trans ?_ hm
        split <;> omega
      · rcases List.mem_cons.mp hy with e | hy
        · subst e
          refine Int.le_trans ?_ hm
          split <;> omega
        · exact h2 y (List.mem_cons_of_mem _ hy)
theorem minI_spec : ∀ (ns : List Int) (m : Int), minI m ns ∈ m :: ns ∧ ∀ y ∈ m :: ns, minI m ns ≤ y
  | [], m => ⟨List.mem_cons_self, fun y hy => by simp at hy; subst hy; exact Int.le_refl _⟩
  | n :: ns, m => by
    obtain ⟨h1, h2⟩ := minI_spec ns (if n < m then n else m)
    unfold minI
    refine ⟨?_, fun y hy => ?_⟩
    · rcases List.mem_cons.mp h1 with e | h
      · rw [e]
        split
        · exact List.mem_cons_of_mem _ List.mem_cons_self
        · exact List.mem_cons_self
      · exact List.mem_cons_of_mem _ (List.mem_cons_of_mem _ h)
    · have hm := h2 _ List.mem_cons_self
      obtain e | hy := List.mem_cons.mp hy
      · subst e
        refine Int.le_trans hm ?_
        split <;> omega
      · rcases List.mem_cons.mp hy with e | hy
        · subst e
          refine Int.le_trans hm ?_
          split <;> omega
        · exact h2 y (List.mem_cons_of_mem _ hy)
section
variable {K : PySem.W.Frag} {T : List (Addr × Str)} {as : List Addr} {S : Sto} {F H : Hp} {Q : VK} {d : D}
/-- each argument with its datum -/
inductive VwS (K : PySem.W.Frag) (as : List Addr) (F H : Hp) : List V → List D → Prop
  | nil : VwS K as F H [] []
  | cons {b : Bool} {v : V} {d : D} {vs : List V} {ds : List D} : Vw b K as F H v d → VwS K as F H vs ds → VwS K as F H (v :: vs) (d :: ds)
theorem VwA.s : ∀ (x : Ex) (vs : List V) (ds : List D), VwA K as F H x vs ds → VwS K as F H vs ds
  | .nil, [], [], _ => .nil
  | .cons _ r, _ :: vs, _ :: ds, h => .cons h.1 (VwA.s r vs ds h.2)
theorem VwS.one {vs : List V} (h : VwS K as F H vs [d]) : ∃ b v, vs = [v] ∧ Vw b K as F H v d := by
  cases h with
  | cons h1 h2 => cases h2; exact ⟨_, _, rfl, h1⟩
theorem VwS.two {vs : List V} {e : D} (h : VwS K as F H vs [d, e]) : ∃ b c v w, vs = [v, w] ∧ Vw b K as F H v d ∧ Vw c K as F H w e := by
  cases h with
  | cons h1 h2 =>
    cases h2 with
    | cons h2 h3 => cases h3; exact ⟨_, _, _, _, rfl, h1, h2⟩
theorem len_ok (ok : Ok K T as S F H) {b : Bool} {v : V} {n : Nat} (h : Vw b K as F H v d) (e : lenD d S = some n) (q : Q (.int n) H) : rBlt K .len [v] H Q := by
  unfold lenD at e
  split at e
  · cases e
    have h' := h.nolist (fun _ z => nomatch z)
    cases h' with
    | tup h1 h2 => exact .inl ⟨_, _, rfl, .inr (sqT_le ok.le h1), by rw [h2.length]; exact q⟩
  · cases e
    obtain ⟨p, vs, rfl, h1, h2⟩ := h.list ok.le
    exact .inl ⟨_, _, rfl, .inl (SqL.of h1), by rw [h2.length]; exact q⟩
  · cases e
    have h' := h.nolist (fun _ z => nomatch z)
    cases h' with
    | scr h1 => exact .inl ⟨_, _, rfl, .inl (sqL_le ok.le h1), by rw [List.length_map]; exact q⟩
  · split at e <;> cases e
    rename_i hl
    cases h.nolist (fun _ z => nomatch z)
    exact .inr ⟨_, rfl, Nat.le_trans hl lim_line, q⟩
  · rename_i k
    have h' := h.nolist (fun _ z => nomatch z)
    cases h' with
    | obj h1 =>
      unfold cellAt at e
      cases e2 : S[k]? with
      | none => rw [e2] at e; cases e
      | some so =>
        rw [e2] at e
        cases so with
        | cell xs =>
          cases e
          obtain ⟨vs, g1, g2⟩ := ok.cel k _ _ h1 e2
          exact .inl ⟨_, _, rfl, .inl (SqL.of g1), by rw [g2.length]; exact q⟩
        | _ => cases e
  · cases e
theorem blt_ok {f : Blt} {vs : List V} {ds : List D} (ok : Ok K T as S F H) (h : VwS K as F H vs ds) (e : blt f ds S = some d) (q : ∀ G J v, Stp as F H as G J → Ok K T as S G J → Rp K as G v d → Q v J) : rBlt K f vs H Q := by
  have same : ∀ v, Rp K as F v d → Q v H := fun v hv => q F H v (Stp.refl _ _ _) ok hv
  unfold blt at e
  split at e
  · rename_i x
    obtain ⟨b, v, rfl, hv⟩ := h.one
    cases e2 : lenD x S with
    | none => rw [e2] at e; cases e
    | some n =>
      rw [e2] at e
      cases e
      exact len_ok ok hv e2 (same _ (.int _))
  · rename_i xs
    split at e <;> cases e
    rename_i hs
    obtain ⟨b, v, rfl, hv⟩ := h.one
    obtain ⟨p, vs, rfl, h1, h2⟩ := hv.list ok.le
    refine ⟨as, F, p, vs, xs, rfl, ok.le, SqL.of h1, h2, hs, fun p' us hp hr => ?_⟩
    obtain ⟨ok1, st1⟩ := ok.frozen (p := p') (o := .lst us) hp (fun _ z => nomatch z)
    exact q _ _ _ st1 ok1 (.lst upd_same (hr.stp st1))
  · rename_i xs
    obtain ⟨b, v, rfl, hv⟩ := h.one
    cases e2 : toInts xs with
    | none => rw [e2] at e; cases e
    | some ns =>
      rw [e2] at e
      cases e
      obtain ⟨p, vs, rfl, h1, h2⟩ := hv.list ok.le
      have e3 := h2.toInts e2
      subst e3
      exact ⟨p, ns, rfl, SqL.of h1, same _ (.int _)⟩
  · rename_i xs
    obtain ⟨b, v, rfl, hv⟩ := h.one
    cases e2 : toBls xs with
    | none => rw [e2] at e; cases e
    | some ns =>
      rw [e2] at e
      cases e
      obtain ⟨p, vs, rfl, h1, h2⟩ := hv.list ok.le
      have e3 := h2.toBls e2
      subst e3
      exact ⟨p, ns, rfl, SqL.of h1, same _ (.bl _)⟩
  · rename_i xs
    obtain ⟨b, v, rfl, hv⟩ := h.one
    cases e2 : toBls xs with
    | none => rw [e2] at e; cases e
    | some ns =>
      rw [e2] at e
      cases e
      obtain ⟨p, vs, rfl, h1, h2⟩ := hv.list ok.le
      have e3 := h2.toBls e2
      subst e3
      exact ⟨p, ns, rfl, SqL.of h1, same _ (.bl _)⟩
  · cases e
    obtain ⟨b, v, rfl, hv⟩ := h.one
    obtain ⟨p, vs, rfl, h1, h2⟩ := hv.list ok.le
    refine ⟨p, vs, rfl, .inl ⟨SqL.of h1, fun p' hp => ?_⟩⟩
    obtain ⟨ok1, st1⟩ := ok.frozen (p := p') (o := .tup vs) hp (fun _ z => nomatch z)
    exact q _ _ _ st1 ok1 (.tup (SqT.of upd_same) (h2.stp st1))
  · cases e
    obtain ⟨b, v, rfl, hv⟩ := h.one
    have hv' := hv.nolist (fun _ z => nomatch z)
    have hv2 := hv'
    cases hv' with
    | tup h1 h2 => exact ⟨_, _, rfl, .inr ⟨sqT_le ok.le h1, same _ hv2⟩⟩
  · cases e
    obtain ⟨b, v, rfl, hv⟩ := h.one
    obtain ⟨p, vs, rfl, h1, h2⟩ := hv.list ok.le
    refine ⟨p, vs, rfl, .inl (SqL.of h1), fun p' hp => ?_⟩
    obtain ⟨ok1, st1⟩ := ok.frozen (p := p') (o := .lst vs) hp (fun _ z => nomatch z)
    exact q _ _ _ st1 ok1 (.lst upd_same (h2.stp st1))
  · cases e
    obtain ⟨b, v, rfl, hv⟩ := h.one
    have hv' := hv.nolist (fun _ z => nomatch z)
    cases hv' with
    | tup h1 h2 =>
      rename_i a vs
      refine ⟨_, _, rfl, .inr (sqT_le ok.le h1), fun p' hp => ?_⟩
      obtain ⟨ok1, st1⟩ := ok.frozen (p := p') (o := .lst vs) hp (fun _ z => nomatch z)
      exact q _ _ _ st1 ok1 (.lst upd_same (h2.stp st1))
  · cases e
    obtain ⟨b, c, v, w, rfl, hv, hw⟩ := h.two
    cases hv.nolist (fun _ z => nomatch z)
    cases hw.nolist (fun _ z => nomatch z)
    exact .inl ⟨_, _, rfl, same _ (.int _)⟩
  · cases e
    obtain ⟨b, c, v, w, rfl, hv, hw⟩ := h.two
    cases hv.nolist (fun _ z => nomatch z)
    cases hw.nolist (fun _ z => nomatch z)
    exact .inl ⟨_, _, rfl, same _ (.int _)⟩
  · rename_i i xs
    obtain ⟨b, v, rfl, hv⟩ := h.one
    cases e2 : toInts xs with
    | none => rw [e2] at e; cases e
    | some ns =>
      rw [e2] at e
      cases e
      obtain ⟨p, vs, rfl, h1, h2⟩ := hv.list ok.le
      have e3 := h2.toInts (ns := i :: ns) (by rw [toInts, e2]; rfl)
      subst e3
      refine .inr ⟨p, i :: ns, rfl, SqL.of h1, by simp, fun m hm hle => ?_⟩
      obtain ⟨g1, g2⟩ := maxI_spec ns i
      have : m = maxI i ns := Int.le_antisymm (g2 m hm) (hle _ g1)
      subst this
      exact same _ (.int _)
  · rename_i i xs
    obtain ⟨b, v, rfl, hv⟩ := h.one
    cases e2 : toInts xs with
    | none => rw [e2] at e; cases e
    | some ns =>
      rw [e2] at e
      cases e
      obtain ⟨p, vs, rfl, h1, h2⟩ := hv.list ok.le
      have e3 := h2.toInts (ns := i :: ns) (by rw [toInts, e2]; rfl)
      subst e3
      refine .inr ⟨p, i :: ns, rfl, SqL.of h1, by simp, fun m hm hle => ?_⟩
      obtain ⟨g1, g2⟩ := minI_spec ns i
      have : m = minI i ns := Int.le_antisymm (hle _ g1) (g2 m hm)
      subst this
      exact same _ (.int _)
  · cases e
    obtain ⟨b, v, rfl, hv⟩ := h.one
    cases hv.nolist (fun _ z => nomatch z)
    exact .inl ⟨_, rfl, same _ (.int _)⟩
  · cases e
    obtain ⟨b, v, rfl, hv⟩ := h.one
    cases hv.nolist (fun _ z => nomatch z)
    exact .inr ⟨_, rfl, same _ (.int _)⟩
  · cases e
end
/-! ### isinstance -/
def tyStr : Ty → String
  | .int => "int" | .bool => "bool" | .str => "str" | .tuple => "tuple" | .list => "list" | .dict => "dict"
theorem isi_ok {K : PySem.W.Frag} {T : List (Addr × Str)} {as : List Addr} {S : Sto} {F H : Hp} {Q : VK} {x : D} {b c : Bool} {v : V} {t : Ty} (ok : Ok K T as S F H) (h : Vw b K as F H v x) (e : isi x t = some c) (q : Q (.bl c) H) : rIsi K [v, .ty (tyStr t)] H Q := by
  have fin : ∀ ty : String, TyX K H v (.type ty) → kitB ty (tyStr t) = some c → rIsi K [v, .ty (tyStr t)] H Q := fun ty h1 h2 => ⟨v, .ty (tyStr t), .type ty, .type (tyStr t), c, rfl, .ty _, h1, kit_ty h2, q⟩
  cases x with
  | non =>
    cases h.nolist (fun _ z => nomatch z)
    refine fin "NoneType" (.base .non) ?_
    cases (show some false = some c from e)
    cases t <;> decide +kernel
  | bl b =>
    cases h.nolist (fun _ z => nomatch z)
    refine fin "bool" (.base (.bl _)) ?_
    cases t <;> (cases e; decide +kernel)
  | int i =>
    cases h.nolist (fun _ z => nomatch z)
    refine fin "int" (.base (.int _)) ?_
    cases t <;> (cases e; decide +kernel)
  | str i =>
    cases h.nolist (fun _ z => nomatch z)
    refine fin "str" (.base (.str _)) ?_
    cases t <;> (cases e; decide +kernel)
  | tup xs =>
    have h' := h.nolist (fun _ z => nomatch z)
    cases h' with
    | tup h1 h2 =>
      refine fin "tuple" ?_ ?_
      · rcases sqT_le ok.le h1 with (g | ⟨o, g⟩) | ⟨o, its, n, g1, g2, _⟩
        · exact .base (.tup g)
        · exact .fTuple g
        · exact .kTuple g1 g2
      · cases t <;> (cases e; decide +kernel)
  | lst xs =>
    obtain ⟨p, vs, rfl, h1, h2⟩ := h.list ok.le
    refine fin "list" (.base (.lst h1)) ?_
    cases t <;> (cases e; decide +kernel)
  | scr _ => cases t <;> cases e
  | dct _ => cases t <;> cases e
  | obj _ => cases t <;> cases e
end LP
namespace LP
open PySem PySem.Spec
open PyProof.Rows L2
def Tg.slots : Tg → List Nat
  | .name i => [i]
  | .tnil => []
  | .tcons a r => a.slots ++ r.slots
/-! ### does an expression of the text read as an Ex? -/
structure Ck where
  N : List Str
  fns : Nat → Option Str
  tld : Bool := false
def visB (sc : Scope) (x : Str) : Bool := match sc.names.lookup x with
  | some .local => true
  | some .cell => true
  | some .free => true
  | _ => false
def glB (sc : Scope) (x : Str) : Bool := match sc.names.lookup x with
  | some .globalImplicit => true
  | _ => false
def localB (sc : Scope) (x : Str) : Bool := match sc.names.lookup x with
  | some .local => true
  | _ => false
def cellB (sc : Scope) (x : Str) : Bool := match sc.names.lookup x with
  | some .cell => true
  | _ => false
def nmOk (x : Str) : Bool := !(x == ("__debug__" : Str)) && !(x == ("__classdict__" : Str)) && !(x == ("__name__" : Str))
def bopB : Bop → Operator → Bool
  | .add, .Add => true | .sub, .Sub => true | .mul, .Mult => true | .fdiv, .FloorDiv => true | .mod, .Mod => true | .pow, .Pow => true
  | _, _ => false
def copB : Cop → CmpOp → Bool
  | .eq, .Eq => true | .ne, .NotEq => true | .lt, .Lt => true | .le, .LtE => true | .gt, .Gt => true | .ge, .GtE => true
  | .iss, .Is => true | .isn, .IsNot => true | .inn, .In => true | .nin, .NotIn => true
  | _, _ => false
def noSet : Expr → Bool
  | .Set _ _ _ => false
  | _ => true
def isTup : Expr → Bool
  | .Tuple _ _ _ => true
  | _ => false
/-- a target; cells are let in a def's own body -/
def chkT (N : List Str) (cells : Bool) (sc : Scope) : Tg → Expr → Bool
  | .name i, .Name x _ => (N[i]? == some x) && (localB sc x || (cells && cellB sc x))
  | .tnil, .Tuple [] _ _ => true
  | .tcons a r, .Tuple (e :: es) k p => chkT N cells sc a e && chkT N cells sc r (.Tuple es k p)
  | _, _ => false
def lamArgs : Arguments → Bool
  | ⟨[], [], none, [], [], none, []⟩ => true
  | _ => false
def rngOk : Ex → Bool
  | .cons _ .nil => true
  | .cons _ (.cons _ .nil) => true
  | .cons _ (.cons _ (.cons _ .nil)) => true
  | _ => false
mutual
def chkE : Ck → Ex → Scope → Expr → Bool
  | C, .var i, sc, .Name x _ => (C.N[i]? == some x) && visB sc x && nmOk x
  | C, .pk i, sc, .Name x _ => (C.N[i]? == some x) && visB sc x && nmOk x
  | C, .non, _, .Constant .none _ _ => true
  | C, .bl b, _, .Constant (.bool c) _ _ => b == c
  | C, .int i, _, .Constant (.int j) _ _ => decide (i = j)
  | C, .str s, _, .Constant (.str t) _ _ => s == t
  | C, .glob x, sc, .Name y _ => (x == y) && glB sc y && nmOk y
  | C, .bin o a b, sc, .BinOp l op r _ => bopB o op && chkE C a sc l && chkE C b sc r
  | C, .neg a, sc, .UnaryOp .USub e _ => chkE C a sc e
  | C, .cmp o a b, sc, .Compare l [op] [r] _ => copB o op && noSet r && chkE C a sc l && chkE C b sc r
  | C, .chain o p a b c, sc, .Compare l [op, op2] [m, r] _ => copB o op && copB p op2 && noSet m && noSet r && chkE C a sc l && chkE C b sc m && chkE C c sc r
  | C, .notE a, sc, .UnaryOp .Not e _ => !a.isPk && chkE C a sc e
  | C, .andE a b, sc, .BoolOp .And [l, r] _ => !a.isPk && !b.isPk && chkE C a sc l && chkE C b sc r
  | C, .andE a b, sc, .BoolOp .And (l :: m :: n :: r) p => !a.isPk && !b.isPk && chkE C a sc l && chkE C b sc (.BoolOp .And (m :: n :: r) p)
  | C, .orE a b, sc, .BoolOp .Or [l, r] _ => !a.isPk && !b.isPk && chkE C a sc l && chkE C b sc r
  | C, .orE a b, sc, .BoolOp .Or (l :: m :: n :: r) p => !a.isPk && !b.isPk && chkE C a sc l && chkE C b sc (.BoolOp .Or (m :: n :: r) p)
  | C, .ife c a b, sc, .IfExp t x y _ => chkE C c sc t && chkE C a sc x && chkE C b sc y
  | C, .tup as, sc, .Tuple es _ _ => chks C as sc es
  | C, .lst as, sc, .List es _ => chks C as sc es
  | C, .cell as, sc, .List es _ => chks C as sc es
  | C, .ix a i, sc, .Subscript o s _ => chkE C a sc o && chkE C i sc s
  | C, .sl a lo hi, sc, .Subscript o (.Slice l u none _) _ => chkE C a sc o && chko C lo sc l && chko C hi sc u
  | C, .blt f as, sc, .Call (.Name x _) (e :: es) [] _ => (bltName f == x) && glB sc x && nmOk x && chks C as sc (e :: es)
  | C, .dcall j as, sc, .Call (.Name x _) es [] _ => (C.fns j == some x) && glB sc x && nmOk x && chks C as sc es
  | C, .sset a, sc, .Call (.Name x _) [.Call (.Name y _) [e] [] _] [] _ => (x == ("sorted" : Str)) && (y == ("set" : Str)) && glB sc x && glB sc y && chkE C a sc e
  | C, .mind a, sc, .Call (.Name x _) [e] [⟨some y, .Constant .none _ _, _⟩] _ => (x == ("min" : Str)) && (y == ("default" : Str)) && glB sc x && chkE C a sc e
  | C, .isi a t, sc, .Call (.Name x _) [e, .Name y _] [] _ => (x == ("isinstance" : Str)) && (y == Str.ofString (tyStr t)) && glB sc x && glB sc y && chkE C a sc e
  | C, .comp own elt tg it cnd, sc, .ListComp e [⟨tgE, itE, ifs, 0⟩] scope _ => blkC C.N sc scope own && (tg.slots.all fun i => (own.map (·.2)).contains i) && chkT C.N false (relS scope sc) tg tgE && chki C it sc tgE itE && chkE C elt (relS scope sc) e && chkc C cnd (relS scope sc) ifs
  | C, .told b, sc, .Call (.Name x _) [.Lambda ps body scope _] [] _ => (x == ("_law_told" : Str)) && glB sc x && lamArgs ps && LamX.lamSB sc scope && C.tld && chkE { C with tld := false } b scope body
  | _, _, _, _ => false
def chks : Ck → Ex → Scope → List Expr → Bool
  | C, .nil, _, [] => true
  | C, .cons a r, sc, e :: es => chkE C a sc e && chks C r sc es
  | _, _, _, _ => false
def chko : Ck → Ex → Scope → Option Expr → Bool
  | C, .nop, _, none => true
  | C, .part a, sc, some e => chkE C a sc e
  | _, _, _, _ => false
def chkc : Ck → Ex → Scope → List Expr → Bool
  | C, .nop, _, [] => true
  | C, .part a, sc, [e] => chkE C a sc e
  | _, _, _, _ => false
def chki : Ck → Ex → Scope → Expr → Expr → Bool
  | C, .rng as, sc, _, .Call (.Name x _) es [] _ => (x == ("range" : Str)) && glB sc x && rngOk as && chks C as sc es
  | C, .enum a, sc, tg, .Call (.Name x _) [e] [] _ => (x == ("enumerate" : Str)) && glB sc x && isTup tg && chkE C a sc e
  | C, .zip a b, sc, tg, .Call (.Name x _) [e, f] [] _ => (x == ("zip" : Str)) && glB sc x && isTup tg && chkE C a sc e && chkE C b sc f
  | C, .walk a, sc, _, e => noSet e && chkE C a sc e
  | _, _, _, _, _ => false
end
/-! ### targets -/
section
variable {K : PySem.W.Frag} {as : List Addr} {F H : Hp} {σ : L2.St} {ρ : Fr}
theorem FrOk.set {i : Nat} {v : V} {d : D} (fr : FrOk K as F H σ ρ) (h : Rp K as F v d) : FrOk K as F H (σ.set i (some v)) (ρ.set i (some (.fz d))) := by
  refine ⟨by simp [fr.len], fun j s e => ?_, fun j k xs ys e1 e2 e3 => ?_⟩
  · by_cases hj : j = i
    · subst hj
      rw [List.getElem?_set] at e
      simp only [if_true] at e
      split at e
      · rename_i hl
        cases e
        exact ⟨v, by rw [List.getElem?_set_self (by rw [fr.len]; exact hl)], h⟩
      · cases e
    · rw [List.getElem?_set_ne (Ne.symm hj)] at e ⊢
      exact fr.at_ j s e
  · have nj : j ≠ i := fun z => by
      subst z
      rw [List.getElem?_set] at e1
      simp only [if_true] at e1
      split at e1 <;> cases e1
    have nk : k ≠ i := fun z => by
      subst z
      rw [List.getElem?_set] at e2
      simp only [if_true] at e2
      split at e2 <;> cases e2
    rw [List.getElem?_set_ne (Ne.symm nj)] at e1 e3
    rw [List.getElem?_set_ne (Ne.symm nk)] at e2 e3
    exact fr.one j k xs ys e1 e2 e3
/-- what binding a target asks -/
def gI (K : PySem.W.Frag) (t : Tg) : TG := fun v σ H Q => ∃ as F d ρ ρ', Le F H ∧ FrOk K as F H σ ρ ∧ Rp K as F v d ∧ bindT t d ρ = some ρ' ∧
  ∀ σ', FrOk K as F H σ' ρ' → (∀ i, i ∉ t.slots → σ'[i]? = σ[i]?) → Q σ' H
def gIs (K : PySem.W.Frag) (t : Tg) : TGs := fun vs σ H Q => ∃ as F ds ρ ρ', Le F H ∧ FrOk K as F H σ ρ ∧ RpL K as F vs ds ∧ bindTs t ds ρ = some ρ' ∧
  ∀ σ', FrOk K as F H σ' ρ' → (∀ i, i ∉ t.slots → σ'[i]? = σ[i]?) → Q σ' H
theorem _root_.L2.PG.imp {X : Cx} {e : Expr} {t t' : TG} (h : PG X e t) (i : ∀ v σ H Q, t' v σ H Q → t v σ H Q) : PG X e t' := ⟨fun pins s σ H v u Q I r q => h.run pins s σ H v u Q I r (i v σ H Q q)⟩
theorem _root_.L2.PGs.imp {X : Cx} {e : List Expr} {t t' : TGs} (h : PGs X e t) (i : ∀ v σ H Q, t' v σ H Q → t v σ H Q) : PGs X e t' := ⟨fun pins s σ H v u Q I r q => h.run pins s σ H v u Q I r (i v σ H Q q)⟩
end
theorem assignEach_ok {N : List Str} {cells : Bool} {sc : Scope} (env : Env) : ∀ (t : Tg) (es : List Expr) (k : Nat) (p : Pos), chkT N cells sc t (.Tuple es k p) = true → (assignEach es env).length = es.length ∧ (assignEach es env).findIdx? (·.1) = none
  | .name _, _, _, _, h => by cases h
  | .tnil, [], _, _, _ => ⟨rfl, rfl⟩
  | .tnil, _ :: _, _, _, h => by cases h
  | .tcons _ _, [], _, _, h => by cases h
  | .tcons a r, e :: es, k, p, h => by
    have h' : chkT N cells sc a e = true ∧ chkT N cells sc r (.Tuple es k p) = true := by simpa only [chkT, Bool.and_eq_true] using h
    obtain ⟨i1, i2⟩ := assignEach_ok env r es k p h'.2
    have e1 : assignEach (e :: es) env = (false, assign e env) :: assignEach es env := by
      cases e with
      | Starred t p => cases a <;> cases h'.1
      | _ => rfl
    rw [e1]
    refine ⟨by simp [i1], ?_⟩
    rw [List.findIdx?_cons]
    simp [i2]
theorem bindTs_len : ∀ (t : Tg) (ds : List D) (ρ ρ' : Fr), bindTs t ds ρ = some ρ' → ∀ (N : List Str) (cells : Bool) (sc : Scope) (es : List Expr) (k : Nat) (p : Pos), chkT N cells sc t (.Tuple es k p) = true → ds.length = es.length
  | .name _, _, _, _, h, _, _, _, _, _, _, _ => by simp [bindTs] at h
  | .tnil, [], _, _, _, _, _, _, es, _, _, h => by
    cases es with
    | nil => rfl
    | cons => cases h
  | .tnil, _ :: _, _, _, h, _, _, _, _, _, _, _ => by cases h
  | .tcons _ _, [], _, _, h, _, _, _, _, _, _, _ => by cases h
  | .tcons a r, d :: ds, ρ, ρ', h, N, cells, sc, es, k, p, hc => by
    cases es with
    | nil => cases hc
    | cons e es =>
      have h' : chkT N cells sc a e = true ∧ chkT N cells sc r (.Tuple es k p) = true := by simpa only [chkT, Bool.and_eq_true] using hc
      have h : (bindT a d ρ).bind (bindTs r ds) = some ρ' := h
      cases q : bindT a d ρ with
      | none => rw [q] at h; cases h
      | some ρ1 =>
        rw [q] at h
        rw [List.length_cons, List.length_cons, bindTs_len r ds ρ1 ρ' h N cells sc es k p h'.2]
section
variable {X : Cx}
theorem beqS {a b : Str} (h : (a == b) = true) : a = b := eq_of_beq h
theorem someB {α : Type} [BEq α] [LawfulBEq α] {o : Option α} {x : α} (h : (o == some x) = true) : o = some x := eq_of_beq h
theorem loc_of {sc : Scope} {x : Str} (h : localB sc x = true) : sc.names.lookup x = some .local := by
  unfold localB at h
  split at h
  · assumption
  · cases h
theorem cell_of {sc : Scope} {x : Str} (h : cellB sc x = true) : sc.names.lookup x = some .cell := by
  unfold cellB at h
  split at h
  · assumption
  · cases h
theorem gl_of {sc : Scope} {x : Str} (h : glB sc x = true) : sc.names.lookup x = some .globalImplicit := by
  unfold glB at h
  split at h
  · assumption
  · cases h
theorem vis_of {sc : Scope} {x : Str} (h : visB sc x = true) : Vis sc x := by
  unfold visB at h
  split at h
  · exact .inl (by assumption)
  · exact .inr (.inl (by assumption))
  · exact .inr (.inr (by assumption))
  · cases h
mutual
theorem pgI (hc : X.calm = true) (hN : X.N.Nodup) (cells : Bool) (hf : cells = true → ∀ x, X.fn x = true) : ∀ (t : Tg) (e : Expr), chkT X.N cells X.env.scope t e = true → PG X e (gI X.K t)
  | .name i, e, h => by
    cases e with
    | Name x p =>
      have h' : (X.N[i]? == some x) = true ∧ (localB X.env.scope x || (cells && cellB X.env.scope x)) = true := by simpa only [chkT, Bool.and_eq_true] using h
      have hi := someB h'.1
      have hx : Loc X.env.scope x ∧ (X.fn x = true ∨ X.env.scope.names.lookup x = some .local) := by
        rcases Bool.or_eq_true_iff.mp h'.2 with q | q
        · exact ⟨.inl (loc_of q), .inr (loc_of q)⟩
        · rw [Bool.and_eq_true] at q
          exact ⟨.inr (cell_of q.2), .inl (hf q.1 x)⟩
      refine (pg_name (i := i) hN hi hx.1 hx.2).imp fun v σ H Q q => ?_
      obtain ⟨as, F, d, ρ, ρ', le, fr, rv, eb, q⟩ := q
      have eb : (if i < ρ.length then some (ρ.set i (some (.fz d))) else none) = some ρ' := by simpa only [bindT] using eb
      split at eb
      · cases eb
        refine q _ (fr.set rv) fun j hj => ?_
        have hj' : j ≠ i := fun z => hj (by simp [Tg.slots, z])
        rw [List.getElem?_set_ne (Ne.symm hj')]
      · cases eb
    | _ => cases h
  | .tnil, e, h => by
    cases e with
    | Tuple es k p =>
      cases es with
      | nil =>
        refine (pg_tup (n := 0) hc pgs_nil).imp fun v σ H Q q => ?_
        obtain ⟨as, F, d, ρ, ρ', le, fr, rv, eb, q⟩ := q
        cases d with
        | tup xs =>
          cases rv with
          | tup h1 h2 =>
            cases xs with
            | nil =>
              cases h2
              cases (show some ρ = some ρ' from eb)
              exact ⟨_, _, rfl, sqT_le le h1, rfl, rfl, q σ fr fun _ _ => rfl⟩
            | cons => cases eb
        | _ => cases eb
      | cons => cases h
    | _ => cases h
  | .tcons a r, e, h => by
    cases e with
    | Tuple es k p =>
      obtain ⟨l1, l2⟩ := assignEach_ok X.env (.tcons a r) es k p h
      refine (pg_tup (n := es.length) hc (pgsI hc hN cells hf (.tcons a r) es k p h) l1 l2).imp fun v σ H Q q => ?_
      obtain ⟨as, F, d, ρ, ρ', le, fr, rv, eb, q⟩ := q
      cases d with
      | tup xs =>
        cases rv with
        | tup h1 h2 =>
          have eb : bindTs (.tcons a r) xs ρ = some ρ' := by simpa only [bindT] using eb
          exact ⟨_, _, rfl, sqT_le le h1, by rw [h2.length]; exact bindTs_len _ _ _ _ eb _ _ _ _ _ _ h, as, F, xs, ρ, ρ', le, fr, h2, eb, q⟩
      | _ => cases eb
    | _ => cases h
theorem pgsI (hc : X.calm = true) (hN : X.N.Nodup) (cells : Bool) (hf : cells = true → ∀ x, X.fn x = true) : ∀ (t : Tg) (es : List Expr) (k : Nat) (p : Pos), chkT X.N cells X.env.scope t (.Tuple es k p) = true → PGs X es (gIs X.K t)
  | .name _, _, _, _, h => by cases h
  | .tnil, es, _, _, h => by
    cases es with
    | nil =>
      refine pgs_nil.imp fun v σ H Q q => ?_
      obtain ⟨as, F, ds, ρ, ρ', le, fr, rv, eb, q⟩ := q
      cases ds with
      | nil =>
        cases rv
        cases (show some ρ = some ρ' from eb)
        exact ⟨rfl, q σ fr fun _ _ => rfl⟩
      | cons => cases eb
    | cons => cases h
  | .tcons a r, es, k, p, h => by
    cases es with
    | nil => cases h
    | cons e es =>
      have h' : chkT X.N cells X.env.scope a e = true ∧ chkT X.N cells X.env.scope r (.Tuple es k p) = true := by simpa only [chkT, Bool.and_eq_true] using h
      have e1 : (assignEach (e :: es) X.env).map (·.2) = assign e X.env :: (assignEach es X.env).map (·.2) := by
        cases e with
        | Starred t p => cases a <;> cases h'.1
        | _ => rfl
      refine (pgs_cons (pgI hc hN cells hf a e h'.1) (pgsI hc hN cells hf r es k p h'.2) e1).imp fun v σ H Q q => ?_
      obtain ⟨as, F, ds, ρ, ρ', le, fr, rv, eb, q⟩ := q
      cases ds with
      | nil => cases eb
      | cons d ds =>
        cases rv with
        | cons r1 r2 =>
          have eb : (bindT a d ρ).bind (bindTs r ds) = some ρ' := by simpa only [bindTs] using eb
          cases e2 : bindT a d ρ with
          | none => rw [e2] at eb; cases eb
          | some ρ1 =>
            rw [e2] at eb
            refine ⟨_, _, rfl, as, F, d, ρ, ρ1, le, fr, r1, e2, fun σ1 fr1 k1 => ⟨as, F, ds, ρ1, ρ', le, fr1, r2, eb, fun σ2 fr2 k2 => q σ2 fr2 fun i hi => ?_⟩⟩
            have hi' : i ∉ a.slots ∧ i ∉ r.slots := by simpa [Tg.slots] using hi
            rw [k2 i hi'.2, k1 i hi'.1]
end
end
end LP
namespace LP
open PySem PySem.Spec
open PyProof.Rows L2
/-! ### expressions, one construct after the other -/
theorem bop_of {o : Bop} {op : Operator} (h : bopB o op = true) : op = bopOf o := by
  cases o <;> cases op <;> first | rfl | cases h
theorem cop_of {o : Cop} {op : CmpOp} (h : copB o op = true) : op = copOf o := by
  cases o <;> cases op <;> first | rfl | cases h
theorem noSet_marks {e : Expr} (op : CmpOp) (h : noSet e = true) : behindInMarks op e = false := by
  cases e <;> first | rfl | cases h
theorem noStar {C : Ck} {a : Ex} {sc : Scope} {e : Expr} (h : chkE C a sc e = true) (es : List Expr) (env : Env) : starEach (e :: es) env = (false, eval e env) :: starEach es env := by
  cases e with
  | Starred t p => cases a <;> cases h
  | _ => rfl
theorem noSlice {C : Ck} {a : Ex} {sc : Scope} {e : Expr} (h : chkE C a sc e = true) : PlainIx e := by
  cases e with
  | Slice l u s p => cases a <;> cases h
  | _ => exact fun _ _ => rfl
theorem noStars {C : Ck} {sc : Scope} (env : Env) (pos : Pos) : ∀ (x : Ex) (es : List Expr), chks C x sc es = true → (backTo pos (starEach es env)).any (·.1) = false
  | .nil, [], _ => rfl
  | .cons a r, e :: es, h => by
    have h' : chkE C a sc e = true ∧ chks C r sc es = true := by simpa only [chks, Bool.and_eq_true] using h
    rw [noStar h'.1]
    have ih := noStars env pos r es h'.2
    unfold backTo at ih ⊢
    rw [List.map_cons, List.any_cons, ih] <;> rfl
section
variable {X : Cx} {T : List (Addr × Str)} {E : XK} {Γ : Gam} {a b c : Ex} {l r m : Expr} {pos : Pos}
abbrev SE (X : Cx) (T : List (Addr × Str)) (E : XK) (Γ : Gam) (x : Ex) (e : Expr) : Prop := PE X e (tI X.K T E Γ x)
abbrev ST (X : Cx) (T : List (Addr × Str)) (E : XK) (Γ : Gam) (x : Ex) (e : Expr) : Prop := PT X e (tIt X.K T E Γ x)
theorem sE_var {i : Nat} {x : Str} (hN : X.N[i]? = some x) (hv : Vis X.env.scope x) (h1 : (x == ("__debug__" : Str)) = false) (h2 : (x == ("__classdict__" : Str)) = false) : SE X T E Γ (.var i) (.Name x pos) := by
  refine (pe_var (i := i) hN hv h1 h2).imp fun σ H Q q => ?_
  obtain ⟨ρ, S, as, F, ok, fr, q⟩ := q
  rw [ev] at q
  split at q
  · rename_i d hd
    obtain ⟨v, e1, e2⟩ := fr.at_ i _ hd
    exact ⟨v, e1, q.here ok v (Vw.of e2)⟩
  · exact q.elim
theorem sE_pk {i : Nat} {x : Str} (hN : X.N[i]? = some x) (hv : Vis X.env.scope x) (h1 : (x == ("__debug__" : Str)) = false) (h2 : (x == ("__classdict__" : Str)) = false) : SE X T E Γ (.pk i) (.Name x pos) := by
  refine (pe_var (i := i) hN hv h1 h2).imp fun σ H Q q => ?_
  obtain ⟨ρ, S, as, F, ok, fr, q⟩ := q
  rw [ev] at q
  split at q
  · rename_i xs hd
    obtain ⟨v, e1, e2⟩ := fr.at_ i _ hd
    refine ⟨v, e1, q.here ok v ?_⟩
    show Vw true X.K as F H v (.lst xs)
    unfold Vw
    rw [if_pos rfl]
    exact ⟨xs, rfl, e2⟩
  · exact q.elim
theorem sE_non {j : Nat} : SE X T E Γ .non (.Constant .none j pos) := pe_non.imp fun σ H Q q => by
  obtain ⟨ρ, S, as, F, ok, fr, q⟩ := q
  rw [ev] at q
  exact q.here ok .non (Vw.of .non)
theorem sE_bl {j : Nat} {k : Bool} : SE X T E Γ (.bl k) (.Constant (.bool k) j pos) := pe_bl.imp fun σ H Q q => by
  obtain ⟨ρ, S, as, F, ok, fr, q⟩ := q
  rw [ev] at q
  exact q.here ok (.bl k) (Vw.of (.bl k))
theorem sE_int {j : Nat} {k : Int} : SE X T E Γ (.int k) (.Constant (.int k) j pos) := pe_int.imp fun σ H Q q => by
  obtain ⟨ρ, S, as, F, ok, fr, q⟩ := q
  rw [ev] at q
  exact q.here ok (.int k) (Vw.of (.int k))
theorem sE_str {j : Nat} {k : Str} : SE X T E Γ (.str k) (.Constant (.str k) j pos) := pe_str.imp fun σ H Q q => by
  obtain ⟨ρ, S, as, F, ok, fr, q⟩ := q
  rw [ev] at q
  exact q.here ok (.str k) (Vw.of (.str k))
theorem sE_glob {x : Str} {d : D} {v : V} {u : Value} (hg : Gl X x) (hm : X.mg x = some u) (rv : RelV v u) (hd : ∀ as F, Rp X.K as F v d) (hc : Γ.con x = some d) (h1 : (x == ("__debug__" : Str)) = false) : SE X T E Γ (.glob x) (.Name x pos) :=
  (pe_glob hg hm rv h1).imp fun σ H Q q => by
    obtain ⟨ρ, S, as, F, ok, fr, q⟩ := q
    rw [ev, hc] at q
    exact PostR.here q ok v (Vw.of (hd as F))
theorem sE_bin {o : Bop} (ha : SE X T E Γ a l) (hb : SE X T E Γ b r) : SE X T E Γ (.bin o a b) (.BinOp l (bopOf o) r pos) := by
  refine (pe_op (op_bin o) ha hb).imp fun σ H Q q => ?_
  obtain ⟨ρ, S, as, F, ok, fr, q⟩ := q
  rw [ev] at q
  refine two ok fr q fun x y vx vy S1 bs G J st ok1 hx hy q1 => ?_
  obtain ⟨d, e, q2⟩ := q1.ofO
  exact bin_ok ok1 hx hy e fun G' J' v st' ok' hv => q2 bs G' J' st' ok' v (Vw.of hv)
theorem sE_neg (ha : SE X T E Γ a l) : SE X T E Γ (.neg a) (.UnaryOp .USub l pos) := by
  refine (pe_un un_neg ha).imp fun σ H Q q => ?_
  obtain ⟨ρ, S, as, F, ok, fr, q⟩ := q
  rw [ev] at q
  refine ⟨ρ, S, as, F, ok, fr, q.bind.mono fun x S1 bs G J st ok1 q1 v hv => ?_⟩
  obtain ⟨d, e, q2⟩ := q1.ofO
  cases x with
  | int i =>
    cases (show some (D.int (-i)) = some d from e)
    cases hv.nolist (fun _ z => nomatch z)
    exact ⟨i, rfl, q2.here ok1 _ (Vw.of (.int _))⟩
  | _ => cases e
theorem sE_cmp {o : Cop} (hu : X.A.units + 200 < cLine) (hs : noSet r = true) (ha : SE X T E Γ a l) (hb : SE X T E Γ b r) : SE X T E Γ (.cmp o a b) (.Compare l [copOf o] [r] pos) := by
  refine (pe_cmpR (op_cmp hu o) ha hb (noSet_marks _ hs)).imp fun σ H Q q => ?_
  obtain ⟨ρ, S, as, F, ok, fr, q⟩ := q
  rw [ev] at q
  refine two ok fr q fun x y vx vy S1 bs G J st ok1 hx hy q1 => ?_
  obtain ⟨d, e, q2⟩ := q1.ofO
  cases e2 : cmpD o x y with
  | none => rw [e2] at e; cases e
  | some k =>
    rw [e2] at e
    cases e
    exact cmp_ok ok1.le hx hy e2 (q2.here ok1 _ (Vw.of (.bl _)))
theorem sT_cmp {o : Cop} (hu : X.A.units + 200 < cLine) (hs : noSet r = true) (ha : SE X T E Γ a l) (hb : SE X T E Γ b r) : ST X T E Γ (.cmp o a b) (.Compare l [copOf o] [r] pos) := by
  refine (pt_cmpR (op_cmp hu o) ha hb (noSet_marks _ hs)).imp fun σ H Q q => ?_
  have q' := evT_tI q rfl
  obtain ⟨ρ, S, as, F, ok, fr, q⟩ := q'
  rw [ev] at q
  show tI X.K T E Γ a σ H _
  refine two ok fr q fun x y vx vy S1 bs G J st ok1 hx hy q1 => ?_
  obtain ⟨d, e, q2⟩ := q1.ofO
  cases e2 : cmpD o x y with
  | none => rw [e2] at e; cases e
  | some k =>
    rw [e2] at e
    cases e
    exact cmp_ok ok1.le hx hy e2 (q2.here ok1 _ (Vw.of (.bl _)))
theorem chain_go {o p : Cop} {σ : L2.St} {H : Hp} {Q : VK} (q : tI X.K T E Γ (.chain o p a b c) σ H Q) : tChain (rCmp X.K o) (rCmp X.K p) (tI X.K T E Γ a) (tI X.K T E Γ b) (tI X.K T E Γ c) σ H Q := by
  obtain ⟨ρ, S, as, F, ok, fr, q⟩ := q
  rw [ev] at q
  refine two ok fr q fun x y vx vy S1 bs G J st ok1 hx hy q1 => ?_
  cases e2 : cmpD o x y with
  | none => rw [e2] at q1; exact q1.elim
  | some k =>
    rw [e2] at q1
    cases k with
    | false =>
      refine cmp_ok ok1.le hx hy e2 ⟨false, rfl, ?_⟩
      exact PostR.here (a := D.bl false) q1 ok1 _ (Vw.of (.bl _))
    | true =>
      refine cmp_ok ok1.le hx hy e2 ⟨true, rfl, ?_⟩
      replace q1 : PostR X.K T E bs G J ((ev Γ c ρ S1).bind fun z S => ofO ((cmpD p y z).map D.bl) S) (fun d _ bs G J => ∀ v, Vw false X.K bs G J v d → Q v J) := q1
      show tI X.K T E Γ c σ J _
      refine ⟨ρ, S1, bs, G, ok1, fr.stp st, q1.bind.mono fun z S2 cs W L st2 ok2 q2 vz hz => ?_⟩
      obtain ⟨d, e, q3⟩ := q2.ofO
      cases e3 : cmpD p y z with
      | none => rw [e3] at e; cases e
      | some k =>
        rw [e3] at e
        cases e
        exact cmp_ok ok2.le (hy.stp st2) hz e3 (q3.here ok2 _ (Vw.of (.bl _)))
theorem marks2 {o p : CmpOp} {m r : Expr} (h1 : noSet m = true) (h2 : noSet r = true) : lastMarks [o, p] [m, r] = false := by
  show behindInMarks p r = false
  exact noSet_marks p h2
theorem sE_chain {o p : Cop} (hu : X.A.units + 200 < cLine) (hs1 : noSet m = true) (hs : noSet r = true) (ha : SE X T E Γ a l) (hb : SE X T E Γ b m) (hc : SE X T E Γ c r) : SE X T E Γ (.chain o p a b c) (.Compare l [copOf o, copOf p] [m, r] pos) :=
  (pe_chain (op_cmp hu o) (op_cmp hu p) ha hb hc (marks2 hs1 hs)).imp fun σ H Q q => chain_go q
theorem sT_chain {o p : Cop} (hu : X.A.units + 200 < cLine) (hs1 : noSet m = true) (hs : noSet r = true) (ha : SE X T E Γ a l) (hb : SE X T E Γ b m) (hc : SE X T E Γ c r) : ST X T E Γ (.chain o p a b c) (.Compare l [copOf o, copOf p] [m, r] pos) :=
  (pt_chain (op_cmp hu o) (op_cmp hu p) ha hb hc (marks2 hs1 hs)).imp fun σ H Q q => chain_go (evT_tI q rfl)
theorem sT_plain {x : Ex} {e : Expr} (h : SE X T E Γ x e) (hx : x.isPk = false) (he : ∀ whole, isTrue e X.env whole = (do let v ← whole; standAt e.pos; holding [v] (truthy v))) : ST X T E Γ x e :=
  (pt_val h he).imp fun σ H Q q => evT_tI q hx
/-- a test, then the rest -/
theorem test_of {x : Ex} {σ : L2.St} {H : Hp} {ρ : Fr} {S : Sto} {as : List Addr} {F : Hp} {α : Type} {f : Bool → Sto → Re α} {k : α → Sto → List Addr → Hp → Hp → Prop} {R : Bool → Hp → Prop} (ok : Ok X.K T as S F H) (fr : FrOk X.K as F H σ ρ)
    (h : PostR X.K T E as F H ((evT Γ x ρ S).bind f) k) (m : ∀ t S1 bs G J, Stp as F H bs G J → Ok X.K T bs S1 G J → PostR X.K T E bs G J (f t S1) k → R t J) : tIt X.K T E Γ x σ H R :=
  ⟨ρ, S, as, F, ok, fr, h.bind.mono fun t S1 bs G J st ok1 q => m t S1 bs G J st ok1 q⟩
theorem bind_asBl {α : Type} {x : Ex} {ρ : Fr} {S : Sto} {f : D → Sto → Re α} {g : Bool → Sto → Re α} (h : ∀ d S, f d S = match d with | .bl b => g b S | _ => .bad) : (ev Γ x ρ S).bind f = (evT Γ x ρ S).bind g := by
  unfold evT
  cases ev Γ x ρ S with
  | ok d S1 =>
    show f d S1 = _
    rw [h]
    cases d <;> rfl
  | ex c S1 => rfl
  | bad => rfl
theorem ev_not (ρ : Fr) (S : Sto) : ev Γ (.notE a) ρ S = (evT Γ a ρ S).bind fun t S => .ok (.bl (!t)) S := by
  rw [ev]
  exact bind_asBl fun d S => by cases d <;> rfl
theorem ev_and (ρ : Fr) (S : Sto) : ev Γ (.andE a b) ρ S = (evT Γ a ρ S).bind fun t S => if t = true then ev Γ b ρ S else .ok (.bl false) S := by
  rw [ev]
  exact bind_asBl fun d S => by
    cases d with
    | bl t => cases t <;> rfl
    | _ => rfl
theorem ev_or (ρ : Fr) (S : Sto) : ev Γ (.orE a b) ρ S = (evT Γ a ρ S).bind fun t S => if t = true then .ok (.bl true) S else ev Γ b ρ S := by
  rw [ev]
  exact bind_asBl fun d S => by
    cases d with
    | bl t => cases t <;> rfl
    | _ => rfl
theorem ev_ife (ρ : Fr) (S : Sto) : ev Γ (.ife c a b) ρ S = (evT Γ c ρ S).bind fun t S => if t = true then (if a.isPk then .bad else ev Γ a ρ S) else (if b.isPk then .bad else ev Γ b ρ S) := by
  rw [ev]
  exact bind_asBl fun d S => by
    cases d with
    | bl t => cases t <;> rfl
    | _ => rfl
theorem evT_bind {α : Type} {x : Ex} {f : Bool → Sto → Re D} {ρ : Fr} {S : Sto} (h : ev Γ x ρ S = (evT Γ a ρ S).bind f) : evT Γ x ρ S = (evT Γ a ρ S).bind fun t S => (f t S).bind fun d S => ofO (asBl d) S := by
  unfold evT at h ⊢
  rw [h]
  cases (ev Γ a ρ S).bind fun x S => ofO (asBl x) S <;> rfl
theorem sE_not (ha : SE X T E Γ a l) (hp : a.isPk = false) : SE X T E Γ (.notE a) (.UnaryOp .Not l pos) := by
  refine (pe_not ha).imp fun σ H Q q => ?_
  obtain ⟨ρ, S, as, F, ok, fr, q⟩ := q
  rw [ev_not] at q
  have q' : tIt X.K T E Γ a σ H fun t J => Q (.bl (!t)) J := test_of ok fr q fun t S1 bs G J st ok1 q1 => q1.here ok1 _ (Vw.of (.bl _))
  exact evT_tI q' hp
theorem sT_not (ha : ST X T E Γ a l) : ST X T E Γ (.notE a) (.UnaryOp .Not l pos) := by
  refine (pt_not ha).imp fun σ H Q q => ?_
  obtain ⟨ρ, S, as, F, ok, fr, q⟩ := q
  rw [evT_bind (α := D) (ev_not ρ S)] at q
  exact test_of ok fr q fun t S1 bs G J st ok1 q1 => PostR.here (a := !t) q1 ok1
theorem sE_and (ha : SE X T E Γ a l) (hp : a.isPk = false) (hp2 : b.isPk = false) {rest : List Expr} (hb : SE X T E Γ b (.BoolOp .And (r :: rest) pos)) : SE X T E Γ (.andE a b) (.BoolOp .And (l :: r :: rest) pos) := by
  refine (pe_and ha hb).imp fun σ H Q q => ?_
  obtain ⟨ρ, S, as, F, ok, fr, q⟩ := q
  rw [ev_and] at q
  have q' : tIt X.K T E Γ a σ H fun t J => if t = true then tI X.K T E Γ b σ J Q else Q (.bl false) J := test_of ok fr q fun t S1 bs G J st ok1 q1 => by
    cases t with
    | true => exact ⟨ρ, S1, bs, G, ok1, fr.stp st, by rw [hp2]; exact q1⟩
    | false => exact PostR.here (a := D.bl false) q1 ok1 _ (Vw.of (.bl _))
  exact evT_tI q' hp
theorem sE_or (ha : SE X T E Γ a l) (hp : a.isPk = false) (hp2 : b.isPk = false) {rest : List Expr} (hb : SE X T E Γ b (.BoolOp .Or (r :: rest) pos)) : SE X T E Γ (.orE a b) (.BoolOp .Or (l :: r :: rest) pos) := by
  refine (pe_or ha hb).imp fun σ H Q q => ?_
  obtain ⟨ρ, S, as, F, ok, fr, q⟩ := q
  rw [ev_or] at q
  have q' : tIt X.K T E Γ a σ H fun t J => if t = true then Q (.bl true) J else tI X.K T E Γ b σ J Q := test_of ok fr q fun t S1 bs G J st ok1 q1 => by
    cases t with
    | true => exact PostR.here (a := D.bl true) q1 ok1 _ (Vw.of (.bl _))
    | false => exact ⟨ρ, S1, bs, G, ok1, fr.stp st, by rw [hp2]; exact q1⟩
  exact evT_tI q' hp
theorem and_go {σ : L2.St} {H : Hp} {Q : Bool → Hp → Prop} (q : tIt X.K T E Γ (.andE a b) σ H Q) : tAnd (tIt X.K T E Γ a) (tIt X.K T E Γ b) σ H Q := by
  obtain ⟨ρ, S, as, F, ok, fr, q⟩ := q
  rw [evT_bind (α := D) (ev_and ρ S)] at q
  refine test_of ok fr q fun t S1 bs G J st ok1 q1 => ?_
  cases t with
  | true => exact ⟨ρ, S1, bs, G, ok1, fr.stp st, q1⟩
  | false => exact PostR.here (a := false) q1 ok1
theorem or_go {σ : L2.St} {H : Hp} {Q : Bool → Hp → Prop} (q : tIt X.K T E Γ (.orE a b) σ H Q) : tOr (tIt X.K T E Γ a) (tIt X.K T E Γ b) σ H Q := by
  obtain ⟨ρ, S, as, F, ok, fr, q⟩ := q
  rw [evT_bind (α := D) (ev_or ρ S)] at q
  refine test_of ok fr q fun t S1 bs G J st ok1 q1 => ?_
  cases t with
  | true => exact PostR.here (a := true) q1 ok1
  | false => exact ⟨ρ, S1, bs, G, ok1, fr.stp st, q1⟩
theorem _root_.L2.PW.imp {X : Cx} {e : Expr} {t t' : TT} (h : PW X e t) (i : ∀ σ H Q, t' σ H Q → t σ H Q) : PW X e t' := ⟨fun w pins s σ H Q I q => h.run w pins s σ H Q I (i σ H Q q)⟩
/-- and, or: a test whatever the whole is -/
theorem sW_and (ha : ST X T E Γ a l) {rest : List Expr} (hb : PW X (.BoolOp .And (r :: rest) pos) (tIt X.K T E Γ b)) : PW X (.BoolOp .And (l :: r :: rest) pos) (tIt X.K T E Γ (.andE a b)) := (pw_and ha hb).imp fun σ H Q q => and_go q
theorem sW_or (ha : ST X T E Γ a l) {rest : List Expr} (hb : PW X (.BoolOp .Or (r :: rest) pos) (tIt X.K T E Γ b)) : PW X (.BoolOp .Or (l :: r :: rest) pos) (tIt X.K T E Γ (.orE a b)) := (pw_or ha hb).imp fun σ H Q q => or_go q
theorem sE_ife (hc : ST X T E Γ c m) (ha : SE X T E Γ a l) (hb : SE X T E Γ b r) : SE X T E Γ (.ife c a b) (.IfExp m l r pos) := by
  refine (pe_ifExp hc ha hb).imp fun σ H Q q => ?_
  obtain ⟨ρ, S, as, F, ok, fr, q⟩ := q
  rw [ev_ife] at q
  refine test_of ok fr q fun t S1 bs G J st ok1 q1 => ?_
  cases t with
  | true =>
    cases hp : a.isPk with
    | true => rw [if_pos rfl, if_pos hp] at q1; exact q1.elim
    | false =>
      rw [if_pos rfl, if_neg (by rw [hp]; decide)] at q1
      exact ⟨ρ, S1, bs, G, ok1, fr.stp st, by rw [hp]; exact q1⟩
  | false =>
    cases hp : b.isPk with
    | true => rw [if_neg (by decide), if_pos hp] at q1; exact q1.elim
    | false =>
      rw [if_neg (by decide), if_neg (by rw [hp]; decide)] at q1
      exact ⟨ρ, S1, bs, G, ok1, fr.stp st, by rw [hp]; exact q1⟩
theorem pt_ife {tc ta tb : TT} (hc : PT X m tc) (ha : PT X l ta) (hb : PT X r tb) : PT X (.IfExp m l r pos) (fun σ H Q => tc σ H fun t J => if t = true then ta σ J Q else tb σ J Q) := by
  constructor; intro pins s σ H Q I h
  show wpAny _ _ (do if ← isTrue m X.env (eval m X.env) then isTrue l X.env (eval l X.env) else isTrue r X.env (eval r X.env)) _ _ _
  refine wpAny_bind (thn (hc.run pins s σ H _ I h) fun t s1 ⟨H1, I1, q1⟩ => ?_)
  cases t with
  | true => exact ha.run _ _ _ _ Q I1 q1
  | false => exact hb.run _ _ _ _ Q I1 q1
theorem sT_ife (hc : ST X T E Γ c m) (ha : ST X T E Γ a l) (hb : ST X T E Γ b r) : ST X T E Γ (.ife c a b) (.IfExp m l r pos) := by
  refine (pt_ife hc ha hb).imp fun σ H Q q => ?_
  obtain ⟨ρ, S, as, F, ok, fr, q⟩ := q
  rw [evT_bind (α := D) (ev_ife ρ S)] at q
  refine test_of ok fr q fun t S1 bs G J st ok1 q1 => ?_
  cases t with
  | true =>
    cases hp : a.isPk with
    | true => rw [if_pos rfl, if_pos hp] at q1; exact q1.elim
    | false =>
      rw [if_pos rfl, if_neg (by rw [hp]; decide)] at q1
      exact ⟨ρ, S1, bs, G, ok1, fr.stp st, q1⟩
  | false =>
    cases hp : b.isPk with
    | true => rw [if_neg (by decide), if_pos hp] at q1; exact q1.elim
    | false =>
      rw [if_neg (by decide), if_neg (by rw [hp]; decide)] at q1
      exact ⟨ρ, S1, bs, G, ok1, fr.stp st, q1⟩
/-! ### arguments, displays -/
abbrev SA (X : Cx) (T : List (Addr × Str)) (E : XK) (Γ : Gam) (k : Bool) (x : Ex) (es : List Expr) : Prop := PA X es (tIa X.K T E Γ k x)
theorem sA_nil {k : Bool} : SA X T E Γ k .nil [] := pa_nil.imp fun σ H Q q => by
  obtain ⟨ρ, S, as, F, ok, fr, q⟩ := q
  rw [evs] at q
  exact q.here ok [] True.intro
theorem sA_cons {k : Bool} {es : List Expr} (ha : SE X T E Γ a l) (hr : SA X T E Γ k b es) (hs : starEach (l :: es) X.env = (false, eval l X.env) :: starEach es X.env) : SA X T E Γ k (.cons a b) (l :: es) := by
  refine (pa_cons ha hr hs).imp fun σ H Q q => ?_
  obtain ⟨ρ, S, as, F, ok, fr, q⟩ := q
  rw [evs] at q
  split at q
  · exact q.elim
  · refine ⟨ρ, S, as, F, ok, fr, q.bind.mono fun x S1 bs G J st ok1 q1 v hv => ?_⟩
    refine ⟨ρ, S1, bs, G, ok1, fr.stp st, q1.bind.mono fun xs S2 cs W L st2 ok2 q2 vs hvs => ?_⟩
    exact PostR.here (a := x :: xs) q2 ok2 (v :: vs) ⟨hv.stp st2, hvs⟩
/-- none is owned -/
theorem VwA.rp {K : PySem.W.Frag} {as : List Addr} {F H : Hp} (ρ : Fr) : ∀ (x : Ex) (S S1 : Sto) (vs : List V) (ds : List D), evs Γ false x ρ S = .ok ds S1 → VwA K as F H x vs ds → RpL K as F vs ds
  | .nil, _, _, [], [], _, _ => .nil
  | .cons a r, S, S1, v :: vs, d :: ds, e, h => by
    rw [evs] at e
    split at e
    · cases e
    · rename_i hp
      have hp' : a.isPk = false := by simpa using hp
      cases e2 : ev Γ a ρ S with
      | ok y S2 =>
        rw [e2] at e
        have e : (evs Γ false r ρ S2).bind (fun xs S => .ok (y :: xs) S) = .ok (d :: ds) S1 := e
        cases e3 : evs Γ false r ρ S2 with
        | ok ys S3 =>
          rw [e3] at e
          cases e
          have h1 := h.1
          rw [hp'] at h1
          exact .cons h1.rp (VwA.rp ρ r S2 _ vs ds e3 h.2)
        | ex c S3 => rw [e3] at e; cases e
        | bad => rw [e3] at e; cases e
      | ex c S2 => rw [e2] at e; cases e
      | bad => rw [e2] at e; cases e
theorem _root_.LP.PostR.eqn {K : PySem.W.Frag} {as : List Addr} {F H : Hp} {α : Type} {w : Re α} {k : α → Sto → List Addr → Hp → Hp → Prop} (h : PostR K T E as F H w k) : PostR K T E as F H w fun x S bs G J => w = .ok x S ∧ k x S bs G J := by
  cases w with
  | ok x S => exact fun bs G J st ok => ⟨rfl, h bs G J st ok⟩
  | ex c S => exact h
  | bad => exact h
/-- the arguments' data, none owned -/
theorem args_rp {x : Ex} {σ : L2.St} {H : Hp} {ρ : Fr} {S : Sto} {as : List Addr} {F : Hp} {α : Type} {f : List D → Sto → Re α} {k : α → Sto → List Addr → Hp → Hp → Prop} {R : List V → Hp → Prop} (ok : Ok X.K T as S F H) (fr : FrOk X.K as F H σ ρ)
    (h : PostR X.K T E as F H ((evs Γ false x ρ S).bind f) k) (m : ∀ vs ds S1 bs G J, Stp as F H bs G J → Ok X.K T bs S1 G J → RpL X.K bs G vs ds → PostR X.K T E bs G J (f ds S1) k → R vs J) : tIa X.K T E Γ false x σ H R :=
  ⟨ρ, S, as, F, ok, fr, h.bind.eqn.mono fun ds S1 bs G J st ok1 ⟨e, q⟩ vs hvs => m vs ds S1 bs G J st ok1 (VwA.rp ρ x S S1 vs ds e hvs) q⟩
def Ex.len : Ex → Nat
  | .cons _ r => r.len + 1
  | _ => 0
theorem evs_len {k : Bool} (ρ : Fr) : ∀ (x : Ex) (S S1 : Sto) (ds : List D), evs Γ k x ρ S = .ok ds S1 → ds.length = x.len
  | .nil, _, _, ds, e => by
    rw [evs] at e
    cases e
    rfl
  | .cons a r, S, S1, ds, e => by
    rw [evs] at e
    split at e
    · cases e
    · cases e2 : ev Γ a ρ S with
      | ok y S2 =>
        rw [e2] at e
        replace e : (evs Γ k r ρ S2).bind (fun xs S => .ok (y :: xs) S) = .ok ds S1 := e
        cases e3 : evs Γ k r ρ S2 with
        | ok ys S3 =>
          rw [e3] at e
          cases e
          rw [List.length_cons, evs_len ρ r S2 _ ys e3] <;> rfl
        | ex c S3 => rw [e3] at e; cases e
        | bad => rw [e3] at e; cases e
      | ex c S2 => rw [e2] at e; cases e
      | bad => rw [e2] at e; cases e
  | .var _, _, _, _, e => by simp [evs] at e
  | .pk _, _, _, _, e => by simp [evs] at e
  | .non, _, _, _, e => by simp [evs] at e
  | .bl _, _, _, _, e => by simp [evs] at e
  | .int _, _, _, _, e => by simp [evs] at e
  | .str _, _, _, _, e => by simp [evs] at e
  | .glob _, _, _, _, e => by simp [evs] at e
  | .bin _ _ _, _, _, _, e => by simp [evs] at e
  | .neg _, _, _, _, e => by simp [evs] at e
  | .cmp _ _ _, _, _, _, e => by simp [evs] at e
  | .chain _ _ _ _ _, _, _, _, e => by simp [evs] at e
  | .notE _, _, _, _, e => by simp [evs] at e
  | .andE _ _, _, _, _, e => by simp [evs] at e
  | .orE _ _, _, _, _, e => by simp [evs] at e
  | .ife _ _ _, _, _, _, e => by simp [evs] at e
  | .tup _, _, _, _, e => by simp [evs] at e
  | .lst _, _, _, _, e => by simp [evs] at e
  | .ix _ _, _, _, _, e => by simp [evs] at e
  | .sl _ _ _, _, _, _, e => by simp [evs] at e
  | .nop, _, _, _, e => by simp [evs] at e
  | .part _, _, _, _, e => by simp [evs] at e
  | .blt _ _, _, _, _, e => by simp [evs] at e
  | .dcall _ _, _, _, _, e => by simp [evs] at e
  | .isi _ _, _, _, _, e => by simp [evs] at e
  | .comp _ _ _ _ _, _, _, _, e => by simp [evs] at e
  | .rng _, _, _, _, e => by simp [evs] at e
  | .enum _, _, _, _, e => by simp [evs] at e
  | .zip _ _, _, _, _, e => by simp [evs] at e
  | .walk _, _, _, _, e => by simp [evs] at e
  | .told _, _, _, _, e => by simp [evs] at e
  | .cell _, _, _, _, e => by simp [evs] at e
  | .sset _, _, _, _, e => by simp [evs] at e
  | .mind _, _, _, _, e => by simp [evs] at e
theorem args_len {x : Ex} {σ : L2.St} {H : Hp} {ρ : Fr} {S : Sto} {as : List Addr} {F : Hp} {α : Type} {f : List D → Sto → Re α} {k : α → Sto → List Addr → Hp → Hp → Prop} {R : List V → Hp → Prop} (ok : Ok X.K T as S F H) (fr : FrOk X.K as F H σ ρ)
    (h : PostR X.K T E as F H ((evs Γ false x ρ S).bind f) k) (m : ∀ vs ds S1 bs G J, ds.length = x.len → Stp as F H bs G J → Ok X.K T bs S1 G J → RpL X.K bs G vs ds → PostR X.K T E bs G J (f ds S1) k → R vs J) : tIa X.K T E Γ false x σ H R :=
  ⟨ρ, S, as, F, ok, fr, h.bind.eqn.mono fun ds S1 bs G J st ok1 ⟨e, q⟩ vs hvs => m vs ds S1 bs G J (evs_len ρ x S S1 ds e) st ok1 (VwA.rp ρ x S S1 vs ds e hvs) q⟩
theorem sE_tup {es : List Expr} {n : Nat} (h : SA X T E Γ false a es) : SE X T E Γ (.tup a) (.Tuple es n pos) := by
  refine (pe_tup h).imp fun σ H Q q => ?_
  obtain ⟨ρ, S, as, F, ok, fr, q⟩ := q
  rw [ev] at q
  refine args_rp ok fr q fun vs ds S1 bs G J st ok1 hr q1 => ?_
  split at q1
  · rename_i hl
    refine ⟨by rw [hr.length]; exact Nat.le_trans hl lim_line, fun p hp => ?_⟩
    obtain ⟨ok2, st2⟩ := ok1.frozen (p := p) (o := .tup vs) hp (fun _ z => nomatch z)
    exact q1 _ _ _ st2 ok2 _ (Vw.of (.tup (SqT.of upd_same) (hr.stp st2)))
  · exact q1.elim
theorem sE_lst {es : List Expr} (h : SA X T E Γ false a es) : SE X T E Γ (.lst a) (.List es pos) := by
  refine (pe_lst h).imp fun σ H Q q => ?_
  obtain ⟨ρ, S, as, F, ok, fr, q⟩ := q
  rw [ev] at q
  refine args_rp ok fr q fun vs ds S1 bs G J st ok1 hr q1 => ?_
  split at q1
  · rename_i hl
    refine ⟨by rw [hr.length]; exact Nat.le_trans hl lim_line, fun p hp => ?_⟩
    obtain ⟨ok2, st2⟩ := ok1.frozen (p := p) (o := .lst vs) hp (fun _ z => nomatch z)
    exact q1 _ _ _ st2 ok2 _ (Vw.of (.lst upd_same (hr.stp st2)))
  · exact q1.elim
theorem sE_cell {es : List Expr} (h : SA X T E Γ false a es) : SE X T E Γ (.cell a) (.List es pos) := by
  refine (pe_lst h).imp fun σ H Q q => ?_
  obtain ⟨ρ, S, as, F, ok, fr, q⟩ := q
  rw [ev] at q
  refine args_rp ok fr q fun vs ds S1 bs G J st ok1 hr q1 => ?_
  split at q1
  · rename_i hl
    refine ⟨by rw [hr.length]; exact Nat.le_trans hl lim_line, fun p hp => ?_⟩
    have hpb : p ∉ bs := fun hm => by
      obtain ⟨o, e⟩ := ok1.there hm
      rw [hp] at e; cases e
    have lJ : Le J (upd J p (.lst vs)) := le_upd hp
    have pr : Pre bs (bs ++ [p]) := ⟨[p], rfl⟩
    have lift : ∀ {k : Nat} {b : Addr} {so : SO}, SOk X.K bs G J b so → SOk X.K (bs ++ [p]) G (upd J p (.lst vs)) b so := fun {k b so} hs => by
      cases so with
      | cell xs => obtain ⟨us, e, r⟩ := hs; exact ⟨us, lJ _ _ e, r.up pr (Le.refl _)⟩
      | ins c fs => exact hs
      | dead => obtain ⟨u, e, t⟩ := hs; exact ⟨u, lJ _ _ e, t⟩
    have ok2 : Ok X.K T (bs ++ [p]) (S1 ++ [.cell ds]) G (upd J p (.lst vs)) := by
      refine ⟨ok1.le.trans lJ, by simp [ok1.len], ?_, fun b hb => ?_, fun k b so e1 e2 => ?_, ok1.tab.ext lJ, ok1.ntb⟩
      · rw [List.nodup_append]
        refine ⟨ok1.nd, by simp, fun x hx y hy z => ?_⟩
        have : y = p := by simpa using hy
        exact hpb (by rw [← this, ← z]; exact hx)
      · rcases List.mem_append.mp hb with z | z
        · exact ok1.nof b z
        · have : b = p := by simpa using z
          rw [this]; exact ok1.noF hp
      · by_cases hk : k < bs.length
        · rw [List.getElem?_append_left hk] at e1
          rw [List.getElem?_append_left (by rw [← ok1.len]; exact hk)] at e2
          exact lift (k := k) (ok1.cel k b so e1 e2)
        · rw [List.getElem?_append_right (by omega)] at e1
          rw [List.getElem?_append_right (by rw [← ok1.len]; omega)] at e2
          have hk0 : k - bs.length = 0 := by
            have := (List.getElem?_eq_some_iff.mp e1).1
            simp at this
            omega
          rw [hk0] at e1
          rw [← ok1.len, hk0] at e2
          cases e1
          cases e2
          exact ⟨vs, upd_same, hr.up pr (Le.refl _)⟩
    have st2 : Stp bs G J (bs ++ [p]) G (upd J p (.lst vs)) := ⟨Le.refl _, fun _ _ h => .inl h, fun b o e _ _ => lJ b o e, ⟨[p], rfl, fun b hb => by
      have : b = p := by simpa using hb
      rw [this]; exact Nt.none hp⟩, fun b n o e => n o (lJ b o e)⟩
    refine q1 _ _ _ st2 ok2 _ (Vw.of (.obj ?_))
    rw [← ok1.len, List.getElem?_append_right (Nat.le_refl _)]
    simp
  · exact q1.elim
theorem sE_ix (hs : PlainIx r) (ha : SE X T E Γ a l) (hb : SE X T E Γ b r) : SE X T E Γ (.ix a b) (.Subscript l r pos) := by
  refine (pe_ix ix_seq ha hb hs).imp fun σ H Q q => ?_
  obtain ⟨ρ, S, as, F, ok, fr, q⟩ := q
  rw [ev] at q
  refine two ok fr q fun x y vx vy S1 bs G J st ok1 hx hy q1 => ?_
  obtain ⟨d, e, q2⟩ := q1.ofO
  exact ix_ok ok1 hx hy e fun v hv => q2.here ok1 v (Vw.of hv)
def tIo (K : PySem.W.Frag) (T : List (Addr × Str)) (E : XK) (Γ : Gam) (x : Ex) : TO := fun σ H Q => ∃ ρ S as F, Ok K T as S F H ∧ FrOk K as F H σ ρ ∧ PostR K T E as F H (evo Γ x ρ S) fun o _ _ _ J => Q o J
theorem _root_.L2.PO.imp {X : Cx} {e : Option Expr} {t t' : TO} (h : PO X e t) (i : ∀ σ H Q, t' σ H Q → t σ H Q) : PO X e t' := ⟨fun pins s σ H Q I q => h.run pins s σ H Q I (i σ H Q q)⟩
theorem sO_none : PO X none (tIo X.K T E Γ .nop) := po_none.imp fun σ H Q q => by
  obtain ⟨ρ, S, as, F, ok, fr, q⟩ := q
  rw [evo] at q
  exact q.here ok
theorem sO_some (ha : SE X T E Γ a l) : PO X (some l) (tIo X.K T E Γ (.part a)) := (po_some ha).imp fun σ H Q q => by
  obtain ⟨ρ, S, as, F, ok, fr, q⟩ := q
  rw [evo] at q
  refine ⟨ρ, S, as, F, ok, fr, q.bind.mono fun x S1 bs G J st ok1 q1 v hv => ?_⟩
  obtain ⟨o, e, q2⟩ := q1.ofO
  cases x with
  | int i =>
    cases (show some (some i) = some o from e)
    cases hv.nolist (fun _ z => nomatch z)
    exact ⟨i, rfl, q2.here ok1⟩
  | _ => cases e
theorem sE_sl {lo hi : Ex} {el eh : Option Expr} {p2 : Pos} (ha : SE X T E Γ a l) (hl : PO X el (tIo X.K T E Γ lo)) (hh : PO X eh (tIo X.K T E Γ hi)) : SE X T E Γ (.sl a lo hi) (.Subscript l (.Slice el eh none p2) pos) := by
  refine (pe_slice sl_any ha hl hh).imp fun σ H Q q => ?_
  obtain ⟨ρ, S, as, F, ok, fr, q⟩ := q
  rw [ev] at q
  refine ⟨ρ, S, as, F, ok, fr, q.bind.mono fun x S1 bs G J st ok1 q1 v hv => ?_⟩
  refine ⟨ρ, S1, bs, G, ok1, fr.stp st, q1.bind.mono fun o S2 cs W L st2 ok2 q2 => ?_⟩
  refine ⟨ρ, S2, cs, W, ok2, fr.stp (st.trans st2), q2.bind.mono fun o2 S3 ds W3 L3 st3 ok3 q3 => ?_⟩
  obtain ⟨d, e, q4⟩ := q3.ofO
  exact sl_ok ok3 ((hv.stp st2).stp st3) e fun G' J' v' st' ok' hv' => q4 _ G' J' st' ok' v' (Vw.of hv')
/-! ### built-ins, isinstance, defs -/
theorem boot_blt (f : Blt) : bootBuiltins (bltName f) = some (bltVal f) := by cases f <;> decide +kernel
theorem blt_name (f : Blt) : bltName f ≠ "__name__" ∧ (bltName f == ("__debug__" : Str)) = false := by cases f <;> exact ⟨by decide +kernel, by decide +kernel⟩
theorem sE_blt {f : Blt} {es : List Expr} {p : Pos} (hu : X.A.units + 200 < cLine) (hc : X.calm = true) (hg : Gl X (bltName f)) (hm : X.mg (bltName f) = none) (ha : SA X T E Γ true a (l :: es))
    (hs : starEach (l :: es) X.env = (false, eval l X.env) :: starEach es X.env) (hp : (backTo pos (starEach es X.env)).any (·.1) = false) : SE X T E Γ (.blt f a) (.Call (.Name (bltName f) p) (l :: es) [] pos) := by
  have key : PE X (.Call (.Name (bltName f) p) (l :: es) [] pos) (tCB (rBlt X.K f) (tIa X.K T E Γ true a)) := by
    have cr := call_blt hu hc f
    obtain ⟨n1, n2⟩ := blt_name f
    have bb := boot_blt f
    cases e : bltVal f with
    | builtin id => rw [e] at cr bb; exact pe_callB cr hg hm bb ha n1 n2 hs hp
    | type id => rw [e] at cr bb; exact pe_callTy cr hg hm bb ha n1 n2 hs hp
    | _ => cases f <;> cases e
  refine key.imp fun σ H Q q => ?_
  obtain ⟨ρ, S, as, F, ok, fr, q⟩ := q
  rw [ev] at q
  refine ⟨ρ, S, as, F, ok, fr, q.bind.mono fun ds S1 bs G J st ok1 q1 vs hvs => ?_⟩
  obtain ⟨d, e, q2⟩ := q1.ofO
  exact blt_ok ok1 (VwA.s a vs ds hvs) e fun G' J' v st' ok' hv => q2 _ G' J' st' ok' v (Vw.of hv)
/-- sorted(set(..)) -/
theorem sE_sset {p p2 pos2 : Pos} (hu : X.A.units + 200 < cLine) (hc : X.calm = true) (hg : Gl X "sorted") (hm : X.mg "sorted" = none) (hg2 : Gl X "set") (hm2 : X.mg "set" = none) (ha : SE X T E Γ a l)
    (hs : starEach [l] X.env = (false, eval l X.env) :: starEach [] X.env) : SE X T E Γ (.sset a) (.Call (.Name "sorted" p) [.Call (.Name "set" p2) [l] [] pos2] [] pos) := by
  have k1 : PE X (.Call (.Name "set" p2) [l] [] pos2) (tCB (rSet X) (tCons (tI X.K T E Γ a) tNil)) := pe_callTy (call_set hc hu) hg2 hm2 (boot_blt .sset) (pa_cons ha pa_nil hs) (blt_name .sset).1 (blt_name .sset).2 hs rfl
  have k2 : PE X (.Call (.Name "sorted" p) [.Call (.Name "set" p2) [l] [] pos2] [] pos) (tCB (rSortP X) (tCons (tCB (rSet X) (tCons (tI X.K T E Γ a) tNil)) tNil)) := pe_callB (call_sortP hc hu) hg hm (boot_blt .sorted) (pa_cons k1 pa_nil) (blt_name .sorted).1 (blt_name .sorted).2
  refine k2.imp fun σ H Q q => ?_
  obtain ⟨ρ, S, as, F, ok, fr, q⟩ := q
  rw [ev] at q
  refine ⟨ρ, S, as, F, ok, fr, q.bind.mono fun x S1 bs G J st ok1 q1 v hv => ?_⟩
  obtain ⟨d, e, q2⟩ := q1.ofO
  unfold ssD at e
  split at e
  · rename_i xs
    split at e <;> cases e
    rename_i hit
    simp only [Bool.and_eq_true, List.all_eq_true, decide_eq_true_eq] at hit
    obtain ⟨l', vs, rfl, h1, h2⟩ := hv.list ok1.le
    refine ⟨bs, G, l', vs, xs, rfl, ok1.le, SqL.of h1, h2, hit.1, hit.2, fun a' kf cs hn rp nd mem => ?_⟩
    obtain ⟨ok2, st2⟩ := ok1.frozen (p := a') (o := potH X.prog X.w a' kf cs) hn (fun _ z => nomatch z)
    refine ⟨bs, upd G a' (potH X.prog X.w a' kf cs), a', kf, cs, rfl, ok2.le, upd_same, fun b hb => (rp b hb).stp st2, fun b hb => hit.1 _ ((mem _).mp (List.mem_map.mpr ⟨b, hb, rfl⟩)), fun p' us hp hr => ?_⟩
    rw [srt_dedup hit.1 nd mem] at hr
    obtain ⟨ok3, st3⟩ := ok2.frozen (p := p') (o := .lst us) hp (fun _ z => nomatch z)
    exact q2 _ _ _ (st2.trans st3) ok3 _ (Vw.of (.lst upd_same (hr.stp st3)))
  · cases e
/-- min(.., default=None) -/
theorem sE_mind {p kp np : Pos} {j : Nat} (hu : X.A.units + 200 < cLine) (hc : X.calm = true) (hg : Gl X "min") (hm : X.mg "min" = none) (ha : SE X T E Γ a l)
    (hs : starEach [l] X.env = (false, eval l X.env) :: starEach [] X.env) : SE X T E Γ (.mind a) (.Call (.Name "min" p) [l] [⟨some "default", .Constant .none j np, kp⟩] pos) := by
  have k1 : PE X (.Call (.Name "min" p) [l] [⟨some "default", .Constant .none j np, kp⟩] pos) (tCKw (rMinD X.K) (tCons (tI X.K T E Γ a) tNil) (tCons (tC .non) tNil)) :=
    pe_callBK (call_minD hc hu) hg hm (boot_blt .min) (pa_cons ha pa_nil hs) (pk_cons pe_non pk_nil) (blt_name .min).1 (blt_name .min).2 (by unfold backTo; rw [hs]; rfl) (by unfold backTo; rw [hs]; rfl)
  refine k1.imp fun σ H Q q => ?_
  obtain ⟨ρ, S, as, F, ok, fr, q⟩ := q
  rw [ev] at q
  refine ⟨ρ, S, as, F, ok, fr, q.bind.mono fun x S1 bs G J st ok1 q1 v hv => ?_⟩
  obtain ⟨d, e, q2⟩ := q1.ofO
  unfold minND at e
  split at e
  · rename_i xs
    cases e2 : toInts xs with
    | none => rw [e2] at e; cases e
    | some ns =>
      rw [e2] at e
      obtain ⟨l', vs, rfl, h1, h2⟩ := hv.list ok1.le
      have e3 := h2.toInts e2
      subst e3
      refine ⟨l', ns, rfl, rfl, SqL.of h1, fun en => ?_, fun m t en => ?_⟩
      · subst en
        cases e
        exact q2.here ok1 _ (Vw.of .non)
      · subst en
        cases e
        exact q2.here ok1 _ (Vw.of (.int _))
  · cases e
theorem boot_ty (t : Ty) : bootBuiltins (Str.ofString (tyStr t)) = some (.type (tyStr t)) := by cases t <;> decide +kernel
theorem ty_name (t : Ty) : Str.ofString (tyStr t) ≠ "__name__" ∧ (Str.ofString (tyStr t) == ("__debug__" : Str)) = false := by cases t <;> exact ⟨by decide +kernel, by decide +kernel⟩
theorem boot_isi : bootBuiltins "isinstance" = some (.builtin "isinstance") := by decide +kernel
theorem sE_isi {t : Ty} {p p2 : Pos} (hg : Gl X "isinstance") (hm : X.mg "isinstance" = none) (hg2 : Gl X (Str.ofString (tyStr t))) (hm2 : X.mg (Str.ofString (tyStr t)) = none) (ha : SE X T E Γ a l)
    (hs : starEach [l, .Name (Str.ofString (tyStr t)) p2] X.env = (false, eval l X.env) :: starEach [.Name (Str.ofString (tyStr t)) p2] X.env) : SE X T E Γ (.isi a t) (.Call (.Name "isinstance" p) [l, .Name (Str.ofString (tyStr t)) p2] [] pos) := by
  obtain ⟨n1, n2⟩ := ty_name t
  have hty : PE X (.Name (Str.ofString (tyStr t)) p2) (tC (.ty (tyStr t))) := pe_bltn hg2 hm2 (boot_ty t) rfl n1 n2
  refine (pe_callB call_isi hg hm boot_isi (pa_cons ha (pa_cons hty pa_nil rfl) hs) (by decide) (by decide) hs rfl).imp fun σ H Q q => ?_
  obtain ⟨ρ, S, as, F, ok, fr, q⟩ := q
  rw [ev] at q
  refine ⟨ρ, S, as, F, ok, fr, q.bind.mono fun x S1 bs G J st ok1 q1 v hv => ?_⟩
  obtain ⟨d, e, q2⟩ := q1.ofO
  cases e2 : isi x t with
  | none => rw [e2] at e; cases e
  | some k =>
    rw [e2] at e
    cases e
    exact isi_ok ok1 hv e2 (q2.here ok1 _ (Vw.of (.bl _)))
/-- what a def promises -/
def spOf (K : PySem.W.Frag) (T : List (Addr × Str)) (fn : List D → Sto → Re D) : Sp := fun vs H Q E => ∃ ds S as F, Ok K T as S F H ∧ RpL K as F vs ds ∧ PostR K T E as F H (fn ds S) fun d _ bs G J => ∀ v, Rp K bs G v d → Q v J
/-- a def stands under a name -/
def FnAt (X : Cx) (T : List (Addr × Str)) (fn : List D → Sto → Re D) (x : Str) : Prop := ∃ (f : Addr) (fd : FuncData) (ps : List Str) (k : Nat), X.mg x = some (.ref f) ∧ PySem.W.keepIn X.K (.ref f) = true ∧ Binds X.K fd ps [] ∧ Room k X.A ∧
  FnOk X.prog X.w X.K X.mg X.base (L2N.CX X.prog X.w) k f fd ps (spOf X.K T fn)
theorem sE_dcall {j : Nat} {x : Str} {es : List Expr} {p : Pos} (hf : FnAt X T (Γ.fn j) x) (tk : L2N.Takes X (fun c d _ H => E c d H)) (hg : Gl X x) (hd : (x == ("__debug__" : Str)) = false) (ha : SA X T E Γ false a (l :: es))
    (hs : starEach (l :: es) X.env = (false, eval l X.env) :: starEach es X.env) (hp : (backTo pos (starEach es X.env)).any (·.1) = false) : SE X T E Γ (.dcall j a) (.Call (.Name x p) (l :: es) [] pos) := by
  obtain ⟨f, fd, ps, k, hm, hk, hb, hr, F⟩ := hf
  refine (pe_callS (E := fun _ => E) F hr hg hm hk hb (fun σ => L2N.passAt tk σ) ha hd hs hp).imp fun σ H Q q => ?_
  obtain ⟨ρ, S, as, F, ok, fr, q⟩ := q
  rw [ev] at q
  exact args_rp ok fr q fun vs ds S1 bs G J st ok1 hr q1 => ⟨ds, S1, bs, G, ok1, hr, q1.mono fun d S2 cs W L st2 ok2 q2 v hv => q2 v (Vw.of hv)⟩
theorem sE_dcall0 {j : Nat} {x : Str} {p : Pos} (hf : FnAt X T (Γ.fn j) x) (tk : L2N.Takes X (fun c d _ H => E c d H)) (hg : Gl X x) (hd : (x == ("__debug__" : Str)) = false) : SE X T E Γ (.dcall j .nil) (.Call (.Name x p) [] [] pos) := by
  obtain ⟨f, fd, ps, k, hm, hk, hb, hr, F⟩ := hf
  refine (pe_call0 (E := E) F hr hg hm hk hb .nil (fun pins σ H s e s' I c => L2N.passAt tk σ pins H s e s' I c) hd).imp fun σ H Q q => ?_
  obtain ⟨ρ, S, as, F, ok, fr, q⟩ := q
  rw [ev, evs] at q
  exact ⟨[], S, as, F, ok, .nil, q.mono fun d S2 cs W L st2 ok2 q2 v hv => q2 v (Vw.of hv)⟩
end
end LP
namespace LP
open PySem PySem.Spec
open PyProof.Rows L2
/-! ### what is walked -/
/-- what an iterator gives at turn i -/
def Yd (K : PySem.W.Frag) (as : List Addr) (F : Hp) (xs : List D) : Nat → Hp → V → Hp → Prop := fun i H x H' =>
  (H' = H ∧ ∃ d, xs[i]? = some d ∧ Rp K as F x d) ∨
  (∃ q v1 v2 d1 d2, x = .ref q ∧ H q = none ∧ H' = upd H q (.tup [v1, v2]) ∧ xs[i]? = some (.tup [d1, d2]) ∧ Rp K as F v1 d1 ∧ Rp K as F v2 d2)
abbrev WkD (K : PySem.W.Frag) (as : List Addr) (F : Hp) (J : It) (xs : List D) : Prop := Walk J xs.length (fun H => Le F H) (Yd K as F xs)
theorem WkD.up {K : PySem.W.Frag} {as bs : List Addr} {F G : Hp} {J : It} {xs : List D} (w : WkD K as F J xs) (hp : Pre as bs) (hF : Le F G) : WkD K bs G J xs := by
  refine Walk.mono w (fun H h => hF.trans h) fun i H x H' _ _ y => ?_
  rcases y with ⟨e, d, h1, h2⟩ | ⟨q, v1, v2, d1, d2, h1, h2, h3, h4, h5, h6⟩
  · exact .inl ⟨e, d, h1, h2.up hp hF⟩
  · exact .inr ⟨q, v1, v2, d1, d2, h1, h2, h3, h4, h5.up hp hF, h6.up hp hF⟩
def tIi (K : PySem.W.Frag) (T : List (Addr × Str)) (E : XK) (Γ : Gam) (x : Ex) : TI := fun σ H R => ∃ ρ S as F, Ok K T as S F H ∧ FrOk K as F H σ ρ ∧ PostR K T E as F H (evi Γ x ρ S) fun xs _ bs G J => ∀ Jt, WkD K bs G Jt xs → R Jt J
theorem _root_.L2.PI.imp {X : Cx} {tg e : Expr} {t t' : TI} (h : PI X tg e t) (i : ∀ σ H R, t' σ H R → t σ H R) : PI X tg e t' := ⟨fun pins s σ H R I q => h.run pins s σ H R I (i σ H R q)⟩
theorem _root_.L2.PI.or {X : Cx} {tg e : Expr} {t t' : TI} (h : PI X tg e t) (h' : PI X tg e t') : PI X tg e (fun σ H R => t σ H R ∨ t' σ H R) :=
  ⟨fun pins s σ H R I q => q.elim (fun z => h.run pins s σ H R I z) fun z => h'.run pins s σ H R I z⟩
section
variable {K : PySem.W.Frag} {as : List Addr} {F : Hp}
theorem wk_list {a : Addr} {vs : List V} {xs : List D} (h1 : F a = some (.lst vs)) (h2 : RpL K as F vs xs) : WkD K as F (Itl K a) xs := by
  have w := walk_list (K := K) (a := a) (xs := vs)
  rw [h2.length] at w
  refine w.mono (fun H h => SqL.of (h _ _ h1)) fun i H x H' hi _ y => ?_
  obtain ⟨d, e1, e2⟩ := h2.getV y.2
  exact .inl ⟨y.1, d, e1, e2⟩
theorem wk_tup {a : Addr} {vs : List V} {xs : List D} (h1 : SqT K F a vs) (h2 : RpL K as F vs xs) : WkD K as F (Itt K a) xs := by
  have w := walk_tup (K := K) (a := a) (xs := vs)
  rw [h2.length] at w
  refine w.mono (fun H h => sqT_le h h1) fun i H x H' hi _ y => ?_
  obtain ⟨d, e1, e2⟩ := h2.getV y.2
  exact .inl ⟨y.1, d, e1, e2⟩
theorem rngI_len (lo : Int) (n : Nat) : (rngI lo n).length = n := by unfold rngI; simp
theorem rngI_get (lo : Int) (n i : Nat) (h : i < n) : (rngI lo n)[i]? = some (.int (lo + i)) := by
  unfold rngI
  rw [List.getElem?_map, List.getElem?_range h] <;> rfl
theorem wk_range (lo : Int) (n : Nat) : WkD K as F (Itr lo n) (rngI lo n) := by
  have w := walk_range (lo := lo) (n := n)
  rw [WkD, rngI_len]
  refine w.mono (fun H h => True.intro) fun i H x H' hi _ y => ?_
  obtain ⟨y1, y2⟩ := y
  subst y2
  exact .inl ⟨y1, _, rngI_get lo n i hi, .int _⟩
theorem rngDn_len (hi : Int) (n : Nat) : (rngDn hi n).length = n := by unfold rngDn; rw [List.length_map, List.length_range]
theorem rngDn_get (hi : Int) (n i : Nat) (h : i < n) : (rngDn hi n)[i]? = some (.int (hi - (i : Int))) := by
  unfold rngDn
  rw [List.getElem?_map, List.getElem?_range h]
  rfl
theorem wk_down (hi : Int) (n : Nat) : WkD K as F (Itc hi (-1) n) (rngDn hi n) := by
  have w := walk_rangeC (lo := hi) (c := -1) (n := n)
  rw [WkD, rngDn_len]
  refine w.mono (fun H h => True.intro) fun i H x H' hi' _ y => ?_
  obtain ⟨y1, y2⟩ := y
  subst y2
  refine .inl ⟨y1, _, rngDn_get hi n i hi', ?_⟩
  have e : hi - (i : Int) = hi + (i : Int) * (-1) := by omega
  rw [e]
  exact .int _
theorem wk_str (z : Str) : WkD K as F (Its z) (z.cps.toList.map fun c => .str ⟨#[c]⟩) := by
  have w := walk_str (z := z)
  rw [WkD, List.length_map, Array.length_toList]
  refine w.mono (fun H h => True.intro) fun i H x H' hi _ y => ?_
  obtain ⟨y1, c, y2, y3⟩ := y
  subst y3
  refine .inl ⟨y1, _, ?_, .str _⟩
  rw [List.getElem?_map, Array.getElem?_toList, y2] <;> rfl
theorem wk_zip {a b : Addr} {vs us : List V} {xs ys : List D} (h1 : F a = some (.lst vs)) (h2 : RpL K as F vs xs) (k1 : F b = some (.lst us)) (k2 : RpL K as F us ys) : WkD K as F (Itz K a b) ((xs.zip ys).map fun p => .tup [p.1, p.2]) := by
  have w := walk_zip (K := K) (a := a) (b := b) (xs := vs) (ys := us) (n := (xs.zip ys).length) (by rw [List.length_zip, h2.length, k2.length])
  rw [WkD, List.length_map]
  refine w.mono (fun H h => ⟨SqL.of (h _ _ h1), SqL.of (h _ _ k1)⟩) fun i H x H' hi _ y => ?_
  obtain ⟨q, x1, y1, e1, e2, e3, e4, e5⟩ := y
  obtain ⟨d1, f1, g1⟩ := h2.getV e4
  obtain ⟨d2, f2, g2⟩ := k2.getV e5
  refine .inr ⟨q, x1, y1, d1, d2, e1, e2, e3, ?_, g1, g2⟩
  rw [List.getElem?_map, (List.getElem?_zip_eq_some (z := (d1, d2))).mpr ⟨f1, f2⟩] <;> rfl
theorem walk_zipT {a b : Addr} {xs ys : List V} {n : Nat} (hn : n = min xs.length ys.length) : Walk (RZ.ItzT K a b) n (fun H => SqT K H a xs ∧ SqT K H b ys) (YPair (fun i => xs[i]?) (fun i => ys[i]?)) := by
  have at1 : ∀ {j}, j < n → xs[j]? = some (xs[j]?.getD .non) ∧ ys[j]? = some (ys[j]?.getD .non) := fun {j} hj => by
    rw [List.getElem?_eq_getElem (show j < xs.length by omega), List.getElem?_eq_getElem (show j < ys.length by omega)]
    exact ⟨rfl, rfl⟩
  constructor
  · intro i _ hi ⟨s1, s2⟩
    exact ⟨xs, ys, _, _, s1, s2, (at1 hi).1, (at1 hi).2⟩
  · intro _ ⟨s1, s2⟩
    exact ⟨xs, ys, s1, s2, (Nat.le_total xs.length ys.length).imp (fun h => by omega) (fun h => by omega)⟩
  · rintro i H v H' _ ⟨s1, s2⟩ ⟨q', x, z, e1, e2, e3, e4, e5⟩
    exact ⟨q', x, z, e1, e2, e3, e4 xs s1, e5 ys s2⟩
theorem wk_zipT {a b : Addr} {vs us : List V} {xs ys : List D} (h1 : SqT K F a vs) (h2 : RpL K as F vs xs) (k1 : SqT K F b us) (k2 : RpL K as F us ys) : WkD K as F (RZ.ItzT K a b) ((xs.zip ys).map fun p => .tup [p.1, p.2]) := by
  have w := walk_zipT (K := K) (a := a) (b := b) (xs := vs) (ys := us) (n := (xs.zip ys).length) (by rw [List.length_zip, h2.length, k2.length])
  rw [WkD, List.length_map]
  refine w.mono (fun H h => ⟨sqT_le h h1, sqT_le h k1⟩) fun i H x H' hi _ y => ?_
  obtain ⟨q, x1, y1, e1, e2, e3, e4, e5⟩ := y
  obtain ⟨d1, f1, g1⟩ := h2.getV e4
  obtain ⟨d2, f2, g2⟩ := k2.getV e5
  refine .inr ⟨q, x1, y1, d1, d2, e1, e2, e3, ?_, g1, g2⟩
  rw [List.getElem?_map, (List.getElem?_zip_eq_some (z := (d1, d2))).mpr ⟨f1, f2⟩] <;> rfl
theorem enumD_get {xs : List D} {i : Nat} {d : D} (h : xs[i]? = some d) : (enumD xs)[i]? = some (.tup [.int (i : Nat), d]) := by
  unfold enumD
  have hi := (List.getElem?_eq_some_iff.mp h).1
  rw [List.getElem?_map, (List.getElem?_zip_eq_some (z := (i, d))).mpr ⟨List.getElem?_range hi, h⟩] <;> rfl
theorem enumD_len (xs : List D) : (enumD xs).length = xs.length := by unfold enumD; simp
theorem wk_enum {a : Addr} {vs : List V} {xs : List D} (h1 : F a = some (.lst vs)) (h2 : RpL K as F vs xs) : WkD K as F (Ite K a) (enumD xs) := by
  have w := walk_enum (K := K) (a := a) (xs := vs)
  rw [h2.length] at w
  rw [WkD, enumD_len]
  refine w.mono (fun H h => SqL.of (h _ _ h1)) fun i H x H' hi _ y => ?_
  obtain ⟨q, x1, y1, e1, e2, e3, e4, e5⟩ := y
  cases e4
  obtain ⟨d2, f2, g2⟩ := h2.getV e5
  exact .inr ⟨q, _, y1, .int (i : Nat), d2, e1, e2, e3, enumD_get f2, .int _, g2⟩
end
section
variable {X : Cx} {T : List (Addr × Str)} {E : XK} {Γ : Gam} {a b : Ex} {l r tg : Expr} {pos : Pos}
theorem sI_walk (ha : SE X T E Γ a l) : PI X tg l (tIi X.K T E Γ (.walk a)) := by
  refine ((pi_list ha).or ((pi_tup ha).or (pi_str ha))).imp fun σ H R q => ?_
  obtain ⟨ρ, S, as, F, ok, fr, q⟩ := q
  rw [evi] at q
  cases hp : a.isPk with
  | true => rw [if_pos hp] at q; exact q.elim
  | false =>
    rw [if_neg (by rw [hp]; decide)] at q
    -- which kind it is hangs on what a gives
    cases e : ev Γ a ρ S with
    | bad => rw [e] at q; exact q.elim
    | ex c S1 =>
      rw [e] at q
      refine .inl ⟨ρ, S, as, F, ok, fr, ?_⟩
      rw [e]
      exact q
    | ok d S1 =>
      have q2 := q
      rw [e] at q2
      replace q2 : PostR X.K T E as F H (ofO (walkD d) S1) _ := q2
      obtain ⟨xs, ew, q3⟩ := q2.ofO
      cases d with
      | lst ds =>
        cases ew
        refine .inl ⟨ρ, S, as, F, ok, fr, ?_⟩
        rw [e, hp]
        intro bs G J st ok1 v hv
        have hv' := hv.rp
        cases hv' with
        | lst h1 h2 => exact ⟨_, rfl, ⟨_, SqL.of (ok1.le _ _ h1)⟩, q3 bs G J st ok1 _ (wk_list h1 h2)⟩
      | tup ds =>
        cases ew
        refine .inr (.inl ⟨ρ, S, as, F, ok, fr, ?_⟩)
        rw [e, hp]
        intro bs G J st ok1 v hv
        have hv' := hv.rp
        cases hv' with
        | tup h1 h2 => exact ⟨_, rfl, ⟨_, sqT_le ok1.le h1⟩, q3 bs G J st ok1 _ (wk_tup h1 h2)⟩
      | str z =>
        cases ew
        refine .inr (.inr ⟨ρ, S, as, F, ok, fr, ?_⟩)
        rw [e, hp]
        intro bs G J st ok1 v hv
        cases hv.rp
        exact ⟨z, rfl, q3 bs G J st ok1 _ (wk_str z)⟩
      | _ => cases ew
theorem small_of {i : Int} (h : small62 i = true) : -(2 ^ 62) ≤ i ∧ i < 2 ^ 62 := by
  unfold small62 at h
  simp only [decide_eq_true_eq, Bool.and_eq_true] at h
  omega
theorem sI_rng1 {p : Pos} (hl : a.len = 1) (hg : Gl X "range") (hm : X.mg "range" = none) (ha : SA X T E Γ false a [l]) (hs : starEach [l] X.env = [(false, eval l X.env)]) : PI X tg (.Call (.Name "range" p) [l] [] pos) (tIi X.K T E Γ (.rng a)) := by
  refine (pi_range1 hg hm ha hs).imp fun σ H R q => ?_
  obtain ⟨ρ, S, as, F, ok, fr, q⟩ := q
  rw [evi] at q
  refine args_len ok fr q fun vs ds S1 bs G J hn st ok1 hr q1 => ?_
  obtain ⟨xs, e, q2⟩ := q1.ofO
  unfold rngD at e
  split at e
  · rename_i j
    split at e <;> cases e
    rename_i hj
    cases hr with
    | cons h1 h2 =>
      cases h1; cases h2
      obtain ⟨b1, b2⟩ := small_of hj
      exact ⟨j, rfl, b1, b2, q2.here ok1 _ (wk_range 0 j.toNat)⟩
  · rw [hl] at hn
    cases hn
  · rw [hl] at hn
    cases hn
  · cases e
theorem sI_rng2 {p : Pos} (hl : a.len = 2) (hg : Gl X "range") (hm : X.mg "range" = none) (ha : SA X T E Γ false a [l, r]) (hs : starEach [l, r] X.env = [(false, eval l X.env), (false, eval r X.env)]) (hs2 : starEach [r] X.env = [(false, eval r X.env)]) : PI X tg (.Call (.Name "range" p) [l, r] [] pos) (tIi X.K T E Γ (.rng a)) := by
  refine (pi_range2 hg hm ha hs hs2).imp fun σ H R q => ?_
  obtain ⟨ρ, S, as, F, ok, fr, q⟩ := q
  rw [evi] at q
  refine args_len ok fr q fun vs ds S1 bs G J hn st ok1 hr q1 => ?_
  obtain ⟨xs, e, q2⟩ := q1.ofO
  unfold rngD at e
  split at e
  · rw [hl] at hn
    cases hn
  · rename_i i j
    split at e <;> cases e
    rename_i hj
    rw [Bool.and_eq_true] at hj
    cases hr with
    | cons h1 h2 =>
    cases h2 with
    | cons h2 h3 =>
      cases h1; cases h2; cases h3
      obtain ⟨b1, b2⟩ := small_of hj.1
      obtain ⟨b3, b4⟩ := small_of hj.2
      exact ⟨i, j, rfl, ⟨b1, b2, b3, b4⟩, q2.here ok1 _ (wk_range i (j - i).toNat)⟩
  · rw [hl] at hn
    cases hn
  · cases e
theorem sI_rng3 {p : Pos} {m : Expr} (hl : a.len = 3) (hg : Gl X "range") (hm : X.mg "range" = none) (ha : SA X T E Γ false a [l, m, r]) (hs : starEach [l, m, r] X.env = (false, eval l X.env) :: starEach [m, r] X.env) (hp : (backTo pos (starEach [m, r] X.env)).any (·.1) = false) : PI X tg (.Call (.Name "range" p) [l, m, r] [] pos) (tIi X.K T E Γ (.rng a)) := by
  refine (pi_range3 hg hm ha hs hp).imp fun σ H R q => ?_
  obtain ⟨ρ, S, as, F, ok, fr, q⟩ := q
  rw [evi] at q
  refine args_len ok fr q fun vs ds S1 bs G J hn st ok1 hr q1 => ?_
  obtain ⟨xs, e, q2⟩ := q1.ofO
  unfold rngD at e
  split at e
  · rw [hl] at hn
    cases hn
  · rw [hl] at hn
    cases hn
  · rename_i i j c
    split at e <;> cases e
    rename_i hj
    simp only [Bool.and_eq_true, decide_eq_true_eq] at hj
    obtain ⟨⟨hi, hj⟩, rfl⟩ := hj
    cases hr with
    | cons h1 h2 =>
    cases h2 with
    | cons h2 h3 =>
    cases h3 with
    | cons h3 h4 =>
      cases h1; cases h2; cases h3; cases h4
      obtain ⟨b1, b2⟩ := small_of hi
      obtain ⟨b3, b4⟩ := small_of hj
      exact ⟨i, j, -1, (i - j).toNat, rfl, RgC.neg b1 b2 b3 b4, q2.here ok1 _ (wk_down i (i - j).toNat)⟩
  · cases e
theorem sI_zip {p tpos : Pos} {elts : List Expr} {kk : Nat} (hg : Gl X "zip") (hm : X.mg "zip" = none) (ha : SE X T E Γ a l) (hb : SE X T E Γ b r) (hs : starEach [l, r] X.env = (false, eval l X.env) :: starEach [r] X.env) (hs2 : starEach [r] X.env = [(false, eval r X.env)]) :
    PI X (.Tuple elts kk tpos) (.Call (.Name "zip" p) [l, r] [] pos) (tIi X.K T E Γ (.zip a b)) := by
  have hA : PA X [l, r] (tCons (tI X.K T E Γ a) (tCons (tI X.K T E Γ b) tNil)) := pa_cons ha (pa_cons hb pa_nil hs2) hs
  refine (RZ.pi_zipA hg hm hA hs (by rw [hs2]; rfl)).imp fun σ H R q => ?_
  obtain ⟨ρ, S, as, F, ok, fr, q⟩ := q
  rw [evi] at q
  split at q
  · exact q.elim
  · rename_i hp
    have hp' : a.isPk = false ∧ b.isPk = false := by simpa using hp
    show tI X.K T E Γ a σ H fun x H1 => tI X.K T E Γ b σ H1 fun y H2 => _
    refine two ok fr q fun x y vx vy S1 bs G J st ok1 hx hy q1 => ?_
    rw [hp'.1] at hx
    rw [hp'.2] at hy
    have hx' := hx.rp
    have hy' := hy.rp
    obtain ⟨xs, e, q2⟩ := q1.ofO
    unfold zipD at e
    split at e
    · cases e
      cases hx' with
      | lst h1 h2 =>
      cases hy' with
      | lst k1 k2 =>
        exact ⟨_, _, _, _, rfl, .inl ⟨SqL.of (ok1.le _ _ h1), SqL.of (ok1.le _ _ k1), q2.here ok1 _ (wk_zip h1 h2 k1 k2)⟩⟩
    · cases e
      cases hx' with
      | tup h1 h2 =>
      cases hy' with
      | tup k1 k2 =>
        exact ⟨_, _, _, _, rfl, .inr ⟨sqT_le ok1.le h1, sqT_le ok1.le k1, q2.here ok1 _ (wk_zipT h1 h2 k1 k2)⟩⟩
    · cases e
end
end LP
namespace LP
open PySem PySem.Spec
open PyProof.Rows L2
/-! ### comprehensions -/
section
variable {K : PySem.W.Frag} {T : List (Addr × Str)} {E E' : XK} {as bs : List Addr} {F G H J : Hp} {α β : Type}
theorem PostR.calmed {r : Re α} {f : α → Sto → Re β} {k : β → Sto → List Addr → Hp → Hp → Prop} (h : PostR K T E as F H (r.calm.bind f) k) : PostR K T E' bs G J r fun a S _ _ _ => PostR K T E as F H (f a S) k := by
  cases r with
  | ok a S => exact fun _ _ _ _ _ => h
  | ex c S => exact h.elim
  | bad => exact h.elim
theorem wipe_eq (σ : L2.St) (vs : List Nat) (i : Nat) : (L2.wipe σ vs)[i]? = if i ∈ vs then (σ[i]?).map fun _ => none else σ[i]? := by
  induction vs with
  | nil => simp [L2.wipe]
  | cons v vs ih =>
    unfold L2.wipe
    rw [List.getElem?_set]
    by_cases hv : v = i
    · subst hv
      rw [if_pos rfl]
      have hl : (L2.wipe σ vs).length = σ.length := L2.wipe_length σ vs
      rw [hl, if_pos List.mem_cons_self]
      split
      · rename_i h
        rw [List.getElem?_eq_getElem h] <;> rfl
      · rename_i h
        rw [List.getElem?_eq_none (by omega)] <;> rfl
    · rw [if_neg hv, ih]
      have : (i ∈ v :: vs) ↔ i ∈ vs := by simp [Ne.symm hv]
      simp only [this]
theorem wipeF_eq (ρ : Fr) (vs : List Nat) (i : Nat) : (wipeF ρ vs)[i]? = if i ∈ vs then (ρ[i]?).map fun _ => none else ρ[i]? := by
  have hlen : ∀ vs : List Nat, (wipeF ρ vs).length = ρ.length := by
    intro vs
    induction vs with
    | nil => rfl
    | cons v vs ih => unfold wipeF; rw [List.length_set, ih]
  induction vs with
  | nil => simp [wipeF]
  | cons v vs ih =>
    unfold wipeF
    rw [List.getElem?_set]
    by_cases hv : v = i
    · subst hv
      rw [if_pos rfl, hlen, if_pos List.mem_cons_self]
      split
      · rename_i h
        rw [List.getElem?_eq_getElem h] <;> rfl
      · rename_i h
        rw [List.getElem?_eq_none (by omega)] <;> rfl
    · rw [if_neg hv, ih]
      have : (i ∈ v :: vs) ↔ i ∈ vs := by simp [Ne.symm hv]
      simp only [this]
theorem wipeF_len (ρ : Fr) : ∀ vs : List Nat, (wipeF ρ vs).length = ρ.length
  | [] => rfl
  | v :: vs => by unfold wipeF; rw [List.length_set, wipeF_len ρ vs]
theorem FrOk.wipe {σ : L2.St} {ρ : Fr} (fr : FrOk K as F H σ ρ) (vs : List Nat) : FrOk K as F H (L2.wipe σ vs) (wipeF ρ vs) := by
  have get : ∀ (i : Nat) s, (wipeF ρ vs)[i]? = some (some s) → i ∉ vs ∧ ρ[i]? = some (some s) := fun i s e => by
    rw [wipeF_eq] at e
    split at e
    · cases q : ρ[i]? with
      | none => simp [q] at e
      | some o => rw [q] at e; cases e
    · exact ⟨by assumption, e⟩
  refine ⟨by rw [L2.wipe_length, wipeF_len, fr.len], fun i s e => ?_, fun i j xs ys e1 e2 e3 => ?_⟩
  · obtain ⟨h1, h2⟩ := get i s e
    obtain ⟨v, h3, h4⟩ := fr.at_ i s h2
    exact ⟨v, by rw [wipe_eq, if_neg h1]; exact h3, h4⟩
  · obtain ⟨h1, h2⟩ := get i _ e1
    obtain ⟨h3, h4⟩ := get j _ e2
    rw [wipe_eq, if_neg h1, wipe_eq, if_neg h3] at e3
    exact fr.one i j xs ys h2 h4 e3
theorem wipe_same {σ σ' : L2.St} {vs : List Nat} (hl : σ'.length = σ.length) (h : ∀ i, i ∉ vs → σ'[i]? = (L2.wipe σ vs)[i]?) : L2.wipe σ' vs = L2.wipe σ vs := by
  refine List.ext_getElem? fun i => ?_
  rw [wipe_eq, wipe_eq]
  split
  · cases q : σ[i]? with
    | none =>
      have : σ.length ≤ i := List.getElem?_eq_none_iff.mp q
      rw [List.getElem?_eq_none (by omega)] <;> rfl
    | some o =>
      obtain ⟨hi, _⟩ := List.getElem?_eq_some_iff.mp q
      rw [List.getElem?_eq_getElem (by omega)] <;> rfl
  · rename_i hi
    rw [h i hi, wipe_eq, if_neg hi]
theorem bindT_len : ∀ (t : Tg), (∀ (d : D) (ρ ρ' : Fr), bindT t d ρ = some ρ' → ρ'.length = ρ.length) ∧ (∀ (ds : List D) (ρ ρ' : Fr), bindTs t ds ρ = some ρ' → ρ'.length = ρ.length) := by
  intro t
  induction t with
  | name i =>
    refine ⟨fun d ρ ρ' e => ?_, fun ds ρ ρ' e => ?_⟩
    · rw [bindT] at e
      split at e <;> cases e
      simp
    · simp [bindTs] at e
  | tnil =>
    have h2 : ∀ (ds : List D) (ρ ρ' : Fr), bindTs .tnil ds ρ = some ρ' → ρ'.length = ρ.length := fun ds ρ ρ' e => by
      cases ds with
      | nil => rw [bindTs] at e; cases e; rfl
      | cons => simp [bindTs] at e
    refine ⟨fun d ρ ρ' e => ?_, h2⟩
    cases d with
    | tup xs => rw [bindT] at e; exact h2 xs ρ ρ' e
    | _ => simp [bindT] at e
  | tcons a r iha ihr =>
    have h2 : ∀ (ds : List D) (ρ ρ' : Fr), bindTs (.tcons a r) ds ρ = some ρ' → ρ'.length = ρ.length := fun ds ρ ρ' e => by
      cases ds with
      | nil => simp [bindTs] at e
      | cons d ds =>
        rw [bindTs] at e
        cases q : bindT a d ρ with
        | none => simp [q] at e
        | some ρ1 =>
          rw [q] at e
          rw [ihr.2 ds ρ1 ρ' e, iha.1 d ρ ρ1 q]
    refine ⟨fun d ρ ρ' e => ?_, h2⟩
    cases d with
    | tup xs => rw [bindT] at e; exact h2 xs ρ ρ' e
    | _ => simp [bindT] at e
end
section
variable {X : Cx} {T : List (Addr × Str)} {E : XK} {Γ : Gam} {a b : Ex} {l r : Expr} {pos : Pos}
def tIc (K : PySem.W.Frag) (T : List (Addr × Str)) (E : XK) (Γ : Gam) (x : Ex) : TT := fun σ H Q => ∃ ρ S as F, Ok K T as S F H ∧ FrOk K as F H σ ρ ∧ PostR K T E as F H (evc Γ x ρ S) fun b _ _ _ J => Q b J
theorem _root_.L2.PTs.imp {X : Cx} {e : List Expr} {t t' : TT} (h : PTs X e t) (i : ∀ σ H Q, t' σ H Q → t σ H Q) : PTs X e t' := ⟨fun pins s σ H Q I q => h.run pins s σ H Q I (i σ H Q q)⟩
theorem sC_nil : PTs X [] (tIc X.K T E Γ .nop) := pts_nil.imp fun σ H Q q => by
  obtain ⟨ρ, S, as, F, ok, fr, q⟩ := q
  rw [evc] at q
  exact q.here ok
theorem sC_one (h : ST X T E Γ a l) : PTs X [l] (tIc X.K T E Γ (.part a)) := (pts_one h).imp fun σ H Q q => by
  obtain ⟨ρ, S, as, F, ok, fr, q⟩ := q
  rw [evc] at q
  exact ⟨ρ, S, as, F, ok, fr, q⟩
theorem sE_comp {own : List (Str × Nat)} {elt it cnd : Ex} {tg : Tg} {eE tgE itE : Expr} {ifs : List Expr} {scope : Scope} (hc : X.calm = true) (hN : X.N.Nodup) (hi : PI X tgE itE (tIi X.K T E Γ it)) (bk : BlkOk X.N X.env.scope scope own) (hsl : ∀ i ∈ tg.slots, i ∈ own.map (·.2))
    (hg : ∀ (s : Shared) (H : Hp) (C : Addr) (cl : List (Str × Addr)) (fp : List Addr), PG (X.blk s H scope (compEnvC scope cl C X.env) fp) tgE (gI X.K tg))
    (ht : ∀ (s : Shared) (H : Hp) (C : Addr) (cl : List (Str × Addr)) (fp : List Addr), PTs (X.blk s H scope (compEnvC scope cl C X.env) fp) ifs (tIc X.K T E0 Γ cnd))
    (he : ∀ (s : Shared) (H : Hp) (C : Addr) (cl : List (Str × Addr)) (fp : List Addr), PE (X.blk s H scope (compEnvC scope cl C X.env) fp) eE (tI X.K T E0 Γ elt))
    {σ : L2.St} {H : Hp} {Q : VK} (q : tI X.K T E Γ (.comp own elt tg it cnd) σ H Q) :
    tLc (tIi X.K T E Γ it) (gI X.K tg) (tIc X.K T E0 Γ cnd) (tI X.K T E0 Γ elt) (own.map (·.2)) σ H Q := by
  obtain ⟨ρ, S, as, F, ok, fr, q⟩ := q
  rw [ev] at q
  refine ⟨ρ, S, as, F, ok, fr, q.bind.mono fun xs S1 as1 F1 H1 st1 ok1 q1 J wk D hD => ?_⟩
  split at q1
  · exact q1.elim
  rename_i hcond
  have hcond' : elt.isPk = false ∧ xs.length ≤ lim := by simpa using hcond
  have fr1 := fr.stp st1
  generalize hvs : own.map (·.2) = vs at *
  generalize hbnd : (fun d => bindT tg d (wipeF ρ vs)) = bnd at q1
  obtain ⟨ok2, st2⟩ := ok1.loose (o := .lst []) hD
  have hDas : D ∉ as1 := fun hm => by
    obtain ⟨o, e⟩ := ok1.there hm
    rw [hD] at e; cases e
  refine lc_it wk (fun i H' => ∃ S bs G ys us, Stp as1 F1 H1 bs G H' ∧ Ok X.K T bs S G H' ∧ H' D = some (.lst us) ∧ G D = none ∧ D ∉ bs ∧ RpL X.K bs G us ys ∧ ys.length ≤ i ∧
      PostR X.K T E as1 F1 H1 ((turns bnd (fun ρ S => evc Γ cnd ρ S) (fun ρ S => ev Γ elt ρ S) (xs.drop i) S).bind fun zs S => .ok (.lst (ys ++ zs)) S) fun d _ bs G J => ∀ v, Vw false X.K bs G J v d → Q v J)
    ⟨S1, as1, F1, [], [], st2, ok2, upd_same, ok1.noF hD, hDas, .nil, Nat.le_refl _, by rw [List.drop_zero]; exact q1⟩ (fun i H' _ p => ?_) (fun i x H' H2 hlt p y => ?_) (fun H' p => ?_)
  · obtain ⟨S2, bs, G, ys, us, st, ok', _⟩ := p
    exact st.le.trans ok'.le
  · obtain ⟨S2, bs, G, ys, us, st, ok', hL, hG, hb, hr, hlen, hp⟩ := p
    have hx : xs[i]? = some xs[i] := by simp [hlt]
    have hdrop : xs.drop i = xs[i] :: xs.drop (i + 1) := List.drop_eq_getElem_cons hlt
    rw [hdrop] at hp
    -- the item's datum, told by the frozen part
    have item : ∃ G2, Stp bs G H' bs G2 H2 ∧ Ok X.K T bs S2 G2 H2 ∧ Rp X.K bs G2 x xs[i] := by
      rcases y with ⟨rfl, d, e1, e2⟩ | ⟨q', v1, v2, d1, d2, rfl, hq, rfl, e1, e2, e3⟩
      · rw [hx] at e1
        cases e1
        exact ⟨G, Stp.refl _ _ _, ok', e2.stp st⟩
      · rw [hx] at e1
        have e1 := Option.some.inj e1
        obtain ⟨ok3, st3⟩ := ok'.frozen (p := q') (o := .tup [v1, v2]) hq (fun _ z => nomatch z)
        rw [e1]
        exact ⟨_, st3, ok3, .tup (SqT.of upd_same) (.cons ((e2.stp st).stp st3) (.cons ((e3.stp st).stp st3) .nil))⟩
    obtain ⟨G2, st3, ok3, hrp⟩ := item
    have st4 := st.trans st3
    have hL2 : H2 D = some (.lst us) := st3.keep D _ hL hb (fun _ z => nomatch z)
    have hG2 : G2 D = none := by
      cases e : G2 D with
      | none => rfl
      | some o =>
        rcases st3.new D o e with z | z
        · rw [hG] at z; cases z
        · exact (z.no hL (fun _ z => nomatch z)).elim
    rw [turns] at hp
    cases eb : bnd xs[i] with
    | none => rw [eb] at hp; exact hp.elim
    | some ρ1 =>
      rw [eb] at hp
      dsimp only at hp
      have frw : FrOk X.K bs G2 H2 (L2.wipe σ vs) (wipeF ρ vs) := (fr1.stp st4).wipe vs
      refine ⟨bs, G2, xs[i], wipeF ρ vs, ρ1, ok3.le, frw, hrp, by rw [← hbnd] at eb; exact eb, fun σ2 fr2 hk => ⟨?_, ?_⟩⟩
      · refine wipe_same ?_ fun j hj => hk j fun z => hj (hsl j z)
        rw [fr2.len, (bindT_len tg).1 _ _ _ (by rw [← hbnd] at eb; exact eb), wipeF_len, fr1.len]
      · have hp1 : PostR X.K T E as1 F1 H1 ((evc Γ cnd ρ1 S2).calm.bind fun t S => (if t = true then (ev Γ elt ρ1 S).calm.bind fun y S => (turns bnd (fun ρ S => evc Γ cnd ρ S) (fun ρ S => ev Γ elt ρ S) (xs.drop (i + 1)) S).bind fun ys S => .ok (y :: ys) S else turns bnd (fun ρ S => evc Γ cnd ρ S) (fun ρ S => ev Γ elt ρ S) (xs.drop (i + 1)) S).bind fun zs S => .ok (.lst (ys ++ zs)) S) fun d _ bs G J => ∀ v, Vw false X.K bs G J v d → Q v J := by
          cases e : evc Γ cnd ρ1 S2 with
          | ok t S3 => rw [e] at hp; exact hp
          | ex c S3 => rw [e] at hp; exact hp.elim
          | bad => rw [e] at hp; exact hp.elim
        refine ⟨ρ1, S2, bs, G2, ok3, fr2, (hp1.calmed (E' := E0) (bs := bs) (G := G2) (J := H2)).mono fun t S3 cs W L st5 ok5 hp2 => ?_⟩
        have hL3 : L D = some (.lst us) := st5.keep D _ hL2 hb (fun _ z => nomatch z)
        have hG3 : W D = none := by
          cases e : W D with
          | none => rfl
          | some o =>
            rcases st5.new D o e with z | z
            · rw [hG2] at z; cases z
            · exact (z.no hL2 (fun _ z => nomatch z)).elim
        have hb3 : D ∉ cs := fun hm => by
          obtain ⟨more, rfl, hn⟩ := st5.pre
          rcases List.mem_append.mp hm with z | z
          · exact hb z
          · exact (hn D z).no hL2 (fun _ z => nomatch z)
        cases t with
        | false =>
          rw [if_neg (by decide)] at hp2
          dsimp only
          rw [if_neg (by decide)]
          exact ⟨S3, cs, W, ys, us, st4.trans st5, ok5, hL3, hG3, hb3, (hr.stp st3).stp st5, by omega, hp2⟩
        | true =>
          rw [if_pos rfl] at hp2
          dsimp only
          rw [if_pos rfl]
          have hp3 : PostR X.K T E as1 F1 H1 ((ev Γ elt ρ1 S3).calm.bind fun y S => (turns bnd (fun ρ S => evc Γ cnd ρ S) (fun ρ S => ev Γ elt ρ S) (xs.drop (i + 1)) S).bind fun zs S => .ok (.lst ((ys ++ [y]) ++ zs)) S) fun d _ bs G J => ∀ v, Vw false X.K bs G J v d → Q v J := by
            cases e : ev Γ elt ρ1 S3 with
            | ok y S4 =>
              rw [e] at hp2
              show PostR X.K T E as1 F1 H1 ((turns bnd (fun ρ S => evc Γ cnd ρ S) (fun ρ S => ev Γ elt ρ S) (xs.drop (i + 1)) S4).bind fun zs S => Re.ok (LP.D.lst ((ys ++ [y]) ++ zs)) S) (fun d _ bs G J => ∀ v, Vw false X.K bs G J v d → Q v J)
              replace hp2 : PostR X.K T E as1 F1 H1 (((turns bnd (fun ρ S => evc Γ cnd ρ S) (fun ρ S => ev Γ elt ρ S) (xs.drop (i + 1)) S4).bind fun ys S => .ok (y :: ys) S).bind fun zs S => .ok (.lst (ys ++ zs)) S) (fun d _ bs G J => ∀ v, Vw false X.K bs G J v d → Q v J) := hp2
              cases e2 : turns bnd (fun ρ S => evc Γ cnd ρ S) (fun ρ S => ev Γ elt ρ S) (xs.drop (i + 1)) S4 with
              | ok zs S5 =>
                rw [e2] at hp2
                replace hp2 : PostR X.K T E as1 F1 H1 (.ok (.lst (ys ++ y :: zs)) S5) (fun d _ bs G J => ∀ v, Vw false X.K bs G J v d → Q v J) := hp2
                show PostR X.K T E as1 F1 H1 (Re.ok (LP.D.lst ((ys ++ [y]) ++ zs)) S5) (fun d _ bs G J => ∀ v, Vw false X.K bs G J v d → Q v J)
                rw [List.append_assoc]
                exact hp2
              | ex c S5 => rw [e2] at hp2; exact hp2
              | bad => rw [e2] at hp2; exact hp2
            | ex c S4 => rw [e] at hp2; exact hp2.elim
            | bad => rw [e] at hp2; exact hp2.elim
          refine ⟨ρ1, S3, cs, W, ok5, fr2.stp st5, (hp3.calmed (E' := E0) (bs := cs) (G := W) (J := L)).mono fun y S4 ds W4 L4 st6 ok6 hp4 v hv => ?_⟩
          rw [hcond'.1] at hv
          have hL4 : L4 D = some (.lst us) := st6.keep D _ hL3 hb3 (fun _ z => nomatch z)
          have hG4 : W4 D = none := by
            cases e : W4 D with
            | none => rfl
            | some o =>
              rcases st6.new D o e with z | z
              · rw [hG3] at z; cases z
              · exact (z.no hL3 (fun _ z => nomatch z)).elim
          have hb4 : D ∉ ds := fun hm => by
            obtain ⟨more, rfl, hn⟩ := st6.pre
            rcases List.mem_append.mp hm with z | z
            · exact hb3 z
            · exact (hn D z).no hL3 (fun _ z => nomatch z)
          have hus : us.length ≤ i := by rw [hr.length]; exact hlen
          refine ⟨us, hL4, Nat.lt_of_lt_of_le (by omega : us.length < lim) lim_line, S4, ds, W4, ys ++ [y], us ++ [v], ?_, ?_, upd_same, hG4, hb4, (((hr.stp st3).stp st5).stp st6).append (.cons hv.rp .nil), by simp; omega, hp4⟩
          · have s7 := (st4.trans st5).trans st6
            refine ⟨s7.le, s7.new, fun a o e n t => ?_, s7.pre, fun a n => ?_⟩
            · rw [upd_ne (ne_of_none e hD)]
              exact s7.keep a o e n t
            · by_cases z : a = D
              · subst z; exact Nt.none hD
              · refine s7.live a fun o e => n o ?_
                rw [upd_ne z]; exact e
          · have hup : ∀ a o, a ≠ D → L4 a = some o → upd L4 D (.lst (us ++ [v])) a = some o := fun a o n e => by rw [upd_ne n]; exact e
            refine ⟨fun a o e => hup a o (fun z => by rw [z, hG4] at e; cases e) (ok6.le a o e), ok6.len, ok6.nd, ok6.nof, fun k a so e1 e2 => ?_, fun p hp' => ?_, ok6.ntb⟩
            · have na : a ≠ D := fun z => hb4 (by rw [← z]; exact List.mem_of_getElem? e1)
              have := ok6.cel k a so e1 e2
              cases so with
              | cell xs => obtain ⟨vs', g1, g2⟩ := this; exact ⟨vs', hup a _ na g1, g2⟩
              | ins c fs => exact this
              | dead => obtain ⟨o, g, g2⟩ := this; exact ⟨o, hup a o na g, g2⟩
            · obtain ⟨ps, g1, g2, g3⟩ := ok6.tab p hp'
              have n1 : p.1 ≠ D := fun z => by rw [z, hL4] at g1; cases g1
              refine ⟨ps, hup _ _ n1 g1, g2, fun pos cv hcv => ?_⟩
              obtain ⟨c, e1, e2⟩ := g3 pos cv hcv
              exact ⟨c, e1, hup _ _ (fun z => by rw [z, hL4] at e2; cases e2) e2⟩
  · obtain ⟨S2, bs, G, ys, us, st, ok', hL, hG, hb, hr, hlen, hp⟩ := p
    rw [List.drop_of_length_le (Nat.le_refl _)] at hp
    replace hp : PostR X.K T E as1 F1 H1 (.ok (.lst (ys ++ [])) S2) (fun d _ bs G J => ∀ v, Vw false X.K bs G J v d → Q v J) := hp
    rw [List.append_nil] at hp
    have leG : Le G (upd G D (.lst us)) := le_upd hG
    refine hp bs (upd G D (.lst us)) H' ⟨st.le.trans leG, fun a o e => ?_, st.keep, st.pre, st.live⟩ ⟨fun a o e => ?_, ok'.len, ok'.nd, fun a ha => ?_, fun k a so e1 e2 => (ok'.cel k a so e1 e2).mono leG (Le.refl _), ok'.tab, fun a ps e => ?_⟩ _ (Vw.of (.lst upd_same (hr.up (Pre.refl _) leG)))
    · by_cases z : a = D
      · subst z; exact .inr (Nt.none hD)
      · rw [upd_ne z] at e; exact st.new a o e
    · by_cases z : a = D
      · subst z; rw [upd_same] at e; cases e; exact hL
      · rw [upd_ne z] at e; exact ok'.le a o e
    · rw [upd_ne (fun z => hb (by rw [← z]; exact ha))]; exact ok'.nof a ha
    · by_cases z : a = D
      · subst z; rw [upd_same] at e; cases e
      · rw [upd_ne z] at e; exact ok'.ntb a ps e
end
end LP
namespace PySem
open Sem (wp)
open AutoSeq1
/-- enumerate(v): v told by the iterator that it begins -/
theorem lp_enumNew {v : Value} {o : Obj} {Hv : Heap → Prop} (B : Begins v o Hv) : Meets (Builtin.«enumerate.__new__» ⟨[.type "enumerate", v], []⟩) (fun _ R st => Hv st.heap ∧
    R (.ok (.ret (.ref (st.heap.push o).objs.size))) { st with heap := (st.heap.push o).push { cls := .type "enumerate", data := .fields #[.none, .bool false, .ref st.heap.objs.size, rawInt 0, .none, .none] } }) := by
  refine .of_wp fun prog w A R st ⟨hv, fin⟩ => ?_
  obtain ⟨hp, g, d, tk, os⟩ := st
  have sub := sub_enumerate
  have go : ∀ {A2 : Around} {Q2 : Value → Shared → Prop} {E2 : Value → Shared → Prop}, Q2 (.ref hp.objs.size) ⟨hp.push o, g, d, tk, os⟩ → wpAny (model prog w) A2 (pyIter v) Q2 E2 ⟨hp, g, d, tk, os⟩ := fun {A2 Q2 E2} q => B.iter prog w A2 E2 _ Q2 hv q
  wp_walk
  refine wpAny_stack_any fun _ => wpAny_pure ?_
  split
  · rename_i c _ _ _ _ _
    cases (c == Value.type "enumerate") <;> (wp_walk using go; exact ⟨_, rfl, fin⟩)
  · wp_walk using go
    exact ⟨_, rfl, fin⟩
/-- the two cells of enumerate(v) laid upon a heap -/
def enumCell (at_ : Addr) : Obj := { cls := .type "enumerate", data := .fields #[.none, .bool false, .ref at_, rawInt 0, .none, .none] }
def enumHeap (h : Heap) (o : Obj) : Heap := (h.push o).push (enumCell h.objs.size)
section
variable {h : Heap} {o : Obj}
theorem enumHeap_len : (enumHeap h o).objs.size = h.objs.size + 2 := by
  unfold enumHeap
  simp only [Heap.size_push]
theorem enumHeap_old {b : Addr} {u : Obj} (e : h.get? b = some u) : (enumHeap h o).get? b = some u := Heap.get?_push_of_some _ (Heap.get?_push_of_some _ e)
theorem enumHeap_it (f : o.isFreed = false) : (enumHeap h o).get? h.objs.size = some o := Heap.get?_push_of_some _ (Heap.get?_push_size _ f)
theorem enumHeap_en : IsEnum (enumHeap h o) (h.objs.size + 1) h.objs.size ((0 : Nat) : Int) .none := by
  have key : (enumHeap h o).get? (h.push o).objs.size = some (enumCell h.objs.size) := Heap.get?_push_size _ rfl
  rwa [Heap.size_push] at key
end
theorem lp_enumCall {prog : Program} {w : World} {A : Around} {E : Value → Shared → Prop} {st : Shared} {v : Value} {o : Obj} {Hv : Heap → Prop} {Q : Value → Shared → Prop} (B : Begins v o Hv) (hv : Hv st.heap)
    (fin : Q (.ref (st.heap.objs.size + 1)) { st with heap := enumHeap st.heap o }) : wpAny (model prog w) A (call (.type "enumerate") [v]) Q E st := by
  have en := enumHeap_en (h := st.heap) (o := o)
  refine callType_new F.called_enumerate (by decide) (F.typeCall_enumerate_1 _) (F.newCall_enumerate_1 _) (fun x => F.args_object_init_2 x _) F.entry_enumerate_new (lp_enumNew B) ⟨hv, ?_⟩
  show (∃ _, _) ∧ _
  rw [Heap.size_push]
  exact ⟨⟨_, en, rfl⟩, fin⟩
end PySem
namespace LP
open PySem PySem.Spec
open PyProof.Rows L2
/-- the tuple at a, each item in a new pair -/
def IteT (K : PySem.W.Frag) (a : Addr) : It :=
  ⟨fun i H => ∃ (xs : List V) (x : V), SqT K H a xs ∧ xs[i]? = some x, fun i H v H' => ∃ q x, v = .ref q ∧ H q = none ∧ H' = upd H q (.tup [.int (i : Nat), x]) ∧ ∀ xs, SqT K H a xs → xs[i]? = some x, fun i H => ∃ xs : List V, SqT K H a xs ∧ xs.length = i⟩
/-- how enumerate over the tuple at a stands before its i-th item -/
structure EnT (e it a : Addr) (i : Nat) (h : Heap) : Prop where
  en : ∃ last, IsEnum h e it ((i : Nat) : Int) last
  ti : h.IsTupleIter it a i
  ei : e ≠ it
  ae : a ≠ e
  ai : a ≠ it
theorem two_cases {e it b : Addr} (h : b ∈ [e, it]) : b = e ∨ b = it := by simpa using h
theorem EnT.below {e it a : Addr} {i : Nat} {h : Heap} (t : EnT e it a i h) : ∀ b ∈ [e, it], b < h.objs.size := fun b hb => by
  obtain ⟨last, q⟩ := t.en
  obtain ⟨u, qu, _⟩ := t.ti
  exact (two_cases hb).elim (fun z => z ▸ Heap.lt_size q) fun z => z ▸ Heap.lt_size qu
theorem EnT.moved {e it a : Addr} {i : Nat} {h h2 : Heap} (t : EnT e it a i h) (k : ∀ b ∈ [e, it], ∀ u, h.get? b = some u → h2.get? b = some u) : EnT e it a i h2 := by
  obtain ⟨last, q⟩ := t.en
  exact { en := ⟨last, k e List.mem_cons_self _ q⟩, ti := t.ti.at (k it (by simp)), ei := t.ei, ae := t.ae, ai := t.ai }
/-- a new pair in the heap -/
theorem pairOk {P : Program} {w : World} {H : Hp} {h : Heap} {q : Addr} {i : Nat} {tk : Tok} {x : V} {u : Value} (g : h.get? q = some { cls := .type "tuple", data := .seq #[.int i tk, u] }) (r : RelV x u) : ObjOk P w H h q (.tup [.int (i : Nat), x]) := by
  refine ⟨show 2 ≤ sizeLine by decide, [.int i tk, u], ?_, _, g, rfl, _, rfl⟩
  exact .cons ⟨tk, rfl⟩ (.cons r .nil)
theorem enT_next {X : Cx} {elts : List Expr} {kk : Nat} {tpos : Pos} {a e it : Addr} {i : Nat} {pins : List (Addr × Obj)} {st : Shared} {σ : L2.St} {H : Hp} {E : Value → Shared → Prop} (hc : X.calm = true) (inv : Inv X pins σ H st) (free : ∀ b ∈ [e, it], FpOk X pins H b) (t : EnT e it a i st.heap)
    {xs : List V} {x : V} (sq : SqT X.K H a xs) (hx : xs[i]? = some x) : wpAny (model X.prog X.w) X.A (pyNext (.ref e)) (fun r s1 => ∃ u, r = some u ∧ wpAny (model X.prog X.w) X.A (letOwnedTupleGo (.Tuple elts kk tpos) (.ref e) u)
      (fun _ s2 => ∃ y H2, Inv X pins σ H2 s2 ∧ RelV y u ∧ (IteT X.K a).yld i H y H2 ∧ EnT e it a (i + 1) s2.heap ∧ ∀ b ∈ [e, it], H2 b = none) E s1) E st := by
  obtain ⟨its, vals, tup, _⟩ := inv.tuple sq
  obtain ⟨u, hu, rel⟩ := vals.get hx
  obtain ⟨last, en⟩ := t.en
  have low := t.below
  have fresh := inv.hok.fresh (Nat.le_refl st.heap.objs.size)
  have draws := Draws.tuple (prog := X.prog) (w := X.w) (A := X.A.in1) (inv.ok.hd hc) it a t.ai its.toArray
  have inside : i < its.toArray.size := by simpa using (List.getElem?_eq_some_iff.mp hu).1
  refine wpAny_pyNext_enum_itemD draws en ⟨t.ti, tup⟩ inside t.ei (by simp [t.ei, t.ae.symm]) fun v h1 tk hv out on pair _ kept => ⟨_, rfl, ?_⟩
  obtain rfl : u = v := by
    have hv2 : its[i]? = some v := by rw [← hv]; simp
    exact Option.some.inj (hu.symm.trans hv2)
  refine wpAny_letOwnedTupleGo_enum (s := { st with heap := h1, toks := tk + 1 }) out fun h2 en2 same => ?_
  have apart : st.heap.objs.size ≠ e := Nat.ne_of_gt (low e List.mem_cons_self)
  have seen : ∀ b, b ≠ e → h2.get? b = h1.get? b := fun b n => same.2 b n
  refine ⟨.ref st.heap.objs.size, upd H st.heap.objs.size (.tup [.int (i : Nat), x]), ?_, rfl, ⟨_, x, rfl, fresh, rfl, fun ys sy => ?_⟩, ⟨⟨u, ?_⟩, on.1.at fun w2 q => (seen it t.ei.symm).trans q, t.ei, t.ae, t.ai⟩, fun b hb => ?_⟩
  · refine inv.turnedNew (ch := [e, it]) (fun b w2 out2 q => ?_) free (Nat.le_refl _) (pairOk ((seen _ apart).trans pair) rel)
    have nb : b ≠ e ∧ b ≠ it := ⟨fun z => out2 (by simp [z]), fun z => out2 (by simp [z])⟩
    exact (seen b nb.1).trans (kept b w2 nb.1 nb.2 q)
  · rw [inv.tuple_inj sy sq]
    exact hx
  · rw [Int.natCast_add]
    exact en2
  · rw [upd_ne (Nat.ne_of_lt (low b hb))]
    exact (free b hb).1
theorem turn_enumT {P : Program} {w : World} {K : PySem.W.Frag} {elts : List Expr} {kk : Nat} {tpos : Pos} (a e it : Addr) : Turn P w K (.Tuple elts kk tpos) (IteT K a) [e, it] e (EnT e it a) := by
  refine { mem := List.mem_cons_self, obj := fun i h t b hb => ?_, keep := fun i h h2 t k => t.moved k, item := ?_, done := ?_, self := fun A i st Q E t q => t.en.elim fun _ en => wpAny_pyIter_enum en q }
  · obtain ⟨last, en⟩ := t.en
    obtain ⟨u, qu, _, du⟩ := t.ti
    rcases two_cases hb with rfl | rfl
    · exact ⟨_, en, fun _ z => nomatch z⟩
    · exact ⟨u, qu, fun _ z => by rw [du] at z; cases z⟩
  · rintro X rfl rfl rfl hc i pins st σ H E inv free t ⟨xs, x, sq, hx⟩
    exact enT_next hc inv free t sq hx
  · rintro X rfl rfl rfl hc i pins st σ H E inv free t ⟨xs, sq, rfl⟩
    obtain ⟨its, vals, tup, _⟩ := inv.tuple sq
    obtain ⟨last, en⟩ := t.en
    have ends : xs.length = its.toArray.size := by simpa using vals.length
    have draws := Draws.tuple (prog := X.prog) (w := X.w) (A := X.A.in1) (inv.ok.hd hc) it a t.ai its.toArray
    obtain ⟨f0, f1, _, f3, f4, f5⟩ := free it (by simp)
    refine wpAny_pyNext_enum_endD draws en ⟨ends ▸ t.ti, tup⟩ fun h2 but => ⟨rfl, ?_⟩
    exact inv.turned (t' := st.toks) but f0 f1 f3 f4 f5
def iEnumT (K : PySem.W.Frag) (ta : TA) : TI := fun σ H R => ta σ H fun vs H1 => ∃ a xs, vs = [.ref a] ∧ SqT K H1 a xs ∧ R (IteT K a) H1
theorem pi_enumT {X : Cx} {e : Expr} {ta : TA} {p pos tpos : Pos} {elts : List Expr} {kk : Nat} (hg : Gl X "enumerate") (hm : X.mg "enumerate" = none) (ha : PA X [e] ta) (hs : starEach [e] X.env = [(false, eval e X.env)]) :
    PI X (.Tuple elts kk tpos) (.Call (.Name "enumerate" p) [e] [] pos) (iEnumT X.K ta) := by
  constructor
  intro pins st σ H R inv want
  refine Call_ (ld_blt inv hg hm boot_enumerate (PyProof.Rows.callWith_type1 (thn (ha.run pos pins st σ H _ inv want) ?_) hs rfl))
  rintro us s1 ⟨vs, H1, inv1, rel, a, xs, rfl, sq, q⟩
  obtain rfl := Vals.ref1 rel
  obtain ⟨its, _, tup, _⟩ := inv1.tuple sq
  have la : a < s1.heap.objs.size := by
    obtain ⟨u, qu, _⟩ := tup
    exact Heap.lt_size qu
  refine lp_enumCall (begins_tuple a its.toArray) tup (wpAny_pyIter_enum enumHeap_en ?_)
  refine ⟨_, [s1.heap.objs.size + 1, s1.heap.objs.size], _, _, H1, rfl, inv1.kept (t' := s1.toks) fun _ _ => enumHeap_old, turn_enumT a _ s1.heap.objs.size, ⟨⟨_, enumHeap_en⟩, ⟨_, enumHeap_it rfl, rfl, rfl⟩, Nat.succ_ne_self _, Nat.ne_of_lt (Nat.lt_succ_of_lt la), Nat.ne_of_lt la⟩, fun b hb => ?_, q⟩
  have up : s1.heap.objs.size ≤ b := (two_cases hb).elim (fun z => z ▸ Nat.le_succ _) fun z => z ▸ Nat.le_refl _
  exact inv1.fpOk up (inv1.hok.fresh up)
theorem walk_enumT {K : PySem.W.Frag} {a : Addr} {xs : List V} : Walk (IteT K a) xs.length (fun H => SqT K H a xs) (fun i H v H' => ∃ q x, v = .ref q ∧ H q = none ∧ H' = upd H q (.tup [.int (i : Nat), x]) ∧ xs[i]? = some x) :=
  ⟨fun i H hi q => ⟨xs, xs[i], q, by simp [hi]⟩, fun H q => ⟨xs, q, rfl⟩, fun i H v H' _ q y => by
    obtain ⟨p, x, h1, h2, h3, h4⟩ := y
    exact ⟨p, x, h1, h2, h3, h4 xs q⟩⟩
theorem wk_enumT {K : PySem.W.Frag} {as : List Addr} {F : Hp} {a : Addr} {vs : List V} {xs : List D} (h1 : SqT K F a vs) (h2 : RpL K as F vs xs) : WkD K as F (IteT K a) (enumD xs) := by
  have w := walk_enumT (K := K) (a := a) (xs := vs)
  rw [h2.length] at w
  rw [WkD, enumD_len]
  refine w.mono (fun H h => sqT_le h h1) fun i H x H' hi _ y => ?_
  obtain ⟨q, y1, e1, e2, e3, e5⟩ := y
  obtain ⟨d2, f2, g2⟩ := h2.getV e5
  exact .inr ⟨q, _, y1, .int (i : Nat), d2, e1, e2, e3, enumD_get f2, .int _, g2⟩
section
variable {X : Cx} {T : List (Addr × Str)} {E : XK} {Γ : Gam} {a b : Ex} {l r tg : Expr} {pos : Pos}
theorem sI_enum {p tpos : Pos} {elts : List Expr} {kk : Nat} (hg : Gl X "enumerate") (hm : X.mg "enumerate" = none) (ha : SE X T E Γ a l) (hs : starEach [l] X.env = [(false, eval l X.env)]) :
    PI X (.Tuple elts kk tpos) (.Call (.Name "enumerate" p) [l] [] pos) (tIi X.K T E Γ (.enum a)) := by
  have hA : PA X [l] (tCons (tI X.K T E Γ a) tNil) := pa_cons ha pa_nil hs
  refine ((pi_enum hg hm hA hs).or (pi_enumT hg hm hA hs)).imp fun σ H R q => ?_
  obtain ⟨ρ, S, as, F, ok, fr, q⟩ := q
  rw [evi] at q
  cases hp : a.isPk with
  | true => rw [if_pos hp] at q; exact q.elim
  | false =>
    rw [if_neg (by rw [hp]; decide)] at q
    cases e : ev Γ a ρ S with
    | bad => rw [e] at q; exact q.elim
    | ex c S1 =>
      rw [e] at q
      refine .inl ?_
      show tI X.K T E Γ a σ H fun x H1 => _
      refine ⟨ρ, S, as, F, ok, fr, ?_⟩
      rw [e]
      exact q
    | ok d S1 =>
      have q2 := q
      rw [e] at q2
      replace q2 : PostR X.K T E as F H (ofO ((items d).map enumD) S1) _ := q2
      obtain ⟨xs, ew, q3⟩ := q2.ofO
      cases d with
      | lst ds =>
        cases ew
        refine .inl ?_
        show tI X.K T E Γ a σ H fun x H1 => _
        refine ⟨ρ, S, as, F, ok, fr, ?_⟩
        rw [e, hp]
        intro bs G J st ok1 v hv
        have hv' := hv.rp
        cases hv' with
        | lst h1 h2 => exact ⟨_, _, rfl, SqL.of (ok1.le _ _ h1), q3 bs G J st ok1 _ (wk_enum h1 h2)⟩
      | tup ds =>
        cases ew
        refine .inr ?_
        show tI X.K T E Γ a σ H fun x H1 => _
        refine ⟨ρ, S, as, F, ok, fr, ?_⟩
        rw [e, hp]
        intro bs G J st ok1 v hv
        have hv' := hv.rp
        cases hv' with
        | tup h1 h2 => exact ⟨_, _, rfl, sqT_le ok1.le h1, q3 bs G J st ok1 _ (wk_enumT h1 h2)⟩
      | _ => cases ew
end
end LP
namespace LP
open PySem PySem.Spec
open PyProof.Rows L2
/-! ### what a body may lean on -/
def bnames : List Str := ["len", "sorted", "sum", "all", "any", "tuple", "list", "max", "min", "int", "set", "str", "isinstance", "bool", "dict", "range", "enumerate", "zip"]
/-- what told makes of a lambda's reading -/
def TTell (K : PySem.W.Frag) (T : List (Addr × Str)) : (XK → Hp → VK → Prop) → Hp → VK → Prop := fun tl H Q =>
  tl (fun cls dd H' => dd = none ∧ ∃ c d, cls = .ref (He.ga K c) ∧ tellD c = some d ∧ ∀ J p, Le H' J → H' p = none → J p = some (.tup [.str "refused", .str c]) → Q (.ref p) J) H Q
/-- a def at level k -/
def FnK (X : Cx) (T : List (Addr × Str)) (k : Nat) (fn : List D → Sto → Re D) (x : Str) : Prop := ∃ (f : Addr) (fd : FuncData) (ps : List Str), X.mg x = some (.ref f) ∧ PySem.W.keepIn X.K (.ref f) = true ∧ Binds X.K fd ps [] ∧
  FnOk X.prog X.w X.K X.mg X.base (L2N.CX X.prog X.w) k f fd ps (spOf X.K T fn)
def Tld (C : Ck) (T : List (Addr × Str)) (Γ : Gam) (X : Cx) : Prop := ∃ (g c P : Addr) (k : Nat) (pg : Arguments) (bg : List Stmt) (sg : Scope) (dV kV doc pm cdv ct oc : Value) (an od : Option Addr) (osl : Array (Option Value)) (Ng : List Str),
  X.mg "_law_told" = some (.ref g) ∧ PySem.W.keepIn X.K (.ref g) = true ∧ X.K.lookup g = some ⟨oc, od, .func (PySem.W.fnOf "_law_told" "_law_told" pg bg sg dV kV doc pm an cdv ct), osl⟩ ∧ PySem.W.codeIn X.K cdv "_law_told" = true ∧
  L2.Binds X.K (PySem.W.fnOf "_law_told" "_law_told" pg bg sg dV kV doc pm an cdv ct) ["deed"] [] ∧ FnScope Ng ["deed"] sg ∧ Ng[0]? = some ("deed" : Str) ∧ Vis sg "deed" ∧
  GivesN X Ng "_law_told" sg g cdv bg "deed" (X.env.qual ++ "<lambda>") (TTell X.K T) ∧
  LamX.TabB X.base X.mg c P ∧ X.env.code = .ref c ∧ (P, X.env.qual ++ "<lambda>") ∈ T ∧ (∀ p ∈ T, p.1 = P → p.2 = X.env.qual ++ "<lambda>") ∧ Room (k + 2) X.A ∧
  ∀ j x, C.fns j = some x → FnK X T k (Γ.fn j) x
structure Gd (C : Ck) (T : List (Addr × Str)) (Γ : Gam) (X : Cx) (E : XK) : Prop where
  calm : X.calm = true
  nd : X.N.Nodup
  nn : X.N = C.N
  un : X.A.units + 200 < cLine
  tk : L2N.Takes X (fun c d _ H => E c d H)
  con : ∀ x d, Γ.con x = some d → ∃ v u, X.mg x = some u ∧ RelV v u ∧ ∀ as F, Rp X.K as F v d
  blt : ∀ x ∈ bnames, X.mg x = none
  fn : ∀ j x, C.fns j = some x → FnAt X T (Γ.fn j) x
  tld : C.tld = true → Tld C T Γ X
section
variable {C : Ck} {T : List (Addr × Str)} {Γ : Gam} {X : Cx} {E : XK}
theorem Gd.blk (G : Gd C T Γ X E) (s : Shared) (H : Hp) (scope : Scope) (cl : List (Str × Addr)) (A : Addr) (fp : List Addr) : Gd C T Γ (X.blk s H scope (compEnvC scope cl A X.env) fp) E0 :=
  ⟨G.calm, G.nd, G.nn, G.un, fun u s' x => takesN0 u s' x, G.con, G.blt, G.fn, fun h => G.tld h⟩
theorem nm_of {x : Str} (h : nmOk x = true) : (x == ("__debug__" : Str)) = false ∧ (x == ("__classdict__" : Str)) = false := by
  unfold nmOk at h
  simp only [Bool.not_eq_true', Bool.and_eq_true] at h
  exact ⟨h.1.1, h.1.2⟩
theorem blt_in (f : Blt) : bltName f ∈ bnames := by cases f <;> decide +kernel
theorem ty_in (t : Ty) : Str.ofString (tyStr t) ∈ bnames := by cases t <;> decide +kernel
theorem vac {x : Ex} {e : Expr} (h : ∀ ρ S, ev Γ x ρ S = .bad) : SE X T E Γ x e ∧ ST X T E Γ x e := by
  refine ⟨⟨fun pins s σ H Q I q => ?_⟩, ⟨fun pins s σ H Q I q => ?_⟩⟩
  · obtain ⟨ρ, S, as, F, ok, fr, q⟩ := q
    rw [h] at q
    exact q.elim
  · obtain ⟨ρ, S, as, F, ok, fr, q⟩ := q
    rw [evT, h] at q
    exact q.elim
theorem sT_pk {i : Nat} {e : Expr} : ST X T E Γ (.pk i) e := by
  constructor; intro pins s σ H Q I q
  obtain ⟨ρ, S, as, F, ok, fr, q⟩ := q
  rw [evT, ev] at q
  split at q <;> exact q.elim
theorem pw_of {op : BoolOp} {vs : List Expr} {p : Pos} {t : TT} (h : PT X (.BoolOp op vs p) t) : PW X (.BoolOp op vs p) t := ⟨fun w pins s σ H Q I q => h.run pins s σ H Q I q⟩
/-- x(lambda: body) -/
theorem sE_told {b : Ex} {body : Expr} {scope : Scope} {p lpos pos : Pos} {ps : Arguments} (G : Gd C T Γ X E) (ht : C.tld = true) (hg : Gl X "_law_told") (hps : lamArgs ps = true) (hL : LamX.lamSB X.env.scope scope = true)
    (hb : ∀ (X' : Cx) (E' : XK), X'.K = X.K → X'.env.scope = scope → Gd { C with tld := false } T Γ X' E' → SE X' T E' Γ b body) : SE X T E Γ (.told b) (.Call (.Name "_law_told" p) [.Lambda ps body scope lpos] [] pos) := by
  obtain ⟨g, c, P, k, pg, bg, sg, dV, kV, doc, pm, cdv, ct, oc, an, od, osl, Ng, h1, h2, h3, h4, h5, h6, h7, h8, h9, h10, h11, h12, h13, h14, h15⟩ := G.tld ht
  have key : PE X (.Call (.Name "_law_told" p) [.Lambda ps body scope lpos] [] pos) (LamX.tLam T (TTell X.K T) fun E' => tI X.K T E' Γ b) := by
    refine lamcallN (k := k) ⟨hg, h1, h2, ⟨_, _, _, _, _, _, _, _, _, _, h3, h5⟩, h4, h6, h7, h8⟩ h9 h10 h11 h12 h13 h14 (LamX.lamS_by hL) ?_ ?_ (fun A outer s H E' f c' hr => ?_) (by decide) (by decide) (by decide)
    · unfold lamArgs at hps
      split at hps
      · rfl
      · cases hps
    · intro q cl pm cv ctv
      unfold lamArgs at hps
      split at hps
      · rfl
      · cases hps
    · refine hb (lamCxN X A outer s H E' scope f c') E' rfl rfl ⟨rfl, G.nd, G.nn, ?_, L2N.takes_of rfl rfl rfl rfl, G.con, G.blt, fun j x hj => ?_, fun z => nomatch z⟩
      · have := hr.un
        show (A.deeper _).units + 200 < cLine
        omega
      · obtain ⟨f', fd, ps', e1, e2, e3, e4⟩ := h15 j x hj
        exact ⟨f', fd, ps', k, e1, e2, e3, hr, e4⟩
  refine key.imp fun σ H Q q => ?_
  obtain ⟨ρ, S, as, F, ok, fr, q⟩ := q
  refine ⟨ok.tab, fun H1 ext tab1 => ?_⟩
  have st1 : Stp as F H as F H1 := by
    refine ⟨Le.refl _, fun _ _ h => .inl h, fun a o e _ t => ext a o e t, ⟨[], by simp, fun _ h => nomatch h⟩, fun a n o e => ?_⟩
    by_cases t : ∃ ps, o = .tbl ps
    · exact t
    · exact (n.no (ext a o e fun ps z => t ⟨ps, z⟩) fun ps z => t ⟨ps, z⟩).elim
  have ok1 : Ok X.K T as S F H1 := by
    refine ⟨fun a o e => ext a o (ok.le a o e) (fun ps z => ok.ntb a ps (by rw [← z]; exact e)), ok.len, ok.nd, ok.nof, fun k a so e1 e2 => ?_, tab1, ok.ntb⟩
    have := ok.cel k a so e1 e2
    cases so with
    | cell xs => obtain ⟨vs, e, r⟩ := this; exact ⟨vs, ext _ _ e (fun _ z => nomatch z), r⟩
    | ins c fs => exact this
    | dead => obtain ⟨o, e, t⟩ := this; exact ⟨o, ext _ _ e t, t⟩
  show tI X.K T _ Γ b σ H1 Q
  refine ⟨ρ, S, as, F, ok1, fr.stp st1, ?_⟩
  rw [ev] at q
  cases e : ev Γ b ρ S with
  | bad => rw [e] at q; exact q.elim
  | ok d S1 =>
    rw [e] at q
    dsimp only at q
    split at q
    · exact q.elim
    · rename_i hp
      have hp' : b.isPk = false := by simpa using hp
      rw [hp']
      exact fun bs G' J st ok2 v hv => q bs G' J (st1.trans st) ok2 v hv
  | ex c' S1 =>
    rw [e] at q
    dsimp only at q
    obtain ⟨d, ed, q2⟩ := q.ofO
    intro bs G' J st ok2
    refine ⟨rfl, c', d, rfl, ed, fun L p' le hp hL => ?_⟩
    have hG : G' p' = none := ok2.noF hp
    have hd : d = .tup [.str "refused", .str c'] := by
      unfold tellD at ed
      split at ed <;> cases ed
      rfl
    have lG : Le G' (upd G' p' (.tup [.str "refused", .str c'])) := le_upd hG
    have npa : ∀ a ∈ bs, a ≠ p' := fun a ha z => by
      obtain ⟨u, e⟩ := ok2.there ha
      rw [z, hp] at e; cases e
    have ok3 : Ok X.K T bs S1 (upd G' p' (.tup [.str "refused", .str c'])) L := by
      refine ⟨fun a o e => ?_, ok2.len, ok2.nd, fun a ha => ?_, fun k a so e1 e2 => (ok2.cel k a so e1 e2).mono lG le, ok2.tab.ext le, fun a ps e => ?_⟩
      · by_cases z : a = p'
        · subst z; rw [upd_same] at e; cases e; exact hL
        · rw [upd_ne z] at e; exact le a o (ok2.le a o e)
      · rw [upd_ne (npa a ha)]; exact ok2.nof a ha
      · by_cases z : a = p'
        · subst z; rw [upd_same] at e; cases e
        · rw [upd_ne z] at e; exact ok2.ntb a ps e
    have st3 : Stp bs G' J bs (upd G' p' (.tup [.str "refused", .str c'])) L := by
      refine ⟨lG, fun a o e => ?_, fun a o e _ _ => le a o e, ⟨[], by simp, fun _ h => nomatch h⟩, fun a n o e => n o (le a o e)⟩
      by_cases z : a = p'
      · subst z; exact .inr (Nt.none hp)
      · rw [upd_ne z] at e; exact .inl e
    have fin := q2 bs _ L ((st1.trans st).trans st3) ok3 (.ref p')
    refine fin (Vw.of ?_)
    rw [hd]
    exact .tup (SqT.of upd_same) (.cons (.str _) (.cons (.str _) .nil))
end
end LP
namespace LP
open PySem PySem.Spec
open PyProof.Rows L2
theorem noSet_fold {e : Expr} (env : Env) (h : noSet e = true) : ∀ x, foldedSetIterable e env x = pure x := by
  intro x
  cases e <;> first | rfl | cases h
theorem chki_fold {C : Ck} {it : Ex} {sc : Scope} {tg e : Expr} (h : chki C it sc tg e = true) : noSet e = true := by
  cases it <;> cases e <;> first | rfl | cases h
theorem isTup_of {tg : Expr} (h : isTup tg = true) : ∃ es k p, tg = .Tuple es k p := by
  cases tg <;> first | exact ⟨_, _, _, rfl⟩ | cases h
theorem lamTest {e : Expr} {env : Env} (h : ∀ op a p, e ≠ .UnaryOp op a p) (h2 : ∀ op a p, e ≠ .BoolOp op a p) (h3 : ∀ a b c p, e ≠ .IfExp a b c p) (h4 : ∀ a b c p, e ≠ .Compare a b c p) :
    ∀ whole, isTrue e env whole = (do let v ← whole; standAt e.pos; holding [v] (truthy v)) := by
  intro whole
  cases e <;> first | rfl | exact absurd rfl (h _ _ _) | exact absurd rfl (h2 _ _ _) | exact absurd rfl (h3 _ _ _ _) | exact absurd rfl (h4 _ _ _ _)
section
variable {T : List (Addr × Str)} {Γ : Gam}
mutual
theorem sE : ∀ (x : Ex) (C : Ck) (X : Cx) (E : XK) (e : Expr), Gd C T Γ X E → chkE C x X.env.scope e = true → SE X T E Γ x e ∧ ST X T E Γ x e
  | .var i, C, X, E, e, G, h => by
    cases e with
    | Name x p =>
      simp only [chkE, Bool.and_eq_true] at h
      obtain ⟨n1, n2⟩ := nm_of h.2
      have := sE_var (pos := p) (T := T) (E := E) (Γ := Γ) (X := X) (i := i) (by rw [G.nn]; exact someB h.1.1) (vis_of h.1.2) n1 n2
      exact ⟨this, sT_plain this rfl (fun _ => rfl)⟩
    | _ => cases h
  | .pk i, C, X, E, e, G, h => by
    cases e with
    | Name x p =>
      simp only [chkE, Bool.and_eq_true] at h
      obtain ⟨n1, n2⟩ := nm_of h.2
      exact ⟨sE_pk (by rw [G.nn]; exact someB h.1.1) (vis_of h.1.2) n1 n2, sT_pk⟩
    | _ => cases h
  | .non, C, X, E, e, G, h => by
    cases e with
    | Constant c k p =>
      cases c with
      | none => exact ⟨sE_non, sT_plain sE_non rfl (fun _ => rfl)⟩
      | _ => cases h
    | _ => cases h
  | .bl b, C, X, E, e, G, h => by
    cases e with
    | Constant c k p =>
      cases c with
      | bool d =>
        simp only [chkE] at h
        obtain rfl := eq_of_beq h
        exact ⟨sE_bl, sT_plain sE_bl rfl (fun _ => rfl)⟩
      | _ => cases h
    | _ => cases h
  | .int b, C, X, E, e, G, h => by
    cases e with
    | Constant c k p =>
      cases c with
      | int d =>
        simp only [chkE, decide_eq_true_eq] at h
        subst h
        exact ⟨sE_int, sT_plain sE_int rfl (fun _ => rfl)⟩
      | _ => cases h
    | _ => cases h
  | .str b, C, X, E, e, G, h => by
    cases e with
    | Constant c k p =>
      cases c with
      | str d =>
        simp only [chkE] at h
        obtain rfl := beqS h
        exact ⟨sE_str, sT_plain sE_str rfl (fun _ => rfl)⟩
      | _ => cases h
    | _ => cases h
  | .glob x, C, X, E, e, G, h => by
    cases e with
    | Name y p =>
      simp only [chkE, Bool.and_eq_true] at h
      obtain ⟨⟨h1, h2⟩, h3⟩ := h
      obtain rfl := beqS h1
      cases q : Γ.con x with
      | none => exact vac fun ρ S => by rw [ev, q]; rfl
      | some d =>
        obtain ⟨v, u, e1, e2, e3⟩ := G.con x d q
        have := sE_glob (pos := p) (T := T) (E := E) (gl_of h2) e1 e2 e3 q (nm_of h3).1
        exact ⟨this, sT_plain this rfl (fun _ => rfl)⟩
    | _ => cases h
  | .bin o a b, C, X, E, e, G, h => by
    cases e with
    | BinOp l op r p =>
      simp only [chkE, Bool.and_eq_true] at h
      obtain rfl := bop_of h.1.1
      have := sE_bin (pos := p) (o := o) (sE a C X E l G h.1.2).1 (sE b C X E r G h.2).1
      exact ⟨this, sT_plain this rfl (fun _ => rfl)⟩
    | _ => cases h
  | .neg a, C, X, E, e, G, h => by
    cases e with
    | UnaryOp op l p =>
      cases op with
      | USub =>
        have := sE_neg (pos := p) (sE a C X E l G (by simpa only [chkE] using h)).1
        exact ⟨this, sT_plain this rfl (fun _ => rfl)⟩
      | _ => cases h
    | _ => cases h
  | .cmp o a b, C, X, E, e, G, h => by
    cases e with
    | Compare l ops rs p =>
      match ops, rs, h with
      | [op], [r], h =>
        simp only [chkE, Bool.and_eq_true] at h
        obtain rfl := cop_of h.1.1.1
        have h1 := (sE a C X E l G h.1.2).1
        have h2 := (sE b C X E r G h.2).1
        exact ⟨sE_cmp G.un h.1.1.2 h1 h2, sT_cmp G.un h.1.1.2 h1 h2⟩
      | [], _, h => cases h
      | [_], [], h => cases h
      | [_], _ :: _ :: _, h => cases h
      | _ :: _ :: _, [], h => cases h
      | _ :: _ :: _, [_], h => cases h
      | _ :: _ :: _, _ :: _ :: _, h => cases h
    | _ => cases h
  | .chain o p a b c, C, X, E, e, G, h => by
    cases e with
    | Compare l ops rs pp =>
      match ops, rs, h with
      | [op, op2], [m, r], h =>
        simp only [chkE, Bool.and_eq_true] at h
        obtain ⟨⟨⟨⟨⟨⟨k1, k2⟩, k3⟩, k4⟩, k5⟩, k6⟩, k7⟩ := h
        obtain rfl := cop_of k1
        obtain rfl := cop_of k2
        have h1 := (sE a C X E l G k5).1
        have h2 := (sE b C X E m G k6).1
        have h3 := (sE c C X E r G k7).1
        exact ⟨sE_chain G.un k3 k4 h1 h2 h3, sT_chain G.un k3 k4 h1 h2 h3⟩
      | [], _, h => cases h
      | [_], [], h => cases h
      | [_], _ :: _, h => cases h
      | [_, _], [], h => cases h
      | [_, _], [_], h => cases h
      | [_, _], _ :: _ :: _ :: _, h => cases h
      | _ :: _ :: _ :: _, [], h => cases h
      | _ :: _ :: _ :: _, [_], h => cases h
      | _ :: _ :: _ :: _, _ :: _ :: _, h => cases h
    | _ => cases h
  | .notE a, C, X, E, e, G, h => by
    cases e with
    | UnaryOp op l p =>
      cases op with
      | Not =>
        simp only [chkE, Bool.and_eq_true, Bool.not_eq_true'] at h
        have := sE a C X E l G h.2
        exact ⟨sE_not this.1 h.1, sT_not this.2⟩
      | _ => cases h
    | _ => cases h
  | .andE a b, C, X, E, e, G, h => by
    cases e with
    | BoolOp op es p =>
      cases op with
      | Or => cases h
      | And =>
        match es, h with
        | [], h => cases h
        | [_], h => cases h
        | [l, r], h =>
          simp only [chkE, Bool.and_eq_true, Bool.not_eq_true'] at h
          have h1 := sE a C X E l G h.1.2
          have h2 := sE b C X E r G h.2
          exact ⟨sE_and h1.1 h.1.1.1 h.1.1.2 (pe_one h2.1), (sW_and h1.2 (pw_and1 h2.2)).pt⟩
        | l :: m :: n :: r, h =>
          simp only [chkE, Bool.and_eq_true, Bool.not_eq_true'] at h
          have h1 := sE a C X E l G h.1.2
          have h2 := sE b C X E (.BoolOp .And (m :: n :: r) p) G h.2
          exact ⟨sE_and h1.1 h.1.1.1 h.1.1.2 h2.1, (sW_and h1.2 (pw_of h2.2)).pt⟩
    | _ => cases h
  | .orE a b, C, X, E, e, G, h => by
    cases e with
    | BoolOp op es p =>
      cases op with
      | And => cases h
      | Or =>
        match es, h with
        | [], h => cases h
        | [_], h => cases h
        | [l, r], h =>
          simp only [chkE, Bool.and_eq_true, Bool.not_eq_true'] at h
          have h1 := sE a C X E l G h.1.2
          have h2 := sE b C X E r G h.2
          exact ⟨sE_or h1.1 h.1.1.1 h.1.1.2 (pe_one h2.1), (sW_or h1.2 (pw_or1 h2.2)).pt⟩
        | l :: m :: n :: r, h =>
          simp only [chkE, Bool.and_eq_true, Bool.not_eq_true'] at h
          have h1 := sE a C X E l G h.1.2
          have h2 := sE b C X E (.BoolOp .Or (m :: n :: r) p) G h.2
          exact ⟨sE_or h1.1 h.1.1.1 h.1.1.2 h2.1, (sW_or h1.2 (pw_of h2.2)).pt⟩
    | _ => cases h
  | .ife c a b, C, X, E, e, G, h => by
    cases e with
    | IfExp t x y p =>
      simp only [chkE, Bool.and_eq_true] at h
      have h0 := sE c C X E t G h.1.1
      have h1 := sE a C X E x G h.1.2
      have h2 := sE b C X E y G h.2
      exact ⟨sE_ife h0.2 h1.1 h2.1, sT_ife h0.2 h1.2 h2.2⟩
    | _ => cases h
  | .nil, C, X, E, e, G, h => by cases e <;> cases h
  | .cons _ _, C, X, E, e, G, h => by cases e <;> cases h
  | .tup as, C, X, E, e, G, h => by
    cases e with
    | Tuple es k p =>
      have := sE_tup (n := k) (pos := p) (sA as C X E false es G (by simpa only [chkE] using h))
      exact ⟨this, sT_plain this rfl (fun _ => rfl)⟩
    | _ => cases h
  | .lst as, C, X, E, e, G, h => by
    cases e with
    | List es p =>
      have := sE_lst (pos := p) (sA as C X E false es G (by simpa only [chkE] using h))
      exact ⟨this, sT_plain this rfl (fun _ => rfl)⟩
    | _ => cases h
  | .cell as, C, X, E, e, G, h => by
    cases e with
    | List es p =>
      have := sE_cell (pos := p) (sA as C X E false es G (by simpa only [chkE] using h))
      exact ⟨this, sT_plain this rfl (fun _ => rfl)⟩
    | _ => cases h
  | .ix a i, C, X, E, e, G, h => by
    cases e with
    | Subscript o s p =>
      have h : (chkE C a X.env.scope o && chkE C i X.env.scope s) = true := by cases s <;> exact h
      rw [Bool.and_eq_true] at h
      have := sE_ix (pos := p) (noSlice h.2) (sE a C X E o G h.1).1 (sE i C X E s G h.2).1
      exact ⟨this, sT_plain this rfl (fun _ => rfl)⟩
    | _ => cases h
  | .sl a lo hi, C, X, E, e, G, h => by
    cases e with
    | Subscript o s p =>
      cases s with
      | Slice l u st p2 =>
        cases st with
        | none =>
          simp only [chkE, Bool.and_eq_true] at h
          have := sE_sl (pos := p) (p2 := p2) (sE a C X E o G h.1.1).1 (sO lo C X E l G h.1.2) (sO hi C X E u G h.2)
          exact ⟨this, sT_plain this rfl (fun _ => rfl)⟩
        | some _ => cases h
      | _ => cases h
    | _ => cases h
  | .nop, C, X, E, e, G, h => by cases e <;> cases h
  | .part _, C, X, E, e, G, h => by cases e <;> cases h
  | .blt f as, C, X, E, e, G, h => by
    cases e with
    | Call fE es ks p =>
      cases fE with
      | Name x p1 =>
        cases es with
        | nil => cases h
        | cons e es =>
          cases ks with
          | cons => cases h
          | nil =>
            simp only [chkE, Bool.and_eq_true] at h
            have ⟨⟨⟨h1, h2⟩, h3⟩, h4⟩ := h
            obtain rfl := beqS h1
            have ha := sA as C X E true (e :: es) G h4
            have hs : starEach (e :: es) X.env = (false, eval e X.env) :: starEach es X.env ∧ (backTo p (starEach es X.env)).any (·.1) = false := by
              cases as with
              | cons a r =>
                simp only [chks, Bool.and_eq_true] at h4
                exact ⟨noStar h4.1 es X.env, noStars X.env p r es h4.2⟩
              | _ => cases h4
            have := sE_blt (pos := p) (p := p1) G.un G.calm (gl_of h2) (G.blt _ (blt_in f)) ha hs.1 hs.2
            exact ⟨this, sT_plain this rfl (fun _ => rfl)⟩
      | _ => cases h
    | _ => cases h
  | .dcall j as, C, X, E, e, G, h => by
    cases e with
    | Call fE es ks p =>
      cases fE with
      | Name x p1 =>
        cases ks with
        | cons => cases h
        | nil =>
          simp only [chkE, Bool.and_eq_true] at h
          have ⟨⟨⟨h1, h2⟩, h3⟩, h4⟩ := h
          have hf := G.fn j x (someB h1)
          have ha := sA as C X E false es G h4
          cases es with
          | nil =>
            cases as with
            | nil =>
              have := sE_dcall0 (pos := p) (p := p1) hf G.tk (gl_of h2) (nm_of h3).1
              exact ⟨this, sT_plain this rfl (fun _ => rfl)⟩
            | _ => cases h4
          | cons e es =>
            have hs : starEach (e :: es) X.env = (false, eval e X.env) :: starEach es X.env ∧ (backTo p (starEach es X.env)).any (·.1) = false := by
              cases as with
              | cons a r =>
                simp only [chks, Bool.and_eq_true] at h4
                exact ⟨noStar h4.1 es X.env, noStars X.env p r es h4.2⟩
              | _ => cases h4
            have := sE_dcall (pos := p) (p := p1) hf G.tk (gl_of h2) (nm_of h3).1 ha hs.1 hs.2
            exact ⟨this, sT_plain this rfl (fun _ => rfl)⟩
      | _ => cases h
    | _ => cases h
  | .sset a, C, X, E, e, G, h => by
    cases e with
    | Call fE es ks p =>
      cases fE with
      | Name x p1 =>
        match es, ks, h with
        | [.Call (.Name y p2) [e] [] p3], [], h =>
          simp only [chkE, Bool.and_eq_true] at h
          obtain ⟨⟨⟨⟨h1, h2⟩, h3⟩, h4⟩, h5⟩ := h
          obtain rfl := beqS h1
          obtain rfl := beqS h2
          have := sE_sset (pos := p) (p := p1) (p2 := p2) (pos2 := p3) G.un G.calm (gl_of h3) (G.blt _ (blt_in .sorted)) (gl_of h4) (G.blt _ (blt_in .sset)) (sE a C X E e G h5).1 (noStar h5 [] X.env)
          exact ⟨this, sT_plain this rfl (fun _ => rfl)⟩
      | _ => cases h
    | _ => cases h
  | .mind a, C, X, E, e, G, h => by
    cases e with
    | Call fE es ks p =>
      cases fE with
      | Name x p1 =>
        match es, ks, h with
        | [e], [⟨some y, .Constant .none j np, kp⟩], h =>
          simp only [chkE, Bool.and_eq_true] at h
          have ⟨⟨⟨h1, h2⟩, h3⟩, h4⟩ := h
          obtain rfl := beqS h1
          obtain rfl := beqS h2
          have := sE_mind (pos := p) (p := p1) (kp := kp) (np := np) (j := j) G.un G.calm (gl_of h3) (G.blt _ (blt_in .min)) (sE a C X E e G h4).1 (noStar h4 [] X.env)
          exact ⟨this, sT_plain this rfl (fun _ => rfl)⟩
      | _ => cases h
    | _ => cases h
  | .isi a t, C, X, E, e, G, h => by
    cases e with
    | Call fE es ks p =>
      cases fE with
      | Name x p1 =>
        match es, ks, h with
        | [e, .Name y p2], [], h =>
          simp only [chkE, Bool.and_eq_true] at h
          obtain ⟨⟨⟨⟨h1, h2⟩, h3⟩, h4⟩, h5⟩ := h
          obtain rfl := beqS h1
          obtain rfl := beqS h2
          have := sE_isi (pos := p) (p := p1) (p2 := p2) (gl_of h3) (G.blt _ (by decide +kernel)) (gl_of h4) (G.blt _ (ty_in t)) (sE a C X E e G h5).1 (noStar h5 _ X.env)
          exact ⟨this, sT_plain this rfl (fun _ => rfl)⟩
      | _ => cases h
    | _ => cases h
  | .comp own elt tg it cnd, C, X, E, e, G, h => by
    cases e with
    | ListComp e gs scope p =>
      match gs, h with
      | [⟨tgE, itE, ifs, 0⟩], h =>
        simp only [chkE, Bool.and_eq_true] at h
        obtain ⟨⟨⟨⟨⟨h1, h2⟩, h3⟩, h4⟩, h5⟩, h6⟩ := h
        have hi := sI it C X E tgE itE G h4
        have bk : BlkOk X.N X.env.scope scope own := blkOk_by (by rw [G.nn]; exact h1)
        have hsl : ∀ i ∈ tg.slots, i ∈ own.map (·.2) := fun i hi => by
          have := List.all_eq_true.mp h2 i hi
          simpa using this
        have hg : ∀ (s : Shared) (H : Hp) (A : Addr) (cl : List (Str × Addr)) (fp : List Addr), PG (X.blk s H scope (compEnvC scope cl A X.env) fp) tgE (gI X.K tg) := fun s H A cl fp =>
          pgI (X := X.blk s H scope (compEnvC scope cl A X.env) fp) G.calm G.nd false (fun z => nomatch z) tg tgE (by show chkT X.N false (relS scope X.env.scope) tg tgE = true; rw [G.nn]; exact h3)
        have ht : ∀ (s : Shared) (H : Hp) (A : Addr) (cl : List (Str × Addr)) (fp : List Addr), PTs (X.blk s H scope (compEnvC scope cl A X.env) fp) ifs (tIc X.K T E0 Γ cnd) := fun s H A cl fp =>
          sC cnd C (X.blk s H scope (compEnvC scope cl A X.env) fp) E0 ifs (G.blk s H scope cl A fp) h6
        have he : ∀ (s : Shared) (H : Hp) (A : Addr) (cl : List (Str × Addr)) (fp : List Addr), PE (X.blk s H scope (compEnvC scope cl A X.env) fp) e (tI X.K T E0 Γ elt) := fun s H A cl fp =>
          (sE elt C (X.blk s H scope (compEnvC scope cl A X.env) fp) E0 e (G.blk s H scope cl A fp) h5).1
        have : SE X T E Γ (.comp own elt tg it cnd) (.ListComp e [⟨tgE, itE, ifs, 0⟩] scope p) := (pe_lc G.calm G.nd hi bk hg ht he (noSet_fold X.env (chki_fold h4))).imp fun σ H Q q => sE_comp G.calm G.nd hi bk hsl hg ht he q
        exact ⟨this, sT_plain this rfl (fun _ => rfl)⟩
    | _ => cases h
  | .rng _, C, X, E, e, G, h => by cases e <;> cases h
  | .enum _, C, X, E, e, G, h => by cases e <;> cases h
  | .zip _ _, C, X, E, e, G, h => by cases e <;> cases h
  | .walk _, C, X, E, e, G, h => by cases e <;> cases h
  | .told b, C, X, E, e, G, h => by
    cases e with
    | Call fE es ks p =>
      cases fE with
      | Name x p1 =>
        match es, ks, h with
        | [.Lambda ps body scope p2], [], h =>
          simp only [chkE, Bool.and_eq_true] at h
          obtain ⟨⟨⟨⟨⟨h1, h2⟩, h3⟩, h4⟩, h5⟩, h6⟩ := h
          obtain rfl := beqS h1
          have := sE_told (pos := p) (p := p1) (lpos := p2) G h5 (gl_of h2) h3 h4 fun X' E' hK hs G' => (sE b { C with tld := false } X' E' body G' (by rw [hs]; exact h6)).1
          exact ⟨this, sT_plain this rfl (fun _ => rfl)⟩
      | _ => cases h
    | _ => cases h
theorem sA : ∀ (x : Ex) (C : Ck) (X : Cx) (E : XK) (k : Bool) (es : List Expr), Gd C T Γ X E → chks C x X.env.scope es = true → SA X T E Γ k x es
  | .nil, C, X, E, k, es, G, h => by
    cases es with
    | nil => exact sA_nil
    | cons => cases h
  | .cons a r, C, X, E, k, es, G, h => by
    cases es with
    | nil => cases h
    | cons e es =>
      simp only [chks, Bool.and_eq_true] at h
      exact sA_cons (sE a C X E e G h.1).1 (sA r C X E k es G h.2) (noStar h.1 es X.env)
  | .var _, C, X, E, k, es, G, h => by cases es <;> cases h
  | .pk _, C, X, E, k, es, G, h => by cases es <;> cases h
  | .non, C, X, E, k, es, G, h => by cases es <;> cases h
  | .bl _, C, X, E, k, es, G, h => by cases es <;> cases h
  | .int _, C, X, E, k, es, G, h => by cases es <;> cases h
  | .str _, C, X, E, k, es, G, h => by cases es <;> cases h
  | .glob _, C, X, E, k, es, G, h => by cases es <;> cases h
  | .bin _ _ _, C, X, E, k, es, G, h => by cases es <;> cases h
  | .neg _, C, X, E, k, es, G, h => by cases es <;> cases h
  | .cmp _ _ _, C, X, E, k, es, G, h => by cases es <;> cases h
  | .chain _ _ _ _ _, C, X, E, k, es, G, h => by cases es <;> cases h
  | .notE _, C, X, E, k, es, G, h => by cases es <;> cases h
  | .andE _ _, C, X, E, k, es, G, h => by cases es <;> cases h
  | .orE _ _, C, X, E, k, es, G, h => by cases es <;> cases h
  | .ife _ _ _, C, X, E, k, es, G, h => by cases es <;> cases h
  | .tup _, C, X, E, k, es, G, h => by cases es <;> cases h
  | .lst _, C, X, E, k, es, G, h => by cases es <;> cases h
  | .ix _ _, C, X, E, k, es, G, h => by cases es <;> cases h
  | .sl _ _ _, C, X, E, k, es, G, h => by cases es <;> cases h
  | .nop, C, X, E, k, es, G, h => by cases es <;> cases h
  | .part _, C, X, E, k, es, G, h => by cases es <;> cases h
  | .blt _ _, C, X, E, k, es, G, h => by cases es <;> cases h
  | .dcall _ _, C, X, E, k, es, G, h => by cases es <;> cases h
  | .isi _ _, C, X, E, k, es, G, h => by cases es <;> cases h
  | .comp _ _ _ _ _, C, X, E, k, es, G, h => by cases es <;> cases h
  | .rng _, C, X, E, k, es, G, h => by cases es <;> cases h
  | .enum _, C, X, E, k, es, G, h => by cases es <;> cases h
  | .zip _ _, C, X, E, k, es, G, h => by cases es <;> cases h
  | .walk _, C, X, E, k, es, G, h => by cases es <;> cases h
  | .told _, C, X, E, k, es, G, h => by cases es <;> cases h
  | .cell _, C, X, E, k, es, G, h => by cases es <;> cases h
  | .sset _, C, X, E, k, es, G, h => by cases es <;> cases h
  | .mind _, C, X, E, k, es, G, h => by cases es <;> cases h
theorem sO : ∀ (x : Ex) (C : Ck) (X : Cx) (E : XK) (e : Option Expr), Gd C T Γ X E → chko C x X.env.scope e = true → PO X e (tIo X.K T E Γ x)
  | x, C, X, E, e, G, h => by
    match x, e, h with
    | .nop, none, h => exact sO_none
    | .part a, some e, h => exact sO_some (sE a C X E e G (by simpa only [chko] using h)).1
theorem sC : ∀ (x : Ex) (C : Ck) (X : Cx) (E : XK) (es : List Expr), Gd C T Γ X E → chkc C x X.env.scope es = true → PTs X es (tIc X.K T E Γ x)
  | x, C, X, E, es, G, h => by
    match x, es, h with
    | .nop, [], h => exact sC_nil
    | .part a, [e], h => exact sC_one (sE a C X E e G (by simpa only [chkc] using h)).2
theorem sI : ∀ (x : Ex) (C : Ck) (X : Cx) (E : XK) (tg e : Expr), Gd C T Γ X E → chki C x X.env.scope tg e = true → PI X tg e (tIi X.K T E Γ x)
  | x, C, X, E, tg, e, G, h => by
    match x, e, h with
    | .rng as, .Call (.Name x p1) es [] p, h =>
      simp only [chki, Bool.and_eq_true] at h
      obtain ⟨⟨⟨h1, h2⟩, h0⟩, h3⟩ := h
      obtain rfl := beqS h1
      have ha := sA as C X E false es G h3
      match as, es, h0, h3, ha with
      | .cons a .nil, [l], h0, h3, ha =>
        simp only [chks, Bool.and_eq_true] at h3
        exact sI_rng1 rfl (gl_of h2) (G.blt _ (by decide +kernel)) ha (noStar h3.1 [] X.env)
      | .cons a (.cons b .nil), [l, r], h0, h3, ha =>
        simp only [chks, Bool.and_eq_true] at h3
        have e2 := noStar h3.2.1 [] X.env
        exact sI_rng2 rfl (gl_of h2) (G.blt _ (by decide +kernel)) ha (by rw [noStar h3.1 [r] X.env, e2]; rfl) e2
      | .cons a (.cons b (.cons c .nil)), [l, m, r], h0, h3, ha =>
        have h4 := h3
        simp only [chks, Bool.and_eq_true] at h3
        exact sI_rng3 rfl (gl_of h2) (G.blt _ (by decide +kernel)) ha (noStar h3.1 [m, r] X.env) (noStars X.env p (.cons b (.cons c .nil)) [m, r] (by simp only [chks, Bool.and_eq_true]; exact h3.2))
      | .cons a (.cons b (.cons c .nil)), [l], h0, h3, ha => simp [chks] at h3
      | .cons a (.cons b (.cons c .nil)), [l, m], h0, h3, ha => simp [chks] at h3
      | .cons a (.cons b (.cons c .nil)), l :: m :: n :: o :: r, h0, h3, ha => simp [chks] at h3
      | .cons a .nil, l :: m :: r, h0, h3, ha => simp [chks] at h3
      | .cons a (.cons b .nil), [l], h0, h3, ha => simp [chks] at h3
      | .cons a (.cons b .nil), l :: m :: n :: r, h0, h3, ha => simp [chks] at h3
    | .enum a, .Call (.Name x p1) [e] [] p, h =>
      simp only [chki, Bool.and_eq_true] at h
      have ⟨⟨⟨h1, h2⟩, h3⟩, h4⟩ := h
      obtain rfl := beqS h1
      obtain ⟨ts, k, tp, rfl⟩ := isTup_of h3
      exact sI_enum (gl_of h2) (G.blt _ (by decide +kernel)) (sE a C X E e G h4).1 (noStar h4 [] X.env)
    | .zip a b, .Call (.Name x p1) [e, f] [] p, h =>
      simp only [chki, Bool.and_eq_true] at h
      obtain ⟨⟨⟨⟨h1, h2⟩, h3⟩, h4⟩, h5⟩ := h
      obtain rfl := beqS h1
      obtain ⟨ts, k, tp, rfl⟩ := isTup_of h3
      exact sI_zip (gl_of h2) (G.blt _ (by decide +kernel)) (sE a C X E e G h4).1 (sE b C X E f G h5).1 (noStar h4 [f] X.env) (noStar h5 [] X.env)
    | .walk a, e, h =>
      simp only [chki, Bool.and_eq_true] at h
      exact sI_walk (sE a C X E e G h.2).1
end
end
end LP
namespace LP
open PySem PySem.Spec
open PyProof.Rows L2
/-! ### a def's body: from its entry on -/
structure Zt where
  as : List Addr
  F : Hp
  H : Hp
  bs : List Addr
  G : Hp
structure FrS (K : PySem.W.Frag) (T : List (Addr × Str)) (Z : Zt) (ρ : Fr) (S : Sto) (σ : L2.St) (as : List Addr) (F H : Hp) : Prop where
  st : Stp Z.as Z.F Z.H as F H
  ok : Ok K T as S F H
  fr : FrOk K as F H σ ρ
  new : ∀ (i : Nat) xs, ρ[i]? = some (some (.ow xs)) → ∃ p, σ[i]? = some (some (.ref p)) ∧ Nt Z.H p
  pre : Pre Z.bs as
  lo : Le Z.G F
def PostU (K : PySem.W.Frag) (T : List (Addr × Str)) (E : XK) (Z : Zt) (o : Ou) (D : Ends) : Prop := match o with
  | .nx ρ S => ∀ σ bs G J, FrS K T Z ρ S σ bs G J → D.nx σ J
  | .rt d S => ∀ bs G J v, Stp Z.as Z.F Z.H bs G J → Ok K T bs S G J → Rp K bs G v d → D.rt v J
  | .ex c S => ∀ bs G J, Stp Z.as Z.F Z.H bs G J → Ok K T bs S G J → E (.ref (He.ga K c)) none J
  | .bad => False
def tS (K : PySem.W.Frag) (T : List (Addr × Str)) (E : XK) (Γ : Gam) (s : Sm) : TS := fun D σ H => ∃ Z ρ S as F, FrS K T Z ρ S σ as F H ∧ PostU K T E Z (exec Γ s ρ S) D
section
variable {K : PySem.W.Frag} {T : List (Addr × Str)} {E : XK} {Z : Zt} {ρ : Fr} {S : Sto} {σ : L2.St} {as : List Addr} {F H : Hp} {D : Ends}
theorem FrS.stp {S1 : Sto} {bs : List Addr} {G J : Hp} (h : FrS K T Z ρ S σ as F H) (st : Stp as F H bs G J) (ok : Ok K T bs S1 G J) : FrS K T Z ρ S1 σ bs G J :=
  ⟨h.st.trans st, ok, h.fr.stp st, h.new, h.pre.trans st.toPre, h.lo.trans st.le⟩
/-- an expression within a statement -/
theorem ou_of {α : Type} {r : Re α} {f : α → Sto → Ou} {k : α → Sto → List Addr → Hp → Hp → Prop} (h : FrS K T Z ρ S σ as F H) (q : PostU K T E Z (r.ou f) D)
    (m : ∀ a S1 bs G J, Stp as F H bs G J → FrS K T Z ρ S1 σ bs G J → PostU K T E Z (f a S1) D → k a S1 bs G J) : PostR K T E as F H r k := by
  cases r with
  | ok a S1 => exact fun bs G J st ok => m a S1 bs G J st (h.stp st ok) q
  | ex c S1 => exact fun bs G J st ok => q bs G J (h.st.trans st) ok
  | bad => exact q
theorem PostU.opt {α : Type} {o : Option α} {f : α → Ou} (q : PostU K T E Z (optU o f) D) : ∃ a, o = some a ∧ PostU K T E Z (f a) D := by
  cases o with
  | none => exact q.elim
  | some a => exact ⟨a, rfl, q⟩
/-- a slot is given -/
theorem FrS.set {i : Nat} {v : V} {d : LP.D} (h : FrS K T Z ρ S σ as F H) (r : Rp K as F v d) : FrS K T Z (ρ.set i (some (.fz d))) S (σ.set i (some v)) as F H := by
  refine ⟨h.st, h.ok, h.fr.set r, fun j xs e => ?_, h.pre, h.lo⟩
  have hj : j ≠ i := fun z => by
    subst z
    rw [List.getElem?_set] at e
    simp only [if_true] at e
    split at e <;> cases e
  rw [List.getElem?_set_ne (Ne.symm hj)] at e ⊢
  exact h.new j xs e
/-- another list than the owned ones -/
theorem FrS.apart {i : Nat} {xs : List LP.D} {p : Addr} (h : FrS K T Z ρ S σ as F H) (hi : ρ[i]? = some (some (.ow xs))) (hp : σ[i]? = some (some (.ref p))) : ∃ vs, H p = some (.lst vs) ∧ F p = none ∧ p ∉ as ∧ RpL K as F vs xs ∧ Nt Z.H p := by
  obtain ⟨v, e1, q, vs, rfl, h1, h2, h3, h4⟩ := h.fr.at_ i _ hi
  rw [hp] at e1
  cases e1
  obtain ⟨p', e2, n⟩ := h.new i xs hi
  rw [hp] at e2
  cases e2
  exact ⟨vs, h1, h2, h3, h4, n⟩
/-- a new list is owned -/
theorem FrS.own {i : Nat} {p : Addr} {vs : List V} {xs : List LP.D} (h : FrS K T Z ρ S σ as F H) (hp : H p = some (.lst vs)) (hF : F p = none) (ha : p ∉ as) (hn : Nt Z.H p) (r : RpL K as F vs xs)
    (ho : ∀ (j : Nat) ys, ρ[j]? = some (some (.ow ys)) → σ[j]? ≠ some (some (.ref p))) : FrS K T Z (ρ.set i (some (.ow xs))) S (σ.set i (some (.ref p))) as F H := by
  have hlen := h.fr.len
  refine ⟨h.st, h.ok, ⟨by simp [hlen], fun j s e => ?_, fun j k ys zs e1 e2 e3 => ?_⟩, fun j ys e => ?_, h.pre, h.lo⟩
  · by_cases hj : j = i
    · subst hj
      rw [List.getElem?_set] at e
      simp only [if_true] at e
      split at e
      · rename_i hl
        cases e
        exact ⟨_, by rw [List.getElem?_set_self (by rw [hlen]; exact hl)], p, vs, rfl, hp, hF, ha, r⟩
      · cases e
    · rw [List.getElem?_set_ne (Ne.symm hj)] at e ⊢
      exact h.fr.at_ j s e
  · by_cases hj : j = i
    · by_cases hk : k = i
      · rw [hj, hk]
      · exfalso
        subst hj
        rw [List.getElem?_set_ne (Ne.symm hk)] at e2 e3
        rw [List.getElem?_set] at e1
        simp only [if_true] at e1
        split at e1
        · rename_i hl
          rw [List.getElem?_set_self (by rw [hlen]; exact hl)] at e3
          exact ho k zs e2 e3.symm
        · cases e1
    · by_cases hk : k = i
      · exfalso
        subst hk
        rw [List.getElem?_set_ne (Ne.symm hj)] at e1 e3
        rw [List.getElem?_set] at e2
        simp only [if_true] at e2
        split at e2
        · rename_i hl
          rw [List.getElem?_set_self (by rw [hlen]; exact hl)] at e3
          exact ho j ys e1 e3
        · cases e2
      · rw [List.getElem?_set_ne (Ne.symm hj)] at e1 e3
        rw [List.getElem?_set_ne (Ne.symm hk)] at e2 e3
        exact h.fr.one j k ys zs e1 e2 e3
  · by_cases hj : j = i
    · subst hj
      rw [List.getElem?_set] at e
      simp only [if_true] at e
      split at e
      · rename_i hl
        exact ⟨p, by rw [List.getElem?_set_self (by rw [hlen]; exact hl)], hn⟩
      · cases e
    · rw [List.getElem?_set_ne (Ne.symm hj)] at e ⊢
      exact h.new j ys e
/-- a list just made, owned -/
theorem FrS.fresh {i : Nat} {p : Addr} {vs : List V} {xs : List LP.D} (h : FrS K T Z ρ S σ as F H) (hp : H p = none) (r : RpL K as F vs xs) : FrS K T Z (ρ.set i (some (.ow xs))) S (σ.set i (some (.ref p))) as F (upd H p (.lst vs)) := by
  obtain ⟨ok1, st1⟩ := h.ok.loose (o := .lst vs) hp
  have h1 := h.stp st1 ok1
  refine h1.own upd_same (h.ok.noF hp) (fun hm => ?_) (h.st.live p (Nt.none hp)) r fun j ys e1 e2 => ?_
  · obtain ⟨o, e⟩ := h.ok.there hm
    rw [hp] at e; cases e
  · obtain ⟨us, e3, _⟩ := h.apart e1 e2
    rw [hp] at e3; cases e3
/-- an owned list is changed -/
theorem FrS.chg {i : Nat} {p : Addr} {us : List V} {xs ys : List LP.D} (h : FrS K T Z ρ S σ as F H) (hi : ρ[i]? = some (some (.ow xs))) (hp : σ[i]? = some (some (.ref p))) (r : RpL K as F us ys) : FrS K T Z (ρ.set i (some (.ow ys))) S σ as F (upd H p (.lst us)) := by
  obtain ⟨vs, h1, h2, h3, h4, h5⟩ := h.apart hi hp
  have hup : ∀ a o, a ≠ p → H a = some o → upd H p (.lst us) a = some o := fun a o n e => by rw [upd_ne n]; exact e
  have hil : i < ρ.length := (List.getElem?_eq_some_iff.mp hi).1
  refine ⟨⟨h.st.le, h.st.new, fun a o e n t => ?_, h.st.pre, fun a n => ?_⟩, ⟨fun a o e => hup a o (fun z => by rw [z, h2] at e; cases e) (h.ok.le a o e), h.ok.len, h.ok.nd, h.ok.nof, fun k a so e1 e2 => ?_, fun q hq => ?_, h.ok.ntb⟩, ⟨by simp [h.fr.len], fun j s e => ?_, fun j k ws zs e1 e2 e3 => ?_⟩, fun j ws e => ?_, h.pre, h.lo⟩
  · exact hup a o (fun z => by subst z; exact h5.no e t) (h.st.keep a o e n t)
  · by_cases z : a = p
    · subst z; exact h5
    · refine h.st.live a fun o e => n o ?_
      rw [upd_ne z]; exact e
  · have na : a ≠ p := fun z => h3 (by rw [← z]; exact List.mem_of_getElem? e1)
    have := h.ok.cel k a so e1 e2
    cases so with
    | cell xs => obtain ⟨vs', g1, g2⟩ := this; exact ⟨vs', hup a _ na g1, g2⟩
    | ins c fs => exact this
    | dead => obtain ⟨o, g, g2⟩ := this; exact ⟨o, hup a o na g, g2⟩
  · obtain ⟨ps, g1, g2, g3⟩ := h.ok.tab q hq
    have n1 : q.1 ≠ p := fun z => by rw [z, h1] at g1; cases g1
    refine ⟨ps, hup _ _ n1 g1, g2, fun pos cv hcv => ?_⟩
    obtain ⟨c, e1, e2⟩ := g3 pos cv hcv
    exact ⟨c, e1, hup _ _ (fun z => by rw [z, h1] at e2; cases e2) e2⟩
  · by_cases hj : j = i
    · subst hj
      rw [List.getElem?_set_self hil] at e
      cases e
      exact ⟨_, hp, p, us, rfl, upd_same, h2, h3, r⟩
    · rw [List.getElem?_set_ne (Ne.symm hj)] at e
      obtain ⟨v, e1, e2⟩ := h.fr.at_ j s e
      refine ⟨v, e1, ?_⟩
      cases s with
      | fz d => exact e2
      | ow ws =>
        obtain ⟨q, vs', rfl, g1, g2, g3, g4⟩ := e2
        exact ⟨q, vs', rfl, hup q _ (fun z => hj (h.fr.one j i ws xs e hi (by rw [e1, hp, z]))) g1, g2, g3, g4⟩
  · have back : ∀ (k : Nat) zs, (ρ.set i (some (.ow ys)))[k]? = some (some (.ow zs)) → ∃ zs', ρ[k]? = some (some (.ow zs')) := fun k zs e => by
      by_cases hk : k = i
      · subst hk; exact ⟨xs, hi⟩
      · rw [List.getElem?_set_ne (Ne.symm hk)] at e; exact ⟨zs, e⟩
    obtain ⟨a1, b1⟩ := back j ws e1
    obtain ⟨a2, b2⟩ := back k zs e2
    exact h.fr.one j k a1 a2 b1 b2 e3
  · by_cases hj : j = i
    · subst hj; exact h.new j xs hi
    · rw [List.getElem?_set_ne (Ne.symm hj)] at e; exact h.new j ws e
/-- an owned list will not change any more -/
theorem FrS.frz {i : Nat} {xs : List LP.D} (h : FrS K T Z ρ S σ as F H) (hi : ρ[i]? = some (some (.ow xs))) : ∃ G, FrS K T Z (ρ.set i (some (.fz (.lst xs)))) S σ as G H := by
  obtain ⟨p, hp, _⟩ := h.new i xs hi
  obtain ⟨vs, h1, h2, h3, h4, h5⟩ := h.apart hi hp
  have hil : i < ρ.length := (List.getElem?_eq_some_iff.mp hi).1
  have lG : Le F (upd F p (.lst vs)) := le_upd h2
  have fw : ∀ {v : V} {d : LP.D}, Rp K as F v d → Rp K as (upd F p (.lst vs)) v d := fun hr => hr.up (Pre.refl _) lG
  refine ⟨upd F p (.lst vs), ⟨h.st.le.trans lG, fun a o e => ?_, h.st.keep, h.st.pre, h.st.live⟩, ⟨fun a o e => ?_, h.ok.len, h.ok.nd, fun a ha => ?_, fun k a so e1 e2 => (h.ok.cel k a so e1 e2).mono lG (Le.refl _), h.ok.tab, fun a ps e => ?_⟩, ⟨by simp [h.fr.len], fun j s e => ?_, fun j k ws zs e1 e2 e3 => ?_⟩, fun j ws e => ?_, h.pre, h.lo.trans lG⟩
  · by_cases z : a = p
    · subst z; exact .inr h5
    · rw [upd_ne z] at e; exact h.st.new a o e
  · by_cases z : a = p
    · subst z; rw [upd_same] at e; cases e; exact h1
    · rw [upd_ne z] at e; exact h.ok.le a o e
  · rw [upd_ne (fun z => h3 (by rw [← z]; exact ha))]; exact h.ok.nof a ha
  · by_cases z : a = p
    · subst z; rw [upd_same] at e; cases e
    · rw [upd_ne z] at e; exact h.ok.ntb a ps e
  · by_cases hj : j = i
    · subst hj
      rw [List.getElem?_set_self hil] at e
      cases e
      exact ⟨_, hp, .lst upd_same (h4.up (Pre.refl _) lG)⟩
    · rw [List.getElem?_set_ne (Ne.symm hj)] at e
      obtain ⟨v, e1, e2⟩ := h.fr.at_ j s e
      refine ⟨v, e1, ?_⟩
      cases s with
      | fz d => exact fw e2
      | ow ws =>
        obtain ⟨q, vs', rfl, g1, g2, g3, g4⟩ := e2
        refine ⟨q, vs', rfl, g1, ?_, g3, g4.up (Pre.refl _) lG⟩
        rw [upd_ne (fun z => hj (h.fr.one j i ws xs e hi (by rw [e1, hp, z])))]
        exact g2
  · have nj : j ≠ i := fun z => by subst z; rw [List.getElem?_set_self hil] at e1; cases e1
    have nk : k ≠ i := fun z => by subst z; rw [List.getElem?_set_self hil] at e2; cases e2
    rw [List.getElem?_set_ne (Ne.symm nj)] at e1
    rw [List.getElem?_set_ne (Ne.symm nk)] at e2
    exact h.fr.one j k ws zs e1 e2 e3
  · have nj : j ≠ i := fun z => by subst z; rw [List.getElem?_set_self hil] at e; cases e
    rw [List.getElem?_set_ne (Ne.symm nj)] at e
    exact h.new j ws e
theorem bindT_ow : ∀ (t : Tg), (∀ (d : LP.D) (ρ ρ' : Fr), bindT t d ρ = some ρ' → ∀ (i : Nat) xs, ρ'[i]? = some (some (.ow xs)) → i ∉ t.slots ∧ ρ[i]? = some (some (.ow xs))) ∧
    (∀ (ds : List LP.D) (ρ ρ' : Fr), bindTs t ds ρ = some ρ' → ∀ (i : Nat) xs, ρ'[i]? = some (some (.ow xs)) → i ∉ t.slots ∧ ρ[i]? = some (some (.ow xs))) := by
  intro t
  induction t with
  | name j =>
    refine ⟨fun d ρ ρ' e i xs h => ?_, fun ds ρ ρ' e => ?_⟩
    · rw [bindT] at e
      split at e <;> cases e
      rename_i hl
      have nj : i ≠ j := fun z => by subst z; rw [List.getElem?_set_self hl] at h; cases h
      rw [List.getElem?_set_ne (Ne.symm nj)] at h
      exact ⟨by simp [Tg.slots, nj], h⟩
    · simp [bindTs] at e
  | tnil =>
    have h2 : ∀ (ds : List LP.D) (ρ ρ' : Fr), bindTs .tnil ds ρ = some ρ' → ∀ (i : Nat) xs, ρ'[i]? = some (some (.ow xs)) → i ∉ Tg.tnil.slots ∧ ρ[i]? = some (some (.ow xs)) := fun ds ρ ρ' e i xs h => by
      cases ds with
      | nil => rw [bindTs] at e; cases e; exact ⟨by simp [Tg.slots], h⟩
      | cons => simp [bindTs] at e
    refine ⟨fun d ρ ρ' e => ?_, h2⟩
    cases d with
    | tup xs => rw [bindT] at e; exact h2 xs ρ ρ' e
    | _ => simp [bindT] at e
  | tcons a r iha ihr =>
    have h2 : ∀ (ds : List LP.D) (ρ ρ' : Fr), bindTs (.tcons a r) ds ρ = some ρ' → ∀ (i : Nat) xs, ρ'[i]? = some (some (.ow xs)) → i ∉ (Tg.tcons a r).slots ∧ ρ[i]? = some (some (.ow xs)) := fun ds ρ ρ' e i xs h => by
      cases ds with
      | nil => simp [bindTs] at e
      | cons d ds =>
        rw [bindTs] at e
        cases q : bindT a d ρ with
        | none => simp [q] at e
        | some ρ1 =>
          rw [q] at e
          obtain ⟨k1, k2⟩ := ihr.2 ds ρ1 ρ' e i xs h
          obtain ⟨k3, k4⟩ := iha.1 d ρ ρ1 q i xs k2
          exact ⟨by simp [Tg.slots, k1, k3], k4⟩
    refine ⟨fun d ρ ρ' e => ?_, h2⟩
    cases d with
    | tup xs => rw [bindT] at e; exact h2 xs ρ ρ' e
    | _ => simp [bindT] at e
/-- behind a target -/
theorem FrS.bound {t : Tg} {d : LP.D} {ρ' : Fr} {σ' : L2.St} (h : FrS K T Z ρ S σ as F H) (e : bindT t d ρ = some ρ') (fr : FrOk K as F H σ' ρ') (k : ∀ i, i ∉ t.slots → σ'[i]? = σ[i]?) : FrS K T Z ρ' S σ' as F H := by
  refine ⟨h.st, h.ok, fr, fun i xs hi => ?_, h.pre, h.lo⟩
  obtain ⟨h1, h2⟩ := (bindT_ow t).1 d ρ ρ' e i xs hi
  obtain ⟨p, e1, e2⟩ := h.new i xs h2
  exact ⟨p, by rw [k i h1]; exact e1, e2⟩
/-- a cell of the store is changed -/
theorem FrS.put {k : Nat} {a : Addr} {vs us : List V} {xs ys : List LP.D} (h : FrS K T Z ρ S σ as F H) (hk : as[k]? = some a) (hS : S[k]? = some (.cell xs)) (hv : H a = some (.lst vs)) (r : RpL K as F us ys) : FrS K T Z ρ (S.set k (.cell ys)) σ as F (upd H a (.lst us)) := by
  have ham : a ∈ as := List.mem_of_getElem? hk
  have hFa : F a = none := h.ok.nof a ham
  have hup : ∀ b o, b ≠ a → H b = some o → upd H a (.lst us) b = some o := fun b o n e => by rw [upd_ne n]; exact e
  refine ⟨⟨h.st.le, h.st.new, fun b o e n t => ?_, h.st.pre, fun b n => ?_⟩, ⟨fun b o e => hup b o (fun z => by rw [z, hFa] at e; cases e) (h.ok.le b o e), by rw [List.length_set]; exact h.ok.len, h.ok.nd, h.ok.nof, fun k' b so e1 e2 => ?_, fun q hq => ?_, h.ok.ntb⟩, ⟨h.fr.len, fun j s e => ?_, h.fr.one⟩, h.new, h.pre, h.lo⟩
  · refine hup b o (fun z => ?_) (h.st.keep b o e n t)
    subst z
    obtain ⟨more, e1, hn⟩ := h.st.pre
    rw [e1] at ham
    rcases List.mem_append.mp ham with z | z
    · exact n z
    · exact (hn b z).no e t
  · by_cases z : b = a
    · subst z; exact (n.no upd_same (fun _ z => nomatch z)).elim
    · refine h.st.live b fun o e => n o ?_
      rw [upd_ne z]; exact e
  · by_cases hkk : k' = k
    · subst hkk
      rw [hk] at e1
      cases e1
      rw [List.getElem?_set_self (by rw [← h.ok.len]; exact (List.getElem?_eq_some_iff.mp hk).1)] at e2
      cases e2
      exact ⟨us, upd_same, r⟩
    · rw [List.getElem?_set_ne (Ne.symm hkk)] at e2
      have nb : b ≠ a := fun z => by
        subst z
        exact hkk ((List.getElem?_inj (List.getElem?_eq_some_iff.mp e1).1 h.ok.nd).mp (e1.trans hk.symm))
      have := h.ok.cel k' b so e1 e2
      cases so with
      | cell zs => obtain ⟨vs', g1, g2⟩ := this; exact ⟨vs', hup b _ nb g1, g2⟩
      | ins c fs => exact this
      | dead => obtain ⟨o, g, g2⟩ := this; exact ⟨o, hup b o nb g, g2⟩
  · obtain ⟨ps, g1, g2, g3⟩ := h.ok.tab q hq
    have n1 : q.1 ≠ a := fun z => by rw [z, hv] at g1; cases g1
    refine ⟨ps, hup _ _ n1 g1, g2, fun pos cv hcv => ?_⟩
    obtain ⟨c, e1, e2⟩ := g3 pos cv hcv
    exact ⟨c, e1, hup _ _ (fun z => by rw [z, hv] at e2; cases e2) e2⟩
  · obtain ⟨w, e1, e2⟩ := h.fr.at_ j s e
    refine ⟨w, e1, ?_⟩
    cases s with
    | fz d => exact e2
    | ow ws =>
      obtain ⟨q, vs', rfl, g1, g2, g3, g4⟩ := e2
      exact ⟨q, vs', rfl, hup q _ (fun z => g3 (by rw [z]; exact ham)) g1, g2, g3, g4⟩
theorem setF_some {i : Nat} {s : Sl} {ρ' : Fr} (h : setF ρ i s = some ρ') : i < ρ.length ∧ ρ' = ρ.set i (some s) := by
  unfold setF at h
  split at h <;> cases h
  exact ⟨by assumption, rfl⟩
end
end LP
namespace LP
open PySem PySem.Spec
open PyProof.Rows L2
theorem _root_.L2.PS.imp {X : Cx} {st : Stmt} {t t' : TS} (h : PS X st t) (i : ∀ D σ H, t' D σ H → t D σ H) : PS X st t' := ⟨fun pins s σ H D I q => h.run pins s σ H D I (i D σ H q)⟩
theorem _root_.L2.PSs.imp {X : Cx} {st : List Stmt} {t t' : TS} (h : PSs X st t) (i : ∀ D σ H, t' D σ H → t D σ H) : PSs X st t' := ⟨fun pins s σ H D I q => h.run pins s σ H D I (i D σ H q)⟩
/-! ### a new list, not yet frozen -/
def tO (K : PySem.W.Frag) (T : List (Addr × Str)) (E : XK) (Γ : Gam) (x : Ex) : TE := fun σ H Q => ∃ ρ S as F, Ok K T as S F H ∧ FrOk K as F H σ ρ ∧ PostR K T E as F H (ev Γ x ρ S) fun d _ bs G J => ∃ xs, d = .lst xs ∧ ∀ vs p, J p = none → RpL K bs G vs xs → Q (.ref p) (upd J p (.lst vs))
section
variable {C : Ck} {X : Cx} {T : List (Addr × Str)} {E : XK} {Γ : Gam} {a b x : Ex} {l r : Expr} {pos : Pos}
theorem sOw_lst {es : List Expr} (h : SA X T E Γ false a es) : PE X (.List es pos) (tO X.K T E Γ (.lst a)) := by
  refine (pe_lst h).imp fun σ H Q q => ?_
  obtain ⟨ρ, S, as, F, ok, fr, q⟩ := q
  rw [ev] at q
  refine args_rp ok fr q fun vs ds S1 bs G J st ok1 hr q1 => ?_
  split at q1
  · rename_i hl
    refine ⟨by rw [hr.length]; exact Nat.le_trans hl lim_line, fun p hp => ?_⟩
    obtain ⟨xs, e, q2⟩ := PostR.here (a := D.lst ds) q1 ok1
    cases e
    exact q2 vs p hp hr
  · exact q1.elim
theorem sOw_add (ha : SE X T E Γ a l) (hb : SE X T E Γ b r) : PE X (.BinOp l .Add r pos) (tO X.K T E Γ (.bin .add a b)) := by
  refine (pe_op (op_bin .add) ha hb).imp fun σ H Q q => ?_
  obtain ⟨ρ, S, as, F, ok, fr, q⟩ := q
  rw [ev] at q
  refine two ok fr q fun x y vx vy S1 bs G J st ok1 hx hy q1 => ?_
  obtain ⟨d, e, q2⟩ := q1.ofO
  obtain ⟨zs, ed, q3⟩ := PostR.here (a := d) q2 ok1
  subst ed
  replace e : addD x y = some (.lst zs) := e
  unfold addD at e
  split at e
  · cases e
  · split at e <;> cases e
  · rename_i xs ys
    split at e <;> cases e
    rename_i hl
    obtain ⟨p, vs, rfl, h1, r1⟩ := hx.list ok1.le
    obtain ⟨p2, us, rfl, h2, r2⟩ := hy.list ok1.le
    exact .inr (.inr (.inl ⟨p, p2, vs, us, rfl, rfl, h1, h2, by rw [r1.length, r2.length]; exact Nat.le_trans hl lim_line, fun q hq => q3 _ q hq (r1.append r2)⟩))
  · split at e <;> cases e
  · cases e
theorem sOw (G : Gd C T Γ X E) (hf : x.fresh = true) (h : chkE C x X.env.scope l = true) : PE X l (tO X.K T E Γ x) := by
  cases x with
  | lst as =>
    cases l with
    | List es p => exact sOw_lst (sA as C X E false es G (by simpa only [chkE] using h))
    | _ => cases h
  | bin o a b =>
    cases o with
    | add =>
      cases l with
      | BinOp l op r p =>
        simp only [chkE, Bool.and_eq_true] at h
        obtain rfl := bop_of h.1.1
        exact sOw_add (sE a C X E l G h.1.2).1 (sE b C X E r G h.2).1
      | _ => cases h
    | _ => cases hf
  | _ => cases hf
end
/-! ### several at once -/
def OwnNot (p : Addr) : List (Nat × Bool) → List V → Prop
  | (_, b) :: r, v :: vs => (b = true → v ≠ .ref p) ∧ OwnNot p r vs
  | _, _ => True
def VwP (K : PySem.W.Frag) (as : List Addr) (F J H0 : Hp) : List (Nat × Bool) → List V → List D → Prop
  | [], [], [] => True
  | (_, b) :: r, v :: vs, d :: ds => (if b = true then ∃ p us xs, v = .ref p ∧ d = .lst xs ∧ J p = some (.lst us) ∧ F p = none ∧ p ∉ as ∧ RpL K as F us xs ∧ Nt H0 p ∧ OwnNot p r vs else Rp K as F v d) ∧ VwP K as F J H0 r vs ds
  | _, _, _ => False
section
variable {K : PySem.W.Frag} {T : List (Addr × Str)}
theorem VwP.notp {as : List Addr} {F J H0 : Hp} {p : Addr} {us : List V} (hp : H0 p = some (.lst us)) : ∀ (is : List (Nat × Bool)) (vs : List V) (ds : List D), VwP K as F J H0 is vs ds → OwnNot p is vs
  | [], _, _, _ => by simp [OwnNot]
  | (_, b) :: r, [], _, _ => by simp [OwnNot]
  | (_, b) :: r, v :: vs, [], h => h.elim
  | (_, b) :: r, v :: vs, d :: ds, h => by
    refine ⟨fun hb z => ?_, VwP.notp hp r vs ds h.2⟩
    have h1 := h.1
    rw [if_pos hb] at h1
    obtain ⟨q, _, _, e, _, _, _, _, _, n, _⟩ := h1
    rw [z] at e
    cases e
    exact n.no hp (fun _ z => nomatch z)
theorem VwP.back {as bs : List Addr} {F G H J L : Hp} (st : Stp as F H bs G J) {cs : List Addr} {W : Hp} : ∀ (is : List (Nat × Bool)) (vs : List V) (ds : List D), VwP K cs W L J is vs ds → VwP K cs W L H is vs ds
  | [], [], [], _ => True.intro
  | [], [], _ :: _, h => h.elim
  | [], _ :: _, _, h => h.elim
  | (_, b) :: r, [], _, h => h.elim
  | (_, b) :: r, v :: vs, [], h => h.elim
  | (_, b) :: r, v :: vs, d :: ds, h => by
    refine ⟨?_, VwP.back st r vs ds h.2⟩
    have h1 := h.1
    by_cases hb : b = true
    · rw [if_pos hb] at h1 ⊢
      obtain ⟨q, us, xs, e1, e2, e3, e4, e5, e6, n, e7⟩ := h1
      exact ⟨q, us, xs, e1, e2, e3, e4, e5, e6, st.live q n, e7⟩
    · rw [if_neg hb] at h1 ⊢
      exact h1
end
def tP (K : PySem.W.Frag) (T : List (Addr × Str)) (E : XK) (Γ : Gam) (is : List (Nat × Bool)) (x : Ex) : TA := fun σ H Q => ∃ ρ S as F, Ok K T as S F H ∧ FrOk K as F H σ ρ ∧ PostR K T E as F H (evs Γ false x ρ S) fun ds _ bs G J => ∀ vs, VwP K bs G J H is vs ds → Q vs J
def Ex.isLst : Ex → Bool
  | .lst _ => true
  | _ => false
/-- those to be owned are displays -/
def ownsB : List (Nat × Bool) → Ex → Bool
  | [], .nil => true
  | (_, b) :: r, .cons a as => (!b || a.isLst) && ownsB r as
  | _, _ => false
section
variable {C : Ck} {X : Cx} {T : List (Addr × Str)} {E : XK} {Γ : Gam}
theorem ev_lst {a : Ex} {ρ : Fr} {S S1 : Sto} {d : D} (h : a.isLst = true) (e : ev Γ a ρ S = .ok d S1) : ∃ xs, d = .lst xs := by
  cases a with
  | lst as =>
    rw [ev] at e
    cases e2 : evs Γ false as ρ S with
    | ok ys S2 =>
      rw [e2] at e
      replace e : (if ys.length ≤ lim then Re.ok (D.lst ys) S2 else Re.bad) = .ok d S1 := e
      split at e <;> cases e
      exact ⟨ys, rfl⟩
    | ex c S2 => rw [e2] at e; cases e
    | bad => rw [e2] at e; cases e
  | _ => cases h
theorem sP (G : Gd C T Γ X E) : ∀ (is : List (Nat × Bool)) (x : Ex) (es : List Expr), ownsB is x = true → chks C x X.env.scope es = true → PA X es (tP X.K T E Γ is x)
  | [], x, es, ho, h => by
    cases x with
    | nil =>
      cases es with
      | nil =>
        refine pa_nil.imp fun σ H Q q => ?_
        obtain ⟨ρ, S, as, F, ok, fr, q⟩ := q
        rw [evs] at q
        exact q.here ok [] True.intro
      | cons => cases h
    | _ => cases ho
  | (i, b) :: r, x, es, ho, h => by
    cases x with
    | cons a as =>
      cases es with
      | nil => cases h
      | cons l es =>
        simp only [chks, Bool.and_eq_true] at h
        simp only [ownsB, Bool.and_eq_true, Bool.or_eq_true, Bool.not_eq_true'] at ho
        have hr := sP G r as es ho.2 h.2
        have hs := noStar h.1 es X.env
        cases b with
        | false =>
          refine (pa_cons (sE a C X E l G h.1).1 hr hs).imp fun σ H Q q => ?_
          obtain ⟨ρ, S, as', F, ok, fr, q⟩ := q
          rw [evs] at q
          split at q
          · exact q.elim
          · rename_i hp
            have hp' : a.isPk = false := by simpa using hp
            refine ⟨ρ, S, as', F, ok, fr, q.bind.mono fun d S1 bs G' J st ok1 q1 v hv => ?_⟩
            rw [hp'] at hv
            refine ⟨ρ, S1, bs, G', ok1, fr.stp st, q1.bind.mono fun ds S2 cs W L st2 ok2 q2 vs hvs => ?_⟩
            refine PostR.here (a := d :: ds) q2 ok2 (v :: vs) ⟨?_, VwP.back st r vs ds hvs⟩
            rw [if_neg (by decide)]
            exact hv.rp.stp st2
        | true =>
          have hl : a.isLst = true := by
            rcases ho.1 with z | z
            · cases z
            · exact z
          have hf : a.fresh = true := by cases a <;> first | rfl | cases hl
          refine (pa_cons (sOw G hf h.1) hr hs).imp fun σ H Q q => ?_
          obtain ⟨ρ, S, as', F, ok, fr, q⟩ := q
          rw [evs] at q
          split at q
          · exact q.elim
          · refine ⟨ρ, S, as', F, ok, fr, q.bind.eqn.mono fun d S1 bs G' J st ok1 ⟨e, q1⟩ => ?_⟩
            obtain ⟨xs, rfl⟩ := ev_lst hl e
            refine ⟨xs, rfl, fun vs p hp hr' => ?_⟩
            obtain ⟨ok2, st2⟩ := ok1.loose (o := .lst vs) hp
            have hpb : p ∉ bs := fun hm => by
              obtain ⟨o, e⟩ := ok1.there hm
              rw [hp] at e; cases e
            have hJ : upd J p (.lst vs) p = some (.lst vs) := upd_same
            refine ⟨ρ, S1, bs, G', ok2, (fr.stp st).stp st2, (q1.bind.later st2).mono fun ds S2 cs W L st3 ok3 q3 ws hws => ?_⟩
            refine PostR.here (a := D.lst xs :: ds) q3 ok3 (.ref p :: ws) ⟨?_, VwP.back (st.trans st2) r ws ds hws⟩
            rw [if_pos rfl]
            refine ⟨p, vs, xs, rfl, rfl, st3.keep p _ hJ hpb (fun _ z => nomatch z), ?_, fun hm => ?_, (hr'.stp st2).stp st3, st.live p (Nt.none hp), VwP.notp hJ r ws ds hws⟩
            · cases e : W p with
              | none => rfl
              | some o =>
                rcases st3.new p o e with z | z
                · rw [ok1.noF hp] at z; cases z
                · exact (z.no hJ (fun _ z => nomatch z)).elim
            · obtain ⟨more, rfl, hn⟩ := st3.pre
              rcases List.mem_append.mp hm with z | z
              · exact hpb z
              · exact (hn p z).no hJ (fun _ z => nomatch z)
    | _ => cases ho
/-- the stores -/
def setV : List (Nat × Bool) → List V → L2.St → L2.St
  | (i, _) :: r, v :: vs, σ => setV r vs (σ.set i (some v))
  | _, _, σ => σ
theorem FrS.setAll {K : PySem.W.Frag} {Z : Zt} {S : Sto} {as : List Addr} {F J H0 : Hp} : ∀ (is : List (Nat × Bool)) (vs : List V) (ds : List D) (ρ ρ' : Fr) (σ : L2.St), FrS K T Z ρ S σ as F J → (∀ p, Nt H0 p → Nt Z.H p) → VwP K as F J H0 is vs ds → LP.setAll is ds ρ = some ρ' →
    (∀ (j : Nat) ys p, ρ[j]? = some (some (.ow ys)) → σ[j]? = some (some (.ref p)) → OwnNot p is vs) → FrS K T Z ρ' S (setV is vs σ) as F J
  | [], [], [], ρ, ρ', σ, h, _, _, e, _ => by
    cases (show some ρ = some ρ' from e)
    exact h
  | [], [], _ :: _, _, _, _, _, _, hv, _, _ => hv.elim
  | [], _ :: _, _, _, _, _, _, _, hv, _, _ => hv.elim
  | _ :: _, [], _, _, _, _, _, _, hv, _, _ => by simp [VwP] at hv
  | _ :: _, _ :: _, [], _, _, _, _, _, hv, _, _ => by simp [VwP] at hv
  | (i, b) :: r, v :: vs, d :: ds, ρ, ρ', σ, h, hz, hv, e, hn => by
    replace e : (slOf b d).bind (fun s => (setF ρ i s).bind (LP.setAll r ds)) = some ρ' := e
    cases b with
    | false =>
      have hv1 := hv.1
      rw [if_neg (by decide)] at hv1
      replace e : (setF ρ i (.fz d)).bind (LP.setAll r ds) = some ρ' := e
      cases e2 : setF ρ i (.fz d) with
      | none => rw [e2] at e; cases e
      | some ρ1 =>
        rw [e2] at e
        obtain ⟨hl, rfl⟩ := setF_some e2
        refine FrS.setAll r vs ds _ ρ' _ (h.set hv1) hz hv.2 e fun j ys p e3 e4 => ?_
        have nj : j ≠ i := fun z => by subst z; rw [List.getElem?_set_self hl] at e3; cases e3
        rw [List.getElem?_set_ne (Ne.symm nj)] at e3 e4
        exact (hn j ys p e3 e4).2
    | true =>
      have hv1 := hv.1
      rw [if_pos rfl] at hv1
      obtain ⟨p, us, xs, rfl, rfl, h1, h2, h3, h4, h5, h6⟩ := hv1
      replace e : (setF ρ i (.ow xs)).bind (LP.setAll r ds) = some ρ' := e
      cases e2 : setF ρ i (.ow xs) with
      | none => rw [e2] at e; cases e
      | some ρ1 =>
        rw [e2] at e
        obtain ⟨hl, rfl⟩ := setF_some e2
        refine FrS.setAll r vs ds _ ρ' _ (h.own h1 h2 h3 (hz p h5) h4 fun j ys e3 e4 => (hn j ys p e3 e4).1 rfl rfl) hz hv.2 e fun j ys q e3 e4 => ?_
        by_cases nj : j = i
        · subst nj
          rw [List.getElem?_set_self (by rw [h.fr.len]; exact hl)] at e4
          cases e4
          exact h6
        · rw [List.getElem?_set_ne (Ne.symm nj)] at e3 e4
          exact (hn j ys q e3 e4).2
end
end LP
namespace LP
open PySem PySem.Spec
open PyProof.Rows L2
/-! ### does a text's statement read as an Sm? -/
def notComp : Expr → Bool
  | .ListComp _ _ _ _ => false
  | .SetComp _ _ _ _ => false
  | .DictComp _ _ _ _ _ => false
  | _ => true
def noTup : Expr → Bool
  | .Tuple _ _ _ => false
  | _ => true
def nmLoc (sc : Scope) : Expr → Bool
  | .Name x _ => localB sc x
  | _ => false
/-- a tuple's names are stored from the left -/
def noSwapB (sc : Scope) : Expr → Expr → Bool
  | .Tuple ts _ _, .Tuple vs _ _ => vs.all (foldedForSure 8) || !(ts.all (nmLoc sc))
  | .Tuple _ _ _, _ => true
  | _, _ => false
def parB (N : List Str) (sc : Scope) : List (Nat × Bool) → List Expr → List Expr → Bool
  | [(i, _), (j, _)], [.Name x px, .Name y py], [a, b] => (N[i]? == some x) && (N[j]? == some y) && localB sc x && localB sc y && !(i == j) && !(x == y) && (py.line == px.line) && !(foldedForSure 8 a && foldedForSure 8 b) && !(constantsAlone 8 a && constantsAlone 8 b)
  | [(i, _), (j, _), (l, _)], [.Name x px, .Name y py, .Name z pz], [a, b, c] => (N[i]? == some x) && (N[j]? == some y) && (N[l]? == some z) && localB sc x && localB sc y && localB sc z && !(i == j) && !(i == l) && !(j == l) && !(x == y) && !(x == z) && !(y == z) &&
      (py.line == px.line) && (pz.line == px.line) && !(foldedForSure 8 a && foldedForSure 8 b && foldedForSure 8 c) && !(constantsAlone 8 a && constantsAlone 8 b && constantsAlone 8 c)
  | _, _, _ => false
def excs : List Str := ["BadShore", "BadPool", "BadHeight", "BadCounts", "BadLot", "BadKinds", "BadBounds", "BadDays", "BadSeen", "Nothing", "Full", "BadText"]
def nmAt (N : List Str) (sc : Scope) (i : Nat) (x : Str) : Bool := (N[i]? == some x) && (localB sc x || cellB sc x)
def visAt (N : List Str) (sc : Scope) (i : Nat) (x : Str) : Bool := (N[i]? == some x) && visB sc x && nmOk x
def Sm.isFrz : Sm → Bool
  | .frz _ => true
  | _ => false
def nmsAt (N : List Str) (sc : Scope) : List (Nat × Bool) → List Expr → Bool
  | [], [] => true
  | (i, _) :: r, .Name x _ :: ts => nmAt N sc i x && nmsAt N sc r ts
  | _, _ => false
mutual
def chkS1 (C : Ck) (sc : Scope) : Sm → Stmt → Bool
  | .set i e, .Assign [.Name x _] v _ => nmAt C.N sc i x && chkE C e sc v
  | .own i e, .Assign [.Name x _] v _ => nmAt C.N sc i x && e.fresh && chkE C e sc v
  | .par is as, .Assign [.Tuple ts _ _] (.Tuple vs _ _) _ => (parB C.N sc is ts vs || (nmsAt C.N sc is ts && decide (is.length < 20) && (vs.all (foldedForSure 8) || !(ts.all (nmLoc sc))))) && ownsB is as && chks C as sc vs
  | .unp t e, .Assign [tg] v _ => noSwapB sc tg v && chkT C.N true sc t tg && chkE C e sc v
  | .app i e, .Expr (.Call (.Attribute (.Name x _) a ap) [v] [] cp) _ => (a == ("append" : Str)) && (ap.endLine == cp.line) && visAt C.N sc i x && chkE C e sc v
  | .pop j i, .Assign [.Name y _] (.Call (.Attribute (.Name x _) a ap) [] [] cp) _ => (a == ("pop" : Str)) && (ap.endLine == cp.line) && visAt C.N sc i x && nmAt C.N sc j y
  | .popAt j i e, .Assign [.Name y _] (.Call (.Attribute (.Name x _) a ap) [v] [] cp) _ => (a == ("pop" : Str)) && (ap.endLine == cp.line) && visAt C.N sc i x && nmAt C.N sc j y && chkE C e sc v
  | .put o k e, .Assign [.Subscript oE kE _] v _ => chkE C o sc oE && chkE C k sc kE && chkE C e sc v
  | .ite c a b, .If t x y _ => chkE C c sc t && chkSs C sc a x && chkSs C sc b y
  | .whil c b, .While t x [] _ => chkE C c sc t && chkSs C sc b x
  | .forr t it b, .For tg itE x [] _ => chkT C.N true sc t tg && chki C it sc tg itE && chkSs C sc b x
  | .ret e, .Return (some v) _ => chkE C e sc v
  | .retN, .Return none _ => true
  | .rais c, .Raise (some (.Call (.Name x _) [.Constant (.str _) _ _] [] _)) none _ => (c == x) && excs.contains x && glB sc x && nmOk x
  | .expr e, .Expr v _ => notComp v && chkE C e sc v
  | _, _ => false
def chkSs (C : Ck) (sc : Scope) : Sm → List Stmt → Bool
  | .skip, [] => true
  | .seq a b, sts => if a.isFrz then chkSs C sc b sts else (match sts with
    | st :: rest => chkS1 C sc a st && chkSs C sc b rest
    | [] => false)
  | _, _ => false
end
/-! ### what a body may lean on, beyond expressions -/
structure Gs (C : Ck) (T : List (Addr × Str)) (Γ : Gam) (X : Cx) (E : XK) : Prop extends Gd C T Γ X E where
  fnx : ∀ x, X.fn x = true
  po : PassesOwn (model X.prog X.w) X.A X.env X.xe
  kd : X.env.scope.kind = .function
  exc : ∀ c ∈ excs, ∃ (B newId initId : String) (bmB : List Value), ExcBaseFacts B newId initId bmB ∧ PySem.W.excIn X.K (He.ga X.K c) bmB newId = true ∧ X.mg c = some (.ref (He.ga X.K c)) ∧ PySem.W.keepIn X.K (.ref (He.ga X.K c)) = true ∧ Raises X (.ref (He.ga X.K c))
/-! ### the rules -/
section
variable {C : Ck} {X : Cx} {T : List (Addr × Str)} {E : XK} {Γ : Gam} {e : Ex} {v : Expr} {pos p : Pos} {i : Nat} {x : Str}
abbrev SS (X : Cx) (T : List (Addr × Str)) (E : XK) (Γ : Gam) (s : Sm) (st : Stmt) : Prop := PS X st (tS X.K T E Γ s)
theorem nmAt_of {N : List Str} {sc : Scope} (h : nmAt N sc i x = true) : N[i]? = some x ∧ Loc sc x := by
  unfold nmAt at h
  simp only [Bool.and_eq_true, Bool.or_eq_true] at h
  exact ⟨someB h.1, h.2.elim (fun q => .inl (loc_of q)) fun q => .inr (cell_of q)⟩
theorem bk_of {env : Env} (h : env.scope.kind = .function) : env.blockKind = .function := by unfold Env.blockKind; rw [h]; rfl
theorem sw_name (hk : X.env.scope.kind = .function) (hv : notComp v = true) (l : Nat) (t : Option Expr) : swapsWith v t l X.env = pure false := by
  cases v <;> first | rfl | cases hv
/-- x = value, whatever the reading -/
theorem s_asg {te : TE} (G : Gs C T Γ X E) (hn : nmAt C.N X.env.scope i x = true) (he : PE X v te) (hv : notComp v = true) : PS X (.Assign [.Name x p] v pos) (tAsg te (gName i)) := by
  obtain ⟨h1, h2⟩ := nmAt_of hn
  exact ps_set G.nd (by rw [G.nn]; exact h1) h2 he (sw_name G.kd hv _ _) (.inl (G.fnx x))
theorem set_go {σ : L2.St} {H : Hp} {D : Ends} (q : tS X.K T E Γ (.set i e) D σ H) : tAsg (tI X.K T E Γ e) (gName i) D σ H := by
  obtain ⟨Z, ρ, S, as, F, h, q⟩ := q
  rw [exec] at q
  split at q
  · exact q.elim
  · rename_i hp
    have hp' : e.isPk = false := by simpa using hp
    refine ⟨ρ, S, as, F, h.ok, h.fr, ou_of h q fun d S1 bs G' J st h1 q1 w hw => ?_⟩
    rw [hp'] at hw
    obtain ⟨ρ', e1, q2⟩ := q1.opt
    obtain ⟨_, rfl⟩ := setF_some e1
    exact q2 _ bs G' J (h1.set hw.rp)
theorem s_set (G : Gs C T Γ X E) (hn : nmAt C.N X.env.scope i x = true) (h : chkE C e X.env.scope v = true) : SS X T E Γ (.set i e) (.Assign [.Name x p] v pos) := by
  obtain ⟨h1, h2⟩ := nmAt_of hn
  have h1' : X.N[i]? = some x := by rw [G.nn]; exact h1
  by_cases hv : notComp v = true
  · exact (s_asg G hn (sE e C X E v G.toGd h).1 hv).imp fun D σ H q => set_go q
  · cases v with
    | ListComp el gs scope lp =>
      cases e with
      | comp own elt tg it cnd =>
        by_cases hsw : (localB X.env.scope x && (p.line == lp.line) && !(scope.names.any fun (n, k) => n == x && (k == .local || k == .cell))) = true
        · match gs, h with
          | [⟨tgE, itE, ifs, 0⟩], h =>
            have G0 := G.toGd
            simp only [Bool.and_eq_true, Bool.not_eq_true'] at hsw
            simp only [chkE, Bool.and_eq_true] at h
            obtain ⟨⟨⟨⟨⟨k1, k2⟩, k3⟩, k4⟩, k5⟩, k6⟩ := h
            have hi := sI it C X E tgE itE G0 k4
            have bk : BlkOk X.N X.env.scope scope own := blkOk_by (by rw [G.nn]; exact k1)
            have hsl : ∀ i ∈ tg.slots, i ∈ own.map (·.2) := fun i hi => by
              have := List.all_eq_true.mp k2 i hi
              simpa using this
            have hg : ∀ (s : Shared) (H : Hp) (A : Addr) (cl : List (Str × Addr)) (fp : List Addr), PG (X.blk s H scope (compEnvC scope cl A X.env) fp) tgE (gI X.K tg) := fun s H A cl fp =>
              pgI (X := X.blk s H scope (compEnvC scope cl A X.env) fp) G.calm G.nd false (fun z => nomatch z) tg tgE (by show chkT X.N false (relS scope X.env.scope) tg tgE = true; rw [G.nn]; exact k3)
            have ht : ∀ (s : Shared) (H : Hp) (A : Addr) (cl : List (Str × Addr)) (fp : List Addr), PTs (X.blk s H scope (compEnvC scope cl A X.env) fp) ifs (tIc X.K T E0 Γ cnd) := fun s H A cl fp =>
              sC cnd C (X.blk s H scope (compEnvC scope cl A X.env) fp) E0 ifs (G0.blk s H scope cl A fp) k6
            have he : ∀ (s : Shared) (H : Hp) (A : Addr) (cl : List (Str × Addr)) (fp : List Addr), PE (X.blk s H scope (compEnvC scope cl A X.env) fp) el (tI X.K T E0 Γ elt) := fun s H A cl fp =>
              (sE elt C (X.blk s H scope (compEnvC scope cl A X.env) fp) E0 el (G0.blk s H scope cl A fp) k5).1
            refine (ps_setLc G.calm G.nd h1' (loc_of hsw.1.1) (sw_true G.kd (loc_of hsw.1.1) hsw.1.2 hsw.2) hi bk hg ht he (noSet_fold X.env (chki_fold k4))).imp fun D σ H q => ?_
            exact sE_comp G.calm G.nd hi bk hsl hg ht he (set_go q)
        · have sw : swapsWith (.ListComp el gs scope lp) (some (.Name x p)) pos.line X.env = pure false := by
            unfold swapsWith
            have : (X.env.kindOf x == some .local) = localB X.env.scope x := by
              show (X.env.scope.names.lookup x == some .local) = localB X.env.scope x
              unfold localB
              cases X.env.scope.names.lookup x with
              | none => rfl
              | some k => cases k <;> rfl
            have hsw' := Bool.eq_false_iff.mpr hsw
            simp only [bk_of G.kd, this, Expr.pos]
            show pure _ = pure false
            rw [show ((ScopeKind.function == ScopeKind.function) && localB X.env.scope x && (p.line == lp.line) && !(scope.names.any fun (n, k) => n == x && (k == .local || k == .cell))) = (localB X.env.scope x && (p.line == lp.line) && !(scope.names.any fun (n, k) => n == x && (k == .local || k == .cell))) from by
              rw [show (ScopeKind.function == ScopeKind.function) = true from rfl, Bool.true_and], hsw']
          exact (ps_set G.nd h1' h2 (sE _ C X E _ G.toGd h).1 sw (.inl (G.fnx x))).imp fun D σ H q => set_go q
      | _ => cases h
    | SetComp => cases e <;> cases h
    | DictComp => cases e <;> cases h
    | _ => exact absurd rfl hv
theorem fresh_notComp (hf : e.fresh = true) (h : chkE C e X.env.scope v = true) : notComp v = true := by
  cases e with
  | lst as => cases v <;> first | rfl | cases h
  | bin o a b => cases v <;> first | rfl | cases h
  | _ => cases hf
theorem s_own (G : Gs C T Γ X E) (hn : nmAt C.N X.env.scope i x = true) (hf : e.fresh = true) (h : chkE C e X.env.scope v = true) : SS X T E Γ (.own i e) (.Assign [.Name x p] v pos) := by
  refine (s_asg G hn (sOw G.toGd hf h) (fresh_notComp hf h)).imp fun D σ H q => ?_
  obtain ⟨Z, ρ, S, as, F, hh, q⟩ := q
  rw [exec, if_pos hf] at q
  refine ⟨ρ, S, as, F, hh.ok, hh.fr, ou_of hh q fun d S1 bs G' J st h1 q1 => ?_⟩
  obtain ⟨ρ', e1, q2⟩ := q1.opt
  cases d with
  | lst xs =>
    replace e1 : setF ρ i (.ow xs) = some ρ' := e1
    obtain ⟨_, rfl⟩ := setF_some e1
    exact ⟨xs, rfl, fun vs q hq hr => q2 _ bs G' _ (h1.fresh hq hr)⟩
  | _ => cases e1
end
end LP
namespace LP
open PySem PySem.Spec
open PyProof.Rows L2
section
variable {C : Ck} {X : Cx} {T : List (Addr × Str)} {E : XK} {Γ : Gam} {e : Ex} {v : Expr} {pos p : Pos} {i : Nat} {x : Str}
theorem neB {α : Type} [BEq α] [LawfulBEq α] {a b : α} (h : (a == b) = false) : a ≠ b := fun z => by subst z; simp at h
theorem kindL {env : Env} {y : Str} (h : localB env.scope y = true) : (env.kindOf y == some .local) = true := by
  show (env.scope.names.lookup y == some .local) = true
  rw [loc_of h] <;> rfl
def isStar : Expr → Bool
  | .Starred _ _ => true
  | _ => false
theorem noStarred {C : Ck} {sc : Scope} : ∀ (a : Ex) (es : List Expr), chks C a sc es = true → ∀ e ∈ es, isStar e = false
  | _, [], _ => fun e he => nomatch he
  | a, e :: es, h => by
    cases a with
    | cons a r =>
      simp only [chks, Bool.and_eq_true] at h
      intro e' he
      rcases List.mem_cons.mp he with z | z
      · subst z
        cases e' with
        | Starred t q => cases a <;> cases h.1
        | _ => rfl
      · exact noStarred r es h.2 e' z
    | _ => cases h
theorem symB {u w : Str} (hn : (u == w) = false) : (w == u) = false := by
  cases h : (w == u) with
  | false => rfl
  | true => rw [eq_of_beq h] at hn; simp at hn
theorem sw2 {a b : Expr} {y : Str} {px py pt pt2 : Pos} {kt k2 : Nat} (hk : X.env.scope.kind = .function) (hx : localB X.env.scope x = true) (hy : localB X.env.scope y = true) (hne : (x == y) = false) (hl : (py.line == px.line) = true)
    (hs : ∀ e ∈ [a, b], isStar e = false) (hf : (foldedForSure 8 a && foldedForSure 8 b) = false) (hc : (constantsAlone 8 a && constantsAlone 8 b) = false) :
    swappedStores [.Tuple [.Name x px, .Name y py] kt pt] (.Tuple [a, b] k2 pt2) X.env = pure (some [x, y]) := by
  unfold swappedStores
  have e2 : [x, y].eraseDups = [x, y] := by
    simp [List.eraseDups_cons, hne, symB hne]
  have hf' : [a, b].all (foldedForSure 8) = false := by simpa using hf
  have hc' : [a, b].all (constantsAlone 8) = false := by simpa using hc
  dsimp only
  rw [if_neg (by simp [bk_of hk]), if_neg (fun h => ?_)]
  · simp only [List.filterMap_cons, List.filterMap_nil, kindL hx, kindL hy, hl, Bool.true_and, Bool.and_true, beq_self_eq_true, if_true, List.head?, Option.map, Option.getD, Expr.pos, e2, hf', hc']
    rfl
  · obtain ⟨e, he, h2⟩ := List.any_eq_true.mp h
    have := hs e he
    cases e with
    | Starred t q => cases this
    | _ => cases h2
theorem sw3 {a b c : Expr} {y z : Str} {px py pz pt pt2 : Pos} {kt k2 : Nat} (hk : X.env.scope.kind = .function) (hx : localB X.env.scope x = true) (hy : localB X.env.scope y = true) (hz : localB X.env.scope z = true) (hne : (x == y) = false) (hne1 : (x == z) = false) (hne2 : (y == z) = false) (hl : (py.line == px.line) = true) (hl2 : (pz.line == px.line) = true)
    (hs : ∀ e ∈ [a, b, c], isStar e = false) (hf : (foldedForSure 8 a && foldedForSure 8 b && foldedForSure 8 c) = false) (hc : (constantsAlone 8 a && constantsAlone 8 b && constantsAlone 8 c) = false) :
    swappedStores [.Tuple [.Name x px, .Name y py, .Name z pz] kt pt] (.Tuple [a, b, c] k2 pt2) X.env = pure (some [x, y, z]) := by
  unfold swappedStores
  have e2 : [x, y, z].eraseDups = [x, y, z] := by
    simp [List.eraseDups_cons, hne, hne1, hne2, symB hne, symB hne1, symB hne2]
  have hf' : [a, b, c].all (foldedForSure 8) = false := by simpa [Bool.and_assoc] using hf
  have hc' : [a, b, c].all (constantsAlone 8) = false := by simpa [Bool.and_assoc] using hc
  dsimp only
  rw [if_neg (by simp [bk_of hk]), if_neg (fun h => ?_)]
  · simp only [List.filterMap_cons, List.filterMap_nil, kindL hx, kindL hy, kindL hz, hl, hl2, Bool.true_and, Bool.and_true, beq_self_eq_true, if_true, List.head?, Option.map, Option.getD, Expr.pos, e2, hf', hc']
    rfl
  · obtain ⟨e, he, h2⟩ := List.any_eq_true.mp h
    have := hs e he
    cases e with
    | Starred t q => cases this
    | _ => cases h2
theorem par_go {is : List (Nat × Bool)} {as : Ex} {σ : L2.St} {H : Hp} {D : Ends} (q : tS X.K T E Γ (.par is as) D σ H) : tP X.K T E Γ is as σ H fun vs H1 => D.nx (setV is vs σ) H1 := by
  obtain ⟨Z, ρ, S, as', F, h, q⟩ := q
  rw [exec] at q
  split at q
  · refine ⟨ρ, S, as', F, h.ok, h.fr, ou_of h q fun ds S1 bs G' J st h1 q1 vs hv => ?_⟩
    obtain ⟨ρ', e1, q2⟩ := q1.opt
    refine q2 _ bs G' J (FrS.setAll is vs ds ρ ρ' σ h1 (fun p n => h.st.live p n) hv e1 fun j ys p e2 e3 => ?_)
    obtain ⟨us, g1, _⟩ := h.apart e2 e3
    exact VwP.notp g1 is vs ds hv
  · exact q.elim
theorem VwP.stp {K : PySem.W.Frag} {as bs : List Addr} {F G H0 J L : Hp} (st : Stp as F J bs G L) : ∀ (is : List (Nat × Bool)) (vs : List V) (ds : List LP.D), VwP K as F J H0 is vs ds → VwP K bs G L H0 is vs ds
  | [], [], [], _ => True.intro
  | [], [], _ :: _, h => h.elim
  | [], _ :: _, _, h => h.elim
  | _ :: _, [], _, h => by simp [VwP] at h
  | _ :: _, _ :: _, [], h => by simp [VwP] at h
  | (_, b) :: r, v :: vs, d :: ds, h => by
    refine ⟨?_, VwP.stp st r vs ds h.2⟩
    have h1 := h.1
    by_cases hb : b = true
    · rw [if_pos hb] at h1 ⊢
      obtain ⟨q, us, xs, e1, e2, e3, e4, e5, e6, n, e7⟩ := h1
      refine ⟨q, us, xs, e1, e2, st.keep q _ e3 e5 (fun _ z => nomatch z), ?_, fun hm => ?_, e6.stp st, n, e7⟩
      · cases e : G q with
        | none => rfl
        | some o =>
          rcases st.new q o e with z | z
          · rw [e4] at z; cases z
          · exact (z.no e3 (fun _ z => nomatch z)).elim
      · obtain ⟨more, rfl, hn⟩ := st.pre
        rcases List.mem_append.mp hm with z | z
        · exact e5 z
        · exact (hn q z).no e3 (fun _ z => nomatch z)
    · rw [if_neg hb] at h1 ⊢
      exact h1.stp st
theorem VwP.len {K : PySem.W.Frag} {as : List Addr} {F J H0 : Hp} : ∀ (is : List (Nat × Bool)) (vs : List V) (ds : List LP.D), VwP K as F J H0 is vs ds → vs.length = is.length
  | [], [], [], _ => rfl
  | [], [], _ :: _, h => h.elim
  | [], _ :: _, _, h => h.elim
  | _ :: _, [], _, h => by simp [VwP] at h
  | _ :: _, _ :: _, [], h => by simp [VwP] at h
  | _ :: r, _ :: vs, _ :: ds, h => by rw [List.length_cons, List.length_cons, VwP.len r vs ds h.2]
theorem tP_len {is : List (Nat × Bool)} {as : Ex} {σ : L2.St} {H : Hp} {Q : List V → Hp → Prop} (q : tP X.K T E Γ is as σ H Q) : tP X.K T E Γ is as σ H fun vs H1 => vs.length = is.length ∧ Q vs H1 := by
  obtain ⟨ρ, S, as', F, ok, fr, q⟩ := q
  exact ⟨ρ, S, as', F, ok, fr, q.mono fun ds S1 bs G J st ok1 q1 vs hv => ⟨VwP.len is vs ds hv, q1 vs hv⟩⟩
theorem tP_mono {is : List (Nat × Bool)} {as : Ex} {σ : L2.St} {H : Hp} {Q Q' : List V → Hp → Prop} (q : tP X.K T E Γ is as σ H Q) (m : ∀ vs J, Q vs J → Q' vs J) : tP X.K T E Γ is as σ H Q' := by
  obtain ⟨ρ, S, as', F, ok, fr, q⟩ := q
  exact ⟨ρ, S, as', F, ok, fr, q.mono fun ds S1 bs G J st ok1 q1 vs hv => m vs J (q1 vs hv)⟩
theorem par_goU {is : List (Nat × Bool)} {as : Ex} {σ : L2.St} {H : Hp} {D : Ends} (q : tS X.K T E Γ (.par is as) D σ H) : tP X.K T E Γ is as σ H fun vs H1 => vs.length = is.length ∧ ∀ p, H1 p = none → D.nx (setV is vs σ) (upd H1 p (.tup vs)) := by
  obtain ⟨Z, ρ, S, as', F, h, q⟩ := q
  rw [exec] at q
  split at q
  · refine ⟨ρ, S, as', F, h.ok, h.fr, ou_of h q fun ds S1 bs G' J st h1 q1 vs hv => ⟨VwP.len is vs ds hv, fun p hp => ?_⟩⟩
    obtain ⟨ρ', e1, q2⟩ := q1.opt
    obtain ⟨ok2, st2⟩ := h1.ok.loose (o := .tup vs) hp
    refine q2 _ bs G' _ (FrS.setAll is vs ds ρ ρ' σ (h1.stp st2 ok2) (fun p n => h.st.live p n) (VwP.stp st2 is vs ds hv) e1 fun j ys p e2 e3 => ?_)
    obtain ⟨us, g1, _⟩ := h.apart e2 e3
    exact VwP.notp g1 is vs ds hv
  · exact q.elim
theorem s_par {is : List (Nat × Bool)} {as : Ex} {ts vs : List Expr} {k k2 : Nat} {p2 : Pos} (G : Gs C T Γ X E) (hp : parB C.N X.env.scope is ts vs = true) (ho : ownsB is as = true) (h : chks C as X.env.scope vs = true) : SS X T E Γ (.par is as) (.Assign [.Tuple ts k p] (.Tuple vs k2 p2) pos) := by
  have ha := sP G.toGd is as vs ho h
  have hst := noStarred as vs h
  unfold parB at hp
  split at hp
  · rename_i i b1 j b2 x px y py a b
    simp only [Bool.and_eq_true, Bool.not_eq_true'] at hp
    obtain ⟨⟨⟨⟨⟨⟨⟨⟨h1, h2⟩, h3⟩, h4⟩, h5⟩, h6⟩, h7⟩, h8⟩, h9⟩ := hp
    refine (ps_par (i := i) (j := j) G.calm G.nd (by rw [G.nn]; exact someB h1) (by rw [G.nn]; exact someB h2) (neB h5) (loc_of h3) (loc_of h4) ha (sw2 G.kd h3 h4 h6 h7 hst h8 h9) rfl).imp fun D σ H q => ?_
    refine tP_mono (tP_len (par_go q)) fun vs J ⟨hl, hn⟩ => ?_
    match vs, hl with
    | [u, w], _ => exact ⟨u, w, rfl, hn⟩
  · rename_i i b1 j b2 l b3 x px y py z pz a b c
    simp only [Bool.and_eq_true, Bool.not_eq_true'] at hp
    obtain ⟨⟨⟨⟨⟨⟨⟨⟨⟨⟨⟨⟨⟨⟨⟨h1, h2⟩, h3⟩, h4⟩, h5⟩, h6⟩, h7⟩, h8⟩, h9⟩, h10⟩, h11⟩, h12⟩, h13⟩, h14⟩, h15⟩, h16⟩ := hp
    refine (ps_par3 (i := i) (j := j) (l := l) G.calm G.nd (by rw [G.nn]; exact someB h1) (by rw [G.nn]; exact someB h2) (by rw [G.nn]; exact someB h3) (neB h7) (neB h8) (neB h9) (loc_of h4) (loc_of h5) (loc_of h6) ha (sw3 G.kd h4 h5 h6 h10 h11 h12 h13 h14 hst h15 h16) rfl).imp fun D σ H q => ?_
    refine tP_mono (tP_len (par_go q)) fun vs J ⟨hl, hn⟩ => ?_
    match vs, hl with
    | [u, w, t], _ => exact ⟨u, w, t, rfl, hn⟩
  · cases hp
theorem noSwap_of {tg : Expr} (hk : X.env.scope.kind = .function) (h : noSwapB X.env.scope tg v = true) : swappedStores [tg] v X.env = pure none := by
  cases tg with
  | Tuple ts k q =>
    cases v with
    | Tuple vs k2 q2 =>
      unfold swappedStores
      simp only [noSwapB, Bool.or_eq_true, Bool.not_eq_true'] at h
      simp only
      split
      · rfl
      · split
        · rfl
        · split
          · rfl
          · rename_i hlen
            rcases h with h | h
            · rw [if_pos h]
            · exfalso
              simp only [Bool.or_eq_true, bne_iff_ne, ne_eq, not_or, Decidable.not_not] at hlen
              have hall : ∀ t ∈ ts, nmLoc X.env.scope t = true := by
                have key : ∀ (l : List Expr) (f : Expr → Option Str), (∀ t ∈ l, ∀ y, f t = some y → nmLoc X.env.scope t = true) → (l.filterMap f).length = l.length → ∀ t ∈ l, nmLoc X.env.scope t = true := by
                  intro l f hf
                  induction l with
                  | nil => intro _ t ht; cases ht
                  | cons a r ih =>
                    intro hl t ht
                    cases hfa : f a with
                    | none =>
                      rw [List.filterMap_cons, hfa] at hl
                      have := List.length_filterMap_le f r
                      simp at hl
                      omega
                    | some y =>
                      rw [List.filterMap_cons, hfa] at hl
                      rcases List.mem_cons.mp ht with z | z
                      · rw [z]; exact hf a (List.mem_cons_self ..) y hfa
                      · exact ih (fun t ht y hy => hf t (List.mem_cons_of_mem _ ht) y hy) (by simpa using hl) t z
                refine key ts _ (fun t _ y hy => ?_) hlen.1
                cases t with
                | Name id pp =>
                  simp only at hy
                  split at hy
                  · rename_i hc
                    rw [Bool.and_eq_true] at hc
                    have e : X.env.scope.names.lookup id = some .local := eq_of_beq hc.1
                    show localB X.env.scope id = true
                    unfold localB
                    rw [e]
                  · cases hy
                | _ => cases hy
              have : ts.all (nmLoc X.env.scope) = true := List.all_eq_true.mpr hall
              rw [this] at h
              cases h
    | _ => rfl
  | _ => cases h
def gSet (is : List (Nat × Bool)) : TGs := fun vs σ H Q => vs.length = is.length ∧ Q (setV is vs σ) H
theorem pgs_set (G : Gs C T Γ X E) : ∀ (is : List (Nat × Bool)) (ts : List Expr), nmsAt C.N X.env.scope is ts = true → PGs X ts (gSet is)
  | [], ts, h => by
    cases ts with
    | nil =>
      refine pgs_nil.imp fun vs σ H Q q => ?_
      obtain ⟨h1, h2⟩ := q
      cases vs with
      | nil => exact ⟨rfl, h2⟩
      | cons => cases h1
    | cons => cases h
  | (i, b) :: r, ts, h => by
    cases ts with
    | nil => cases h
    | cons t ts =>
      cases t with
      | Name x p =>
        simp only [nmsAt, Bool.and_eq_true] at h
        obtain ⟨h1, h2⟩ := nmAt_of h.1
        refine (pgs_cons (pg_name (i := i) G.nd (by rw [G.nn]; exact h1) h2 (.inl (G.fnx x))) (pgs_set G r ts h.2) rfl).imp fun vs σ H Q q => ?_
        obtain ⟨h1, h2⟩ := q
        cases vs with
        | nil => cases h1
        | cons v vs => exact ⟨v, vs, rfl, by simpa using h1, h2⟩
      | _ => cases h
theorem nms_each {N : List Str} {sc : Scope} (env : Env) : ∀ (is : List (Nat × Bool)) (ts : List Expr), nmsAt N sc is ts = true → (assignEach ts env).length = is.length ∧ (assignEach ts env).findIdx? (·.1) = none
  | [], ts, h => by
    cases ts with
    | nil => exact ⟨rfl, rfl⟩
    | cons => cases h
  | (i, b) :: r, ts, h => by
    cases ts with
    | nil => cases h
    | cons t ts =>
      cases t with
      | Name x p =>
        simp only [nmsAt, Bool.and_eq_true] at h
        obtain ⟨i1, i2⟩ := nms_each env r ts h.2
        have e1 : assignEach (.Name x p :: ts) env = (false, assign (.Name x p) env) :: assignEach ts env := rfl
        rw [e1]
        refine ⟨by simp [i1], ?_⟩
        rw [List.findIdx?_cons]
        simp [i2]
      | _ => cases h
theorem s_parU {is : List (Nat × Bool)} {as : Ex} {ts vs : List Expr} {k k2 : Nat} {p2 : Pos} (G : Gs C T Γ X E) (hn : nmsAt C.N X.env.scope is ts = true) (hlen : is.length < 20) (hs : noSwapB X.env.scope (.Tuple ts k p) (.Tuple vs k2 p2) = true) (ho : ownsB is as = true) (h : chks C as X.env.scope vs = true) :
    SS X T E Γ (.par is as) (.Assign [.Tuple ts k p] (.Tuple vs k2 p2) pos) := by
  obtain ⟨l1, l2⟩ := nms_each X.env is ts hn
  refine (ps_asg (pe_tup (sP G.toGd is as vs ho h)) (pg_tup (n := is.length) G.calm (pgs_set G is ts hn) l1 l2) rfl (noSwap_of G.kd hs) rfl).imp fun D σ H q => ?_
  refine tP_mono (par_goU q) fun us J ⟨hl, hn2⟩ => ⟨by rw [hl]; exact Nat.le_trans (Nat.le_of_lt hlen) (by decide), fun p hp => ⟨p, us, rfl, SqT.of upd_same, hl, hl, hn2 p hp⟩⟩
theorem s_unp {t : Tg} {tg : Expr} (G : Gs C T Γ X E) (hs : noSwapB X.env.scope tg v = true) (ht : chkT C.N true X.env.scope t tg = true) (h : chkE C e X.env.scope v = true) : SS X T E Γ (.unp t e) (.Assign [tg] v pos) := by
  have hg := pgI G.calm G.nd true (fun _ => G.fnx) t tg (by rw [G.nn]; exact ht)
  have hsole : swapsWithSole [tg] v pos.line X.env = pure false := by
    cases tg with
    | Tuple ts k q =>
      show swapsWith v (some (.Tuple ts k q)) pos.line X.env = pure false
      cases v <;> rfl
    | _ => cases hs
  have h1 : (assignEach [tg] X.env).map (·.2) = [assign tg X.env] := by
    cases tg with
    | Tuple ts k q => rfl
    | _ => cases hs
  refine (ps_asg (sE e C X E v G.toGd h).1 hg hsole (noSwap_of G.kd hs) h1).imp fun D σ H q => ?_
  obtain ⟨Z, ρ, S, as, F, hh, q⟩ := q
  rw [exec] at q
  split at q
  · exact q.elim
  · rename_i hp
    have hp' : e.isPk = false := by simpa using hp
    refine ⟨ρ, S, as, F, hh.ok, hh.fr, ou_of hh q fun d S1 bs G' J st h1 q1 w hw => ?_⟩
    rw [hp'] at hw
    obtain ⟨ρ', e1, q2⟩ := q1.opt
    exact ⟨bs, G', d, ρ, ρ', h1.ok.le, h1.fr, hw.rp, e1, fun σ' fr' k => q2 σ' bs G' J (h1.bound e1 fr' k)⟩
/-! ### methods of owned lists -/
theorem visAt_of {N : List Str} {sc : Scope} (h : visAt N sc i x = true) : N[i]? = some x ∧ Vis sc x ∧ (x == ("__debug__" : Str)) = false ∧ (x == ("__classdict__" : Str)) = false := by
  unfold visAt at h
  rw [Bool.and_eq_true, Bool.and_eq_true] at h
  exact ⟨someB h.1.1, vis_of h.1.2, nm_of h.2⟩
def tOwn (i : Nat) : TE := fun σ H Q => ∃ v, σ[i]? = some (some v) ∧ Q v H
theorem few1 {cp : Pos} (hs : starEach [v] X.env = [(false, eval v X.env)]) : ((backTo cp (starEach [v] X.env)).all (fun x => !x.1) && (backToKw cp (keywordEach [] X.env)).all (fun x => x.1.isSome)
      && decide ([v].length + ([] : List Keyword).length + (if ([] : List Keyword).isEmpty then 0 else 1) < 30)) = true := by
  rw [hs] <;> rfl
theorem s_app {a : Str} {ap cp px : Pos} (G : Gs C T Γ X E) (ha : a = "append") (hl : (ap.endLine == cp.line) = true) (hx : visAt C.N X.env.scope i x = true) (h : chkE C e X.env.scope v = true) :
    SS X T E Γ (.app i e) (.Expr (.Call (.Attribute (.Name x px) a ap) [v] [] cp) pos) := by
  subst ha
  obtain ⟨h1, h2, h3, h4⟩ := visAt_of hx
  have hs := noStar h [] X.env
  have ho : PE X (.Name x px) (tVar i) := pe_var (i := i) (by rw [G.nn]; exact h1) h2 h3 h4
  have hA : PA X [v] (tCons (tI X.K T E Γ e) tNil) := pa_cons (sE e C X E v G.toGd h).1 pa_nil hs
  refine (ps_expr (pe_bm F.plainAttrs_list F.slot_list_append type_list_append mt_append ho hA rfl (few1 hs) hl hs rfl) rfl).imp fun D σ H q => ?_
  obtain ⟨Z, ρ, S, as, F, hh, q⟩ := q
  rw [exec] at q
  split at q
  · exact q.elim
  · rename_i hp
    have hp' : e.isPk = false := by simpa using hp
    split at q
    · rename_i xs hi
      obtain ⟨p, hp1, _⟩ := hh.new i xs hi
      obtain ⟨vs, g1, g2, g3, g4, g5⟩ := hh.apart hi hp1
      refine ⟨.ref p, hp1, .inl ⟨rfl, vs, SqL.of g1⟩, ?_⟩
      show tI X.K T E Γ e σ H fun y H1 => rAppend (.ref p) [y] H1 fun _ H2 => D.nx σ H2
      refine ⟨ρ, S, as, F, hh.ok, hh.fr, ou_of hh q fun d S1 bs G' J st h1 q1 w hw => ?_⟩
      rw [hp'] at hw
      split at q1
      · rename_i hlt
        obtain ⟨us, k1, k2, k3, k4, k5⟩ := h1.apart hi hp1
        exact ⟨p, us, w, rfl, rfl, k1, by rw [k4.length]; exact Nat.lt_of_lt_of_le hlt lim_line, q1 σ bs G' _ (h1.chg hi hp1 (k4.append (.cons hw.rp .nil)))⟩
      · exact q1.elim
    · exact q.elim
end
end LP
namespace LP
open PySem PySem.Spec
open PyProof.Rows L2
section
variable {C : Ck} {X : Cx} {T : List (Addr × Str)} {E : XK} {Γ : Gam} {e : Ex} {v : Expr} {pos p : Pos} {i j : Nat} {x y : Str}
theorem rpLast {K : PySem.W.Frag} {as : List Addr} {F : Hp} {vs : List V} {xs : List LP.D} {d : LP.D} (h : RpL K as F vs xs) (e : xs.getLast? = some d) : ∃ w, vs[vs.length - 1]? = some w ∧ Rp K as F w d := by
  rw [List.getLast?_eq_getElem?] at e
  obtain ⟨w, e1, e2⟩ := h.get e
  exact ⟨w, by rw [h.length]; exact e1, e2⟩
theorem s_pop {a : Str} {ap cp px py : Pos} (G : Gs C T Γ X E) (ha : a = "pop") (hl : (ap.endLine == cp.line) = true) (hx : visAt C.N X.env.scope i x = true) (hy : nmAt C.N X.env.scope j y = true) :
    SS X T E Γ (.pop j i) (.Assign [.Name y py] (.Call (.Attribute (.Name x px) a ap) [] [] cp) pos) := by
  subst ha
  obtain ⟨h1, h2, h3, h4⟩ := visAt_of hx
  have ho : PE X (.Name x px) (tVar i) := pe_var (i := i) (by rw [G.nn]; exact h1) h2 h3 h4
  refine (s_asg G hy (pe_bm0 F.plainAttrs_list F.slot_list_pop F.type_list_pop mt_pop ho rfl hl) rfl).imp fun D σ H q => ?_
  obtain ⟨Z, ρ, S, as, F, hh, q⟩ := q
  rw [exec] at q
  split at q
  · rename_i xs hi
    obtain ⟨p, hp1, _⟩ := hh.new i xs hi
    obtain ⟨vs, g1, g2, g3, g4, g5⟩ := hh.apart hi hp1
    obtain ⟨d, e1, q1⟩ := q.opt
    obtain ⟨ρ', e2, q2⟩ := q1.opt
    obtain ⟨w, e3, e4⟩ := rpLast g4 e1
    obtain ⟨_, rfl⟩ := setF_some e2
    exact ⟨.ref p, hp1, .inl ⟨rfl, vs, SqL.of g1⟩, p, vs, w, rfl, rfl, g1, e3, q2 _ as F _ ((hh.chg hi hp1 g4.dropLast).set e4)⟩
  · exact q.elim
theorem ixAt_seq {n k : Nat} {z : Int} (h : ixAt n z = some k) : seqIndex? z n = some k ∧ k < n ∧ -(n : Int) ≤ z ∧ z < n := ixN_seq (show ixN n z = some k from h)
theorem s_popAt {a : Str} {ap cp px py : Pos} (G : Gs C T Γ X E) (ha : a = "pop") (hl : (ap.endLine == cp.line) = true) (hx : visAt C.N X.env.scope i x = true) (hy : nmAt C.N X.env.scope j y = true) (h : chkE C e X.env.scope v = true) :
    SS X T E Γ (.popAt j i e) (.Assign [.Name y py] (.Call (.Attribute (.Name x px) a ap) [v] [] cp) pos) := by
  subst ha
  obtain ⟨h1, h2, h3, h4⟩ := visAt_of hx
  have hs := noStar h [] X.env
  have ho : PE X (.Name x px) (tVar i) := pe_var (i := i) (by rw [G.nn]; exact h1) h2 h3 h4
  have hA : PA X [v] (tCons (tI X.K T E Γ e) tNil) := pa_cons (sE e C X E v G.toGd h).1 pa_nil hs
  refine (s_asg G hy (pe_bm F.plainAttrs_list F.slot_list_pop F.type_list_pop mt_popAt ho hA rfl (few1 hs) hl hs rfl) rfl).imp fun D σ H q => ?_
  obtain ⟨Z, ρ, S, as, F, hh, q⟩ := q
  rw [exec] at q
  split at q
  · rename_i xs hi
    obtain ⟨p, hp1, _⟩ := hh.new i xs hi
    obtain ⟨vs, g1, g2, g3, g4, g5⟩ := hh.apart hi hp1
    refine ⟨.ref p, hp1, .inl ⟨rfl, vs, SqL.of g1⟩, ?_⟩
    show tI X.K T E Γ e σ H fun y H1 => rPopAt (.ref p) [y] H1 fun w H2 => D.nx (σ.set j (some w)) H2
    refine ⟨ρ, S, as, F, hh.ok, hh.fr, ou_of hh q fun d S1 bs G' J st h1 q1 w hw => ?_⟩
    obtain ⟨k, e1, q2⟩ := q1.opt
    obtain ⟨d2, e2, q3⟩ := q2.opt
    obtain ⟨ρ', e3, q4⟩ := q3.opt
    obtain ⟨_, rfl⟩ := setF_some e3
    split at e1
    case isFalse => cases e1
    rename_i hlim
    cases d with
    | int z =>
      cases hw.nolist (fun _ z => nomatch z)
      replace e1 : ixAt xs.length z = some k := e1
      obtain ⟨us, k1, k2, k3, k4, k5⟩ := h1.apart hi hp1
      obtain ⟨s1, s2, s3, s4⟩ := ixAt_seq e1
      obtain ⟨w2, f1, f2⟩ := k4.get e2
      have hb : xs.length ≤ 1000000 := hlim
      exact ⟨p, us, z, k, w2, rfl, rfl, k1, by omega, by omega, by rw [k4.length]; exact s1, f1, q4 _ bs G' _ ((h1.chg hi hp1 (k4.eraseIdx k)).set f2)⟩
    | _ => cases e1
  · exact q.elim
theorem s_put {o k : Ex} {oE kE : Expr} (G : Gs C T Γ X E) (h1 : chkE C o X.env.scope oE = true) (h2 : chkE C k X.env.scope kE = true) (h3 : chkE C e X.env.scope v = true) : SS X T E Γ (.put o k e) (.Assign [.Subscript oE kE p] v pos) := by
  have hi := noSlice h2
  have hg : PG X (.Subscript oE kE p) (gSub (tI X.K T E Γ o) (tI X.K T E Γ k) rSetL) := pg_sub (sE o C X E oE G.toGd h1).1 (sE k C X E kE G.toGd h2).1 set_list (by
    intro w
    cases kE <;> first | rfl | (cases k <;> cases h2))
  have hs : swapsWithSole [.Subscript oE kE p] v pos.line X.env = pure false := by
    show swapsWith v (some (.Subscript oE kE p)) pos.line X.env = pure false
    cases v <;> rfl
  have hw : swappedStores [.Subscript oE kE p] v X.env = pure none := by cases v <;> rfl
  refine (ps_asg (sE e C X E v G.toGd h3).1 hg hs hw rfl).imp fun D σ H q => ?_
  obtain ⟨Z, ρ, S, as, F, hh, q⟩ := q
  rw [exec] at q
  split at q
  · exact q.elim
  · rename_i hp
    have hp' : e.isPk = false := by simpa using hp
    refine ⟨ρ, S, as, F, hh.ok, hh.fr, ou_of hh q fun d S1 bs G1 J1 st1 hh1 q1 w hw => ?_⟩
    rw [hp'] at hw
    refine ⟨ρ, S1, bs, G1, hh1.ok, hh1.fr, ou_of hh1 q1 fun dO S2 cs G2 J2 st2 hh2 q2 wo hwo => ?_⟩
    refine ⟨ρ, S2, cs, G2, hh2.ok, hh2.fr, ou_of hh2 q2 fun dK S3 ds G3 J3 st3 hh3 q3 wk hwk => ?_⟩
    obtain ⟨S4, e1, q4⟩ := q3.opt
    unfold putD at e1
    split at e1
    · rename_i kk ii
      cases hwk.nolist (fun _ z => nomatch z)
      have hob := hwo.nolist (fun _ z => nomatch z)
      cases hob with
      | obj ha =>
        rename_i a
        have ha3 : ds[kk]? = some a := st3.toPre.get ha
        cases hc : cellAt S3 kk with
        | none => rw [hc] at e1; cases e1
        | some xs =>
          rw [hc] at e1
          replace e1 : (ixAt xs.length ii).map (fun j => S3.set kk (.cell (xs.set j d))) = some S4 := e1
          cases hj : ixAt xs.length ii with
          | none => rw [hj] at e1; cases e1
          | some j =>
            rw [hj] at e1
            cases e1
            have hS : S3[kk]? = some (.cell xs) := by
              unfold cellAt at hc
              split at hc <;> cases hc
              assumption
            obtain ⟨vs, g1, g2⟩ := hh3.ok.cel kk a _ ha3 hS
            exact ⟨a, vs, ii, j, rfl, rfl, g1, by rw [g2.length]; exact hj, q4 σ ds G3 _ (hh3.put ha3 hS g1 (g2.set ((hw.rp.stp st2).stp st3) j))⟩
    · cases e1
theorem s_ite {c : Ex} {a b : Sm} {t : Expr} {xs ys : List Stmt} (hc : ST X T E Γ c t) (ha : PSs X xs (tS X.K T E Γ a)) (hb : PSs X ys (tS X.K T E Γ b)) : SS X T E Γ (.ite c a b) (.If t xs ys pos) := by
  refine (ps_if hc ha hb).imp fun D σ H q => ?_
  obtain ⟨Z, ρ, S, as, F, hh, q⟩ := q
  rw [exec] at q
  refine ⟨ρ, S, as, F, hh.ok, hh.fr, ou_of hh q fun t S1 bs G1 J1 st1 hh1 q1 => ?_⟩
  cases t with
  | true => exact ⟨Z, ρ, S1, bs, G1, hh1, q1⟩
  | false => exact ⟨Z, ρ, S1, bs, G1, hh1, q1⟩
theorem s_ret (he : SE X T E Γ e v) : SS X T E Γ (.ret e) (.Return (some v) pos) := by
  refine (ps_ret he).imp fun D σ H q => ?_
  obtain ⟨Z, ρ, S, as, F, hh, q⟩ := q
  rw [exec] at q
  split at q
  · exact q.elim
  · rename_i hp
    have hp' : e.isPk = false := by simpa using hp
    refine ⟨ρ, S, as, F, hh.ok, hh.fr, ou_of hh q fun d S1 bs G1 J1 st1 hh1 q1 w hw => ?_⟩
    rw [hp'] at hw
    exact q1 bs G1 J1 w hh1.st hh1.ok hw.rp
theorem s_retN : SS X T E Γ .retN (.Return none pos) := by
  refine ps_retN.imp fun D σ H q => ?_
  obtain ⟨Z, ρ, S, as, F, hh, q⟩ := q
  rw [exec] at q
  exact q as F H .non hh.st hh.ok .non
theorem s_expr (he : SE X T E Γ e v) (hk : X.env.scope.kind = .function) (hv : notComp v = true) : SS X T E Γ (.expr e) (.Expr v pos) := by
  refine (ps_expr he (sw_name hk hv _ _)).imp fun D σ H q => ?_
  obtain ⟨Z, ρ, S, as, F, hh, q⟩ := q
  rw [exec] at q
  exact ⟨ρ, S, as, F, hh.ok, hh.fr, ou_of hh q fun d S1 bs G1 J1 st1 hh1 q1 w hw => q1 σ bs G1 J1 hh1⟩
theorem s_rais {c m : Str} {k : Nat} {p1 p2 p3 : Pos} (G : Gs C T Γ X E) (hc : c ∈ excs) (hg : glB X.env.scope c = true) (hn : nmOk c = true) : SS X T E Γ (.rais c) (.Raise (some (.Call (.Name c p1) [.Constant (.str m) k p2] [] p3)) none pos) := by
  obtain ⟨B, newId, initId, bmB, e1, e2, e3, e4, e5⟩ := G.exc c hc
  refine (L2N.ps_raise G.calm G.tk (L2N.pmk_own e1 e2 e3 e4 e5 (gl_of hg) (nm_of hn).1)).imp fun D σ H q => ?_
  obtain ⟨Z, ρ, S, as, F, hh, q⟩ := q
  rw [exec] at q
  exact q as F H hh.st hh.ok
theorem s_skip : PSs X [] (tS X.K T E Γ .skip) := by
  refine pss_nil.imp fun D σ H q => ?_
  obtain ⟨Z, ρ, S, as, F, hh, q⟩ := q
  rw [exec] at q
  exact q σ as F H hh
theorem seq_go {a b : Sm} {D : Ends} {σ : L2.St} {H : Hp} (q : tS X.K T E Γ (.seq a b) D σ H) : tSeq (tS X.K T E Γ a) (tS X.K T E Γ b) D σ H := by
  obtain ⟨Z, ρ, S, as, F, hh, q⟩ := q
  rw [exec] at q
  refine ⟨Z, ρ, S, as, F, hh, ?_⟩
  cases e : exec Γ a ρ S with
  | nx ρ1 S1 =>
    rw [e] at q
    exact fun σ1 bs G J h1 => ⟨Z, ρ1, S1, bs, G, h1, q⟩
  | rt d S1 => rw [e] at q; exact q
  | ex c S1 => rw [e] at q; exact q
  | bad => rw [e] at q; exact q
theorem s_seq {a b : Sm} {st : Stmt} {rest : List Stmt} (ha : SS X T E Γ a st) (hb : PSs X rest (tS X.K T E Γ b)) : PSs X (st :: rest) (tS X.K T E Γ (.seq a b)) := (pss_cons ha hb).imp fun D σ H q => seq_go q
theorem s_frz {b : Sm} {sts : List Stmt} (hb : PSs X sts (tS X.K T E Γ b)) : PSs X sts (tS X.K T E Γ (.seq (.frz i) b)) := by
  refine hb.imp fun D σ H q => ?_
  obtain ⟨Z, ρ, S, as, F, hh, q⟩ := q
  rw [exec, exec] at q
  split at q
  · rename_i xs hi
    obtain ⟨G, h1⟩ := hh.frz hi
    exact ⟨Z, _, S, as, G, h1, q⟩
  · exact ⟨Z, ρ, S, as, F, hh, q⟩
theorem s_whil {c : Ex} {b : Sm} {t : Expr} {xs : List Stmt} (G : Gs C T Γ X E) (hc : ST X T E Γ c t) (hb : PSs X xs (tS X.K T E Γ b)) : SS X T E Γ (.whil c b) (.While t xs [] pos) := by
  refine (ps_while G.po hc hb).imp fun D σ H q => ?_
  obtain ⟨Z, ρ, S, as, F, hh, q⟩ := q
  rw [exec] at q
  refine ⟨fun m σ H => ∃ ρ S as F, FrS X.K T Z ρ S σ as F H ∧ PostU X.K T E Z (wloop (fun ρ S => evT Γ c ρ S) (fun ρ S => exec Γ b ρ S) m ρ S) D, ⟨wmost, ρ, S, as, F, hh, q⟩, ?_⟩
  rintro m σ H ⟨ρ, S, as, F, hh, q⟩
  cases m with
  | zero => exact q.elim
  | succ m =>
    rw [wloop] at q
    refine ⟨ρ, S, as, F, hh.ok, hh.fr, ou_of hh q fun t S1 bs G1 J1 st1 hh1 q1 => ?_⟩
    cases t with
    | false => exact q1 σ bs G1 J1 hh1
    | true =>
      dsimp only
      rw [if_pos rfl]
      refine ⟨fun σ H => ∃ ρ S as F, FrS X.K T Z ρ S σ as F H ∧ PostU X.K T E Z (wloop (fun ρ S => evT Γ c ρ S) (fun ρ S => exec Γ b ρ S) m ρ S) D, fun σ' H' h' => ⟨m, Nat.lt_succ_self _, h'⟩, Z, ρ, S1, bs, G1, hh1, ?_⟩
      rw [if_pos rfl] at q1
      cases e : exec Γ b ρ S1 with
      | nx ρ1 S2 =>
        rw [e] at q1
        exact fun σ1 cs G2 J2 h2 => ⟨ρ1, S2, cs, G2, h2, q1⟩
      | rt d S2 => rw [e] at q1; exact q1
      | ex c S2 => rw [e] at q1; exact q1
      | bad => rw [e] at q1; exact q1
theorem s_forr {t : Tg} {it : Ex} {b : Sm} {tg itE : Expr} {xs : List Stmt} (G : Gs C T Γ X E) (ht : chkT C.N true X.env.scope t tg = true) (hi : chki C it X.env.scope tg itE = true) (hb : PSs X xs (tS X.K T E Γ b)) : SS X T E Γ (.forr t it b) (.For tg itE xs [] pos) := by
  have hg := pgI G.calm G.nd true (fun _ => G.fnx) t tg (by rw [G.nn]; exact ht)
  refine (ps_for G.po G.calm (sI it C X E tg itE G.toGd hi) hg hb (noSet_fold X.env (chki_fold hi))).imp fun D σ H q => ?_
  obtain ⟨Z, ρ, S, as, F, hh, q⟩ := q
  rw [exec] at q
  refine ⟨ρ, S, as, F, hh.ok, hh.fr, ou_of hh q fun ys S1 bs G1 J1 st1 hh1 q1 Jt wk => ?_⟩
  split at q1
  · refine for_it wk (fun n σ H => ∃ ρ S as F, FrS X.K T { Z with bs := bs, G := G1 } ρ S σ as F H ∧ PostU X.K T E Z (floop (bindT t) (fun ρ S => exec Γ b ρ S) (ys.drop n) ρ S) D) ⟨ρ, S1, bs, G1, ⟨hh1.st, hh1.ok, hh1.fr, hh1.new, Pre.refl _, Le.refl _⟩, by rw [List.drop_zero]; exact q1⟩
      (fun n σ H _ p => ?_) (fun n w σ H H' hlt p y => ?_) (fun σ H p => ?_)
    · obtain ⟨ρ, S, as, F, h, _⟩ := p
      exact h.lo.trans h.ok.le
    · obtain ⟨ρ2, S2, cs, F2, h2, q2⟩ := p
      have pr : Pre bs cs := h2.pre
      have l2 : Le G1 F2 := h2.lo
      have hx : ys[n]? = some ys[n] := by simp [hlt]
      have hdrop : ys.drop n = ys[n] :: ys.drop (n + 1) := List.drop_eq_getElem_cons hlt
      rw [hdrop, floop] at q2
      obtain ⟨ρ3, e3, q3⟩ := q2.opt
      have item : ∃ G2, FrS X.K T { Z with bs := bs, G := G1 } ρ2 S2 σ cs G2 H' ∧ Rp X.K cs G2 w ys[n] := by
        rcases y with ⟨rfl, d, e1, e2⟩ | ⟨q', v1, v2, d1, d2, rfl, hq, rfl, e1, f1, f2⟩
        · rw [hx] at e1
          cases e1
          exact ⟨F2, h2, e2.up pr l2⟩
        · rw [hx] at e1
          have e1 := Option.some.inj e1
          obtain ⟨ok3, st3⟩ := h2.ok.frozen (p := q') (o := .tup [v1, v2]) hq (fun _ z => nomatch z)
          rw [e1]
          exact ⟨_, h2.stp st3 ok3, .tup (SqT.of upd_same) (.cons ((f1.up pr l2).stp st3) (.cons ((f2.up pr l2).stp st3) .nil))⟩
      obtain ⟨G2, h3, hrp⟩ := item
      refine ⟨cs, G2, ys[n], ρ2, ρ3, h3.ok.le, h3.fr, hrp, e3, fun σ' fr' k => ⟨{ Z with bs := bs, G := G1 }, ρ3, S2, cs, G2, h3.bound e3 fr' k, ?_⟩⟩
      cases e : exec Γ b ρ3 S2 with
      | nx ρ4 S4 =>
        rw [e] at q3
        exact fun σ1 ds G4 J4 h4 => ⟨ρ4, S4, ds, G4, h4, q3⟩
      | rt d S4 => rw [e] at q3; exact q3
      | ex c S4 => rw [e] at q3; exact q3
      | bad => rw [e] at q3; exact q3
    · obtain ⟨ρ, S, as, F, h, q⟩ := p
      rw [List.drop_of_length_le (Nat.le_refl _)] at q
      exact q σ as F H ⟨h.st, h.ok, h.fr, h.new, hh1.pre.trans h.pre, hh1.lo.trans h.lo⟩
  · exact q1.elim
end
end LP
namespace LP
open PySem PySem.Spec
open PyProof.Rows L2
/-! ### plain parameters -/
theorem zip_lookup {α : Type} : ∀ (ps : List Str) (us : List α), us.length = ps.length → ∀ n ∈ ps, ((ps.zip us).lookup n).isNone = false
  | [], _, _, n, h => nomatch h
  | p :: ps, [], hl, n, h => by cases hl
  | p :: ps, u :: us, hl, n, h => by
    rw [List.zip_cons_cons, List.lookup_cons]
    cases hb : (n == p) with
    | true => rfl
    | false =>
      obtain z | z := List.mem_cons.mp h
      · rw [z] at hb; simp at hb
      · exact zip_lookup ps us (by simpa using hl) n z
theorem zip_fm {α : Type} : ∀ (ps : List Str) (us : List α), us.length = ps.length → ps.Nodup → (ps.filterMap fun n => ((ps.zip us).lookup n).map (n, ·)) = ps.zip us := by
  have key : ∀ (qs ps : List Str) (us : List α), us.length = ps.length → (∀ n ∈ qs, n ∈ ps → False) → ps.Nodup → ∀ (vs : List α), vs.length = qs.length → (ps.filterMap fun n => ((qs.zip vs ++ ps.zip us).lookup n).map (n, ·)) = ps.zip us := by
    intro qs ps
    induction ps generalizing qs with
    | nil => intro us hl _ _ vs _; cases us <;> simp
    | cons p ps ih =>
      intro us hl hd nd vs hv
      cases us with
      | nil => cases hl
      | cons u us =>
        have hnone : ∀ (qs : List Str) (vs : List α), (∀ n ∈ qs, n ≠ p) → (qs.zip vs).lookup p = none := by
          intro qs
          induction qs with
          | nil => intro vs _; rfl
          | cons q qs ihq =>
            intro vs h
            cases vs with
            | nil => rfl
            | cons v vs =>
              rw [List.zip_cons_cons, List.lookup_cons]
              have : (p == q) = false := by
                have := h q (List.mem_cons_self ..)
                simp [Ne.symm this]
              rw [this]
              exact ihq vs fun n hn => h n (List.mem_cons_of_mem _ hn)
        have h1 : (qs.zip vs ++ (p :: ps).zip (u :: us)).lookup p = some u := by
          rw [List.lookup_append, hnone qs vs fun n hn z => hd n hn (by rw [z]; exact List.mem_cons_self ..), List.zip_cons_cons, List.lookup_cons]
          simp
        rw [List.filterMap_cons, h1]
        show (p, u) :: _ = _
        rw [List.zip_cons_cons]
        congr 1
        have e : qs.zip vs ++ (p, u) :: ps.zip us = (qs ++ [p]).zip (vs ++ [u]) ++ ps.zip us := by
          rw [List.zip_append hv.symm]
          simp
        rw [e]
        refine ih (qs ++ [p]) us (by simpa using hl) (fun n hn hm => ?_) (List.nodup_cons.mp nd).2 (vs ++ [u]) (by simp [hv])
        obtain z | z := List.mem_append.mp hn
        · exact hd n z (List.mem_cons_of_mem _ hm)
        · have : n = p := by simpa using z
          subst this
          exact (List.nodup_cons.mp nd).1 hm
  intro ps us hl nd
  have := key [] ps us hl (fun n hn => nomatch hn) nd [] rfl
  simpa using this
theorem binds_plain {fd : FuncData} {as : List Arg} {kd : List (Option Expr)} {df : List Expr} (hp : fd.params = ⟨[], as, none, [], kd, none, df⟩) (hd : fd.defaults = .none) (nd : (as.map (·.arg)).Nodup) (us : List Value) (hl : us.length = (as.map (·.arg)).length) :
    bindArgs fd ⟨us, []⟩ = pure ((as.map (·.arg)).zip us) := by
  unfold bindArgs
  have hs : seqItems? .none = pure none := rfl
  have hm : ((as.map (·.arg)).filter fun n => (((as.map (·.arg)).zip us).lookup n).isNone) = [] := by
    rw [List.filter_eq_nil_iff]
    intro n hn
    rw [zip_lookup _ us hl n hn]
    decide
  have hf := zip_fm (as.map (·.arg)) us hl nd
  have hl2 : us.length = as.length := by simpa using hl
  simp only [hp, hd, hs, List.map_nil, List.nil_append, List.append_nil, pure_bind, Option.getD_none, List.forIn_nil, List.length_map, List.length_nil, List.drop_nil, Nat.sub_zero, List.take_of_length_le (Nat.le_refl _), hl2, List.drop_nil, List.zip_nil_right, List.isEmpty_nil]
  have e1 : (as.map (·.arg)).take as.length = as.map (·.arg) := List.take_of_length_le (by simp)
  have e2 : decide (as.length > as.length) = false := by simp
  simp only [Array.toList_empty, List.length_nil, List.drop_nil, Nat.zero_sub, Nat.sub_zero, e1, hm, hf, List.isEmpty_nil, List.zip_nil_right, List.forIn_nil, pure_bind, gt_iff_lt, Nat.lt_irrefl, decide_false, Bool.false_and, Bool.not_true, Bool.false_eq_true, if_false]
end LP
namespace LP
open PySem PySem.Spec
open PyProof.Rows L2
section
variable {C : Ck} {sc : Scope} {ts : List Expr} {v w : Expr} {pos : Pos} {i j : Nat} {e : Ex}
theorem inv_set (h : chkS1 C sc (.set i e) (.Assign ts v pos) = true) : ∃ x p, ts = [.Name x p] ∧ (nmAt C.N sc i x && chkE C e sc v) = true := by
  cases ts with
  | nil => cases h
  | cons t r =>
    cases t with
    | Name x p =>
      cases r with
      | nil => exact ⟨x, p, rfl, h⟩
      | cons => cases h
    | _ => cases h
theorem inv_own (h : chkS1 C sc (.own i e) (.Assign ts v pos) = true) : ∃ x p, ts = [.Name x p] ∧ (nmAt C.N sc i x && e.fresh && chkE C e sc v) = true := by
  cases ts with
  | nil => cases h
  | cons t r =>
    cases t with
    | Name x p =>
      cases r with
      | nil => exact ⟨x, p, rfl, h⟩
      | cons => cases h
    | _ => cases h
theorem inv_par {is : List (Nat × Bool)} {as : Ex} (h : chkS1 C sc (.par is as) (.Assign ts v pos) = true) : ∃ ts' k p vs k2 p2, ts = [.Tuple ts' k p] ∧ v = .Tuple vs k2 p2 ∧ ((parB C.N sc is ts' vs || (nmsAt C.N sc is ts' && decide (is.length < 20) && (vs.all (foldedForSure 8) || !(ts'.all (nmLoc sc))))) && ownsB is as && chks C as sc vs) = true := by
  cases ts with
  | nil => cases h
  | cons t r =>
    cases t with
    | Tuple ts' k p =>
      cases r with
      | nil =>
        cases v with
        | Tuple vs k2 p2 => exact ⟨ts', k, p, vs, k2, p2, rfl, rfl, h⟩
        | _ => cases h
      | cons => cases h
    | _ => cases h
theorem inv_unp {t : Tg} (h : chkS1 C sc (.unp t e) (.Assign ts v pos) = true) : ∃ tg, ts = [tg] ∧ (noSwapB sc tg v && chkT C.N true sc t tg && chkE C e sc v) = true := by
  cases ts with
  | nil => cases h
  | cons tg r =>
    cases r with
    | nil => exact ⟨tg, rfl, h⟩
    | cons => cases h
theorem inv_app (h : chkS1 C sc (.app i e) (.Expr w pos) = true) : ∃ x px a ap v cp, w = .Call (.Attribute (.Name x px) a ap) [v] [] cp ∧ ((a == ("append" : Str)) && (ap.endLine == cp.line) && visAt C.N sc i x && chkE C e sc v) = true := by
  cases w with
  | Call f es ks cp =>
    cases f with
    | Attribute o a ap =>
      cases o with
      | Name x px =>
        cases es with
        | nil => cases h
        | cons v r =>
          cases r with
          | cons => cases h
          | nil =>
            cases ks with
            | nil => exact ⟨x, px, a, ap, v, cp, rfl, h⟩
            | cons => cases h
      | _ => cases h
    | _ => cases h
  | _ => cases h
theorem inv_pop (h : chkS1 C sc (.pop j i) (.Assign ts w pos) = true) : ∃ y py x px a ap cp, ts = [.Name y py] ∧ w = .Call (.Attribute (.Name x px) a ap) [] [] cp ∧ ((a == ("pop" : Str)) && (ap.endLine == cp.line) && visAt C.N sc i x && nmAt C.N sc j y) = true := by
  cases ts with
  | nil => cases h
  | cons t r =>
    cases t with
    | Name y py =>
      cases r with
      | cons => cases h
      | nil =>
        cases w with
        | Call f es ks cp =>
          cases f with
          | Attribute o a ap =>
            cases o with
            | Name x px =>
              cases es with
              | cons => cases h
              | nil =>
                cases ks with
                | nil => exact ⟨y, py, x, px, a, ap, cp, rfl, rfl, h⟩
                | cons => cases h
            | _ => cases h
          | _ => cases h
        | _ => cases h
    | _ => cases h
theorem inv_popAt (h : chkS1 C sc (.popAt j i e) (.Assign ts w pos) = true) : ∃ y py x px a ap v cp, ts = [.Name y py] ∧ w = .Call (.Attribute (.Name x px) a ap) [v] [] cp ∧ ((a == ("pop" : Str)) && (ap.endLine == cp.line) && visAt C.N sc i x && nmAt C.N sc j y && chkE C e sc v) = true := by
  cases ts with
  | nil => cases h
  | cons t r =>
    cases t with
    | Name y py =>
      cases r with
      | cons => cases h
      | nil =>
        cases w with
        | Call f es ks cp =>
          cases f with
          | Attribute o a ap =>
            cases o with
            | Name x px =>
              cases es with
              | nil => cases h
              | cons v r =>
                cases r with
                | cons => cases h
                | nil =>
                  cases ks with
                  | nil => exact ⟨y, py, x, px, a, ap, v, cp, rfl, rfl, h⟩
                  | cons => cases h
            | _ => cases h
          | _ => cases h
        | _ => cases h
    | _ => cases h
theorem inv_put {o k : Ex} (h : chkS1 C sc (.put o k e) (.Assign ts v pos) = true) : ∃ oE kE p, ts = [.Subscript oE kE p] ∧ (chkE C o sc oE && chkE C k sc kE && chkE C e sc v) = true := by
  cases ts with
  | nil => cases h
  | cons t r =>
    cases t with
    | Subscript oE kE p =>
      cases r with
      | nil => exact ⟨oE, kE, p, rfl, h⟩
      | cons => cases h
    | _ => cases h
theorem chkSs_frz {a b : Sm} {sts : List Stmt} (h : chkSs C sc (.seq a b) sts = true) (hf : a.isFrz = true) : chkSs C sc b sts = true := by
  cases a with
  | frz i => cases sts <;> exact h
  | _ => cases hf
theorem chkSs_cons {a b : Sm} {sts : List Stmt} (h : chkSs C sc (.seq a b) sts = true) (hf : a.isFrz = false) : ∃ st rest, sts = st :: rest ∧ chkS1 C sc a st = true ∧ chkSs C sc b rest = true := by
  cases sts with
  | nil =>
    cases a with
    | frz i => cases hf
    | _ => cases h
  | cons st rest =>
    have h : (chkS1 C sc a st && chkSs C sc b rest) = true := by
      cases a with
      | frz i => cases hf
      | _ => exact h
    rw [Bool.and_eq_true] at h
    exact ⟨st, rest, rfl, h.1, h.2⟩
theorem inv_rais {c : Str} {a b : Option Expr} (h : chkS1 C sc (.rais c) (.Raise a b pos) = true) : ∃ x p1 m k p2 p3, a = some (.Call (.Name x p1) [.Constant (.str m) k p2] [] p3) ∧ b = none ∧ ((c == x) && excs.contains x && glB sc x && nmOk x) = true := by
  cases a with
  | none => cases h
  | some w =>
    cases w with
    | Call f es ks cp =>
      cases f with
      | Name x p1 =>
        cases es with
        | nil => cases h
        | cons v r =>
          cases v with
          | Constant cc k p2 =>
            cases cc with
            | str m =>
              cases r with
              | cons => cases h
              | nil =>
                cases ks with
                | cons => cases h
                | nil =>
                  cases b with
                  | some => cases h
                  | none => exact ⟨x, p1, m, k, p2, cp, rfl, rfl, h⟩
            | _ => cases h
          | _ => cases h
      | _ => cases h
    | _ => cases h
end
section
variable {C : Ck} {X : Cx} {T : List (Addr × Str)} {E : XK} {Γ : Gam}
mutual
theorem sS1 (G : Gs C T Γ X E) : ∀ (s : Sm) (st : Stmt), chkS1 C X.env.scope s st = true → SS X T E Γ s st
  | .skip, st, h => by cases st <;> cases h
  | .seq _ _, st, h => by cases st <;> cases h
  | .frz _, st, h => by cases st <;> cases h
  | .set i e, st, h => by
    cases st with
    | Assign ts v pos =>
      obtain ⟨x, p, rfl, h2⟩ := inv_set h
      simp only [Bool.and_eq_true] at h2
      exact s_set G h2.1 h2.2
    | _ => cases h
  | .own i e, st, h => by
    cases st with
    | Assign ts v pos =>
      obtain ⟨x, p, rfl, h2⟩ := inv_own h
      simp only [Bool.and_eq_true] at h2
      exact s_own G h2.1.1 h2.1.2 h2.2
    | _ => cases h
  | .par is as, st, h => by
    cases st with
    | Assign ts v pos =>
      obtain ⟨ts', k, p, vs, k2, p2, rfl, rfl, h2⟩ := inv_par h
      simp only [Bool.and_eq_true] at h2
      rcases Bool.or_eq_true_iff.mp h2.1.1 with z | z
      · exact s_par G z h2.1.2 h2.2
      · simp only [Bool.and_eq_true, decide_eq_true_eq] at z
        exact s_parU G z.1.1 z.1.2 z.2 h2.1.2 h2.2
    | _ => cases h
  | .unp t e, st, h => by
    cases st with
    | Assign ts v pos =>
      obtain ⟨tg, rfl, h2⟩ := inv_unp h
      simp only [Bool.and_eq_true] at h2
      exact s_unp G h2.1.1 h2.1.2 h2.2
    | _ => cases h
  | .app i e, st, h => by
    cases st with
    | Expr w pos =>
      obtain ⟨x, px, a, ap, v, cp, rfl, h2⟩ := inv_app h
      simp only [Bool.and_eq_true] at h2
      exact s_app G (beqS h2.1.1.1) h2.1.1.2 h2.1.2 h2.2
    | _ => cases h
  | .pop j i, st, h => by
    cases st with
    | Assign ts w pos =>
      obtain ⟨y, py, x, px, a, ap, cp, rfl, rfl, h2⟩ := inv_pop h
      simp only [Bool.and_eq_true] at h2
      exact s_pop G (beqS h2.1.1.1) h2.1.1.2 h2.1.2 h2.2
    | _ => cases h
  | .popAt j i e, st, h => by
    cases st with
    | Assign ts w pos =>
      obtain ⟨y, py, x, px, a, ap, v, cp, rfl, rfl, h2⟩ := inv_popAt h
      simp only [Bool.and_eq_true] at h2
      exact s_popAt G (beqS h2.1.1.1.1) h2.1.1.1.2 h2.1.1.2 h2.1.2 h2.2
    | _ => cases h
  | .put o k e, st, h => by
    cases st with
    | Assign ts v pos =>
      obtain ⟨oE, kE, p, rfl, h2⟩ := inv_put h
      simp only [Bool.and_eq_true] at h2
      exact s_put G h2.1.1 h2.1.2 h2.2
    | _ => cases h
  | .ite c a b, st, h => by
    cases st with
    | If t x y pos =>
      simp only [chkS1, Bool.and_eq_true] at h
      exact s_ite (sE c C X E t G.toGd h.1.1).2 (sSs G a x h.1.2) (sSs G b y h.2)
    | _ => cases h
  | .whil c b, st, h => by
    cases st with
    | While t x r pos =>
      cases r with
      | cons => cases h
      | nil =>
        simp only [chkS1, Bool.and_eq_true] at h
        exact s_whil G (sE c C X E t G.toGd h.1).2 (sSs G b x h.2)
    | _ => cases h
  | .forr t it b, st, h => by
    cases st with
    | For tg itE x r pos =>
      cases r with
      | cons => cases h
      | nil =>
        simp only [chkS1, Bool.and_eq_true] at h
        exact s_forr G h.1.1 h.1.2 (sSs G b x h.2)
    | _ => cases h
  | .ret e, st, h => by
    cases st with
    | Return v pos =>
      cases v with
      | none => cases h
      | some v => exact s_ret (sE e C X E v G.toGd (by simpa only [chkS1] using h)).1
    | _ => cases h
  | .retN, st, h => by
    cases st with
    | Return v pos =>
      cases v with
      | none => exact s_retN
      | some v => cases h
    | _ => cases h
  | .rais c, st, h => by
    cases st with
    | Raise a b pos =>
      obtain ⟨x, p1, m, k, p2, p3, rfl, rfl, h2⟩ := inv_rais h
      simp only [Bool.and_eq_true] at h2
      obtain rfl := beqS h2.1.1.1
      exact s_rais G (by simpa using h2.1.1.2) h2.1.2 h2.2
    | _ => cases h
  | .expr e, st, h => by
    cases st with
    | Expr v pos =>
      have h : (notComp v && chkE C e X.env.scope v) = true := h
      rw [Bool.and_eq_true] at h
      exact s_expr (sE e C X E v G.toGd h.2).1 G.kd h.1
    | _ => cases h
theorem sSs (G : Gs C T Γ X E) : ∀ (s : Sm) (sts : List Stmt), chkSs C X.env.scope s sts = true → PSs X sts (tS X.K T E Γ s)
  | .skip, sts, h => by
    cases sts with
    | nil => exact s_skip
    | cons => cases h
  | .seq a b, sts, h => by
    by_cases hf : a.isFrz = true
    · have h2 := chkSs_frz h hf
      cases a with
      | frz i => exact s_frz (sSs G b sts h2)
      | _ => cases hf
    · obtain ⟨st, rest, rfl, h1, h2⟩ := chkSs_cons h (by simpa using hf)
      exact s_seq (sS1 G a st h1) (sSs G b rest h2)
  | .frz _, sts, h => by cases sts <;> cases h
  | .set _ _, sts, h => by cases sts <;> cases h
  | .own _ _, sts, h => by cases sts <;> cases h
  | .par _ _, sts, h => by cases sts <;> cases h
  | .unp _ _, sts, h => by cases sts <;> cases h
  | .app _ _, sts, h => by cases sts <;> cases h
  | .pop _ _, sts, h => by cases sts <;> cases h
  | .popAt _ _ _, sts, h => by cases sts <;> cases h
  | .put _ _ _, sts, h => by cases sts <;> cases h
  | .ite _ _ _, sts, h => by cases sts <;> cases h
  | .whil _ _, sts, h => by cases sts <;> cases h
  | .forr _ _ _, sts, h => by cases sts <;> cases h
  | .ret _, sts, h => by cases sts <;> cases h
  | .retN, sts, h => by cases sts <;> cases h
  | .rais _, sts, h => by cases sts <;> cases h
  | .expr _, sts, h => by cases sts <;> cases h
end
end
end LP
namespace LP
open PySem PySem.Spec
open PyProof.Rows L2
/-! ### the defs of a program -/
/-- what stands in the machine for a def -/
structure DefAt (K : PySem.W.Frag) (mg : Str → Option Value) (T : List (Addr × Str)) (fns : Nat → Option Str) (base : Heap) (d : Df) (tl : Bool) : Prop where
  ex : ∃ (f : Addr) (as : List Arg) (kd : List (Option Expr)) (df : List Expr) (body : List Stmt) (scope : Scope) (kV doc pm cdv ct oc : Value) (an od : Option Addr) (osl : Array (Option Value)),
    K.lookup f = some ⟨oc, od, .func (PySem.W.fnOf d.name d.name ⟨[], as, none, [], kd, none, df⟩ body scope .none kV doc pm an cdv ct), osl⟩ ∧ PySem.W.codeIn K cdv d.name = true ∧ PySem.W.keepIn K (.ref f) = true ∧ mg d.name = some (.ref f) ∧
    FnScope d.nm (as.map (·.arg)) scope ∧ as.length = d.npar ∧ (as.map (·.arg)).Nodup ∧ chkSs ⟨d.nm, fns, tl⟩ scope d.body body = true ∧
    (tl = true → ∃ c P, cdv = .ref c ∧ LamX.TabB base mg c P ∧ (∀ q : Str, (∀ L f', (envOfC d.name scope L f' cdv).qual = q) → (P, q ++ "<lambda>") ∈ T ∧ ∀ p ∈ T, p.1 = P → p.2 = q ++ "<lambda>"))
def fnsOf (P : Prg) : Nat → Option Str := fun j => (P.tab.lookup j).map (·.name)
structure ToldAt (prog : Program) (w : World) (K : PySem.W.Frag) (mg : Str → Option Value) (base : Heap) (T : List (Addr × Str)) : Prop where
  ex : ∃ (g : Addr) (pg : Arguments) (bg : List Stmt) (sg : Scope) (dV kV doc pm cdv ct oc : Value) (an od : Option Addr) (osl : Array (Option Value)) (Ng : List Str),
    mg "_law_told" = some (.ref g) ∧ PySem.W.keepIn K (.ref g) = true ∧ K.lookup g = some ⟨oc, od, .func (PySem.W.fnOf "_law_told" "_law_told" pg bg sg dV kV doc pm an cdv ct), osl⟩ ∧ PySem.W.codeIn K cdv "_law_told" = true ∧
    L2.Binds K (PySem.W.fnOf "_law_told" "_law_told" pg bg sg dV kV doc pm an cdv ct) ["deed"] [] ∧ FnScope Ng ["deed"] sg ∧ Ng[0]? = some ("deed" : Str) ∧ Vis sg "deed" ∧
    ∀ (X : Cx) (q : Str), X.prog = prog → X.w = w → X.K = K → X.mg = mg → X.base = base → Room 2 X.A → GivesN X Ng "_law_told" sg g cdv bg "deed" q (TTell K T)
structure Gm (prog : Program) (w : World) (K : PySem.W.Frag) (mg : Str → Option Value) (base : Heap) (T : List (Addr × Str)) (P : Prg) (tl : Nat → Bool) : Prop where
  con : ∀ x d, P.con x = some d → ∃ v u, mg x = some u ∧ RelV v u ∧ ∀ as F, Rp K as F v d
  blt : ∀ x ∈ bnames, mg x = none
  exc : ∀ c ∈ excs, ∃ (B newId initId : String) (bmB : List Value), ExcBaseFacts B newId initId bmB ∧ PySem.W.excIn K (He.ga K c) bmB newId = true ∧ mg c = some (.ref (He.ga K c)) ∧ PySem.W.keepIn K (.ref (He.ga K c)) = true ∧
    PySem.W.subIn K (.ref (He.ga K c)) (.type "BaseException") = some true ∧ PySem.W.typeIn K (.ref (He.ga K c)) = some (.type "type")
  defs : ∀ j d, P.tab.lookup j = some d → DefAt K mg T (fnsOf P) base d (tl j)
  told : (∃ j, tl j = true) → ToldAt prog w K mg base T
section
variable {prog : Program} {w : World} {K : PySem.W.Frag} {mg : Str → Option Value} {base : Heap} {T : List (Addr × Str)} {P : Prg} {tl : Nat → Bool}
theorem frOk_start {as : List Addr} {F H : Hp} {N : List Str} {vs : List V} {ds : List D} (h : RpL K as F vs ds) : FrOk K as F H (L2.start N vs) (startF N.length ds) := by
  have hl := h.length
  refine ⟨by unfold L2.start startF; simp [hl], fun i s e => ?_, fun i j xs ys e1 e2 _ => ?_⟩
  · unfold startF at e
    unfold L2.start
    rw [List.getElem?_append] at e
    split at e
    · rename_i hi
      rw [List.getElem?_map] at e
      cases q : ds[i]? with
      | none => simp [q] at e
      | some d =>
        rw [q] at e
        cases e
        obtain ⟨v, e1, e2⟩ := h.get q
        have hi2 : i < (vs.map some).length := by
          have := (List.getElem?_eq_some_iff.mp e1).1
          simpa using this
        refine ⟨v, ?_, e2⟩
        rw [List.getElem?_append_left hi2, List.getElem?_map, e1] <;> rfl
    · rw [List.getElem?_replicate] at e
      split at e <;> cases e
  · exfalso
    unfold startF at e1
    rw [List.getElem?_append] at e1
    split at e1
    · rw [List.getElem?_map] at e1
      cases q : ds[i]? with
      | none => rw [q] at e1; cases e1
      | some d => rw [q] at e1; cases e1
    · rw [List.getElem?_replicate] at e1
      split at e1 <;> cases e1
theorem startF_noOw {n : Nat} {ds : List D} {i : Nat} {xs : List D} : (startF n ds)[i]? ≠ some (some (.ow xs)) := fun e1 => by
  unfold startF at e1
  rw [List.getElem?_append] at e1
  split at e1
  · rw [List.getElem?_map] at e1
    cases q : ds[i]? with
    | none => rw [q] at e1; cases e1
    | some d => rw [q] at e1; cases e1
  · rw [List.getElem?_replicate] at e1
    split at e1 <;> cases e1
theorem start_go {d : Df} {Γ : Gam} {vs : List V} {H : Hp} {Q : VK} {E : XK} (h : spOf K T (runDf Γ d) vs H Q E) : tS K T E Γ d.body { nx := fun _ H' => Q .non H', rt := Q } (L2.start d.nm vs) H := by
  obtain ⟨ds, S, as, F, ok, r, q⟩ := h
  unfold runDf at q
  split at q
  · refine ⟨⟨as, F, H, as, F⟩, startF d.nm.length ds, S, as, F, ⟨Stp.refl _ _ _, ok, frOk_start r, fun i xs e => absurd e startF_noOw, Pre.refl _, Le.refl _⟩, ?_⟩
    cases e : exec Γ d.body (startF d.nm.length ds) S with
    | nx ρ S1 =>
      rw [e] at q
      exact fun σ bs G J h1 => q bs G J h1.st h1.ok _ .non
    | rt x S1 =>
      rw [e] at q
      exact fun bs G J v st ok1 hv => q bs G J st ok1 v hv
    | ex c S1 => rw [e] at q; exact q
    | bad => rw [e] at q; exact q
  · exact q.elim
theorem sp_len {fn : List D → Sto → Re D} {n : Nat} (hf : ∀ ds S, ds.length ≠ n → fn ds S = .bad) {vs : List V} {H : Hp} {Q : VK} {E : XK} (h : spOf K T fn vs H Q E) : vs.length = n := by
  obtain ⟨ds, S, as, F, ok, r, q⟩ := h
  rw [r.length]
  refine Decidable.byContradiction fun z => ?_
  rw [hf ds S z] at q
  exact q
/-- THE RULE: each def does as its Df says -/
theorem fnOk (M : Gm prog w K mg base T P tl) : ∀ (n j : Nat) (d : Df), P.tab.lookup j = some d → ∃ (f : Addr) (fd : FuncData) (ps : List Str), mg d.name = some (.ref f) ∧ PySem.W.keepIn K (.ref f) = true ∧ Binds K fd ps [] ∧
    FnOk prog w K mg base (L2N.CX prog w) (3 * n) f fd ps (spOf K T (call P n j)) ∧ (∃ oc od osl, K.lookup f = some ⟨oc, od, .func fd, osl⟩) ∧ d.nm.take d.npar = ps ∧ ∀ us, us.length = ps.length → bindArgs fd ⟨us, []⟩ = pure (ps.zip us) := by
  intro n
  induction n with
  | zero =>
    intro j d hj
    obtain ⟨f, as, kd, df, body, scope, kV, doc, pm, cdv, ct, oc, an, od, osl, h1, h2, h3, h4, h5, h6, h7, h8, h9⟩ := (M.defs j d hj).ex
    refine ⟨f, PySem.W.fnOf d.name d.name ⟨[], as, none, [], kd, none, df⟩ body scope .none kV doc pm an cdv ct, as.map (·.arg), h4, h3, Binds.all fun us hl => binds_plain rfl rfl h7 us hl, ⟨fun vs H Q E h => ?_, fun A outer s H args us vs Q E _ _ _ _ h => ?_⟩, ⟨_, _, _, h1⟩, by rw [← h6, ← List.length_map]; exact h5.pre, fun us hl => binds_plain rfl rfl h7 us hl⟩
    · obtain ⟨_, _, _, _, _, _, q⟩ := h; exact q.elim
    · obtain ⟨_, _, _, _, _, _, q⟩ := h; exact q.elim
  | succ n ih =>
    intro j d hj
    obtain ⟨f, as, kd, df, body, scope, kV, doc, pm, cdv, ct, oc, an, od, osl, h1, h2, h3, h4, h5, h6, h7, h8, h9⟩ := (M.defs j d hj).ex
    have hcall : call P (n + 1) j = runDf ⟨P.con, call P n⟩ d := by
      funext ds S
      rw [call, hj]
    have hlen : ∀ ds S, ds.length ≠ (as.map (·.arg)).length → call P (n + 1) j ds S = .bad := fun ds S z => by
      rw [hcall, runDf, if_neg (fun e => z (by rw [e, List.length_map, h6]))]
    refine ⟨f, PySem.W.fnOf d.name d.name ⟨[], as, none, [], kd, none, df⟩ body scope .none kV doc pm an cdv ct, as.map (·.arg), h4, h3, Binds.all fun us hl => binds_plain rfl rfl h7 us hl, ?_, ⟨_, _, _, h1⟩, by rw [← h6, ← List.length_map]; exact h5.pre, fun us hl => binds_plain rfl rfl h7 us hl⟩
    refine fn_of (k := 3 * n + 2) h1 h2 h5 (fun vs H Q E h => sp_len hlen h) fun A outer s H vs Q E hr hsp => ?_
    rw [hcall] at hsp
    have fnk : ∀ i x, fnsOf P i = some x → FnK (cxOf (L2N.CX prog w) prog w K mg base d.nm d.name scope f cdv A outer s H E) T (3 * n) (call P n i) x := fun i x hi => by
      unfold fnsOf at hi
      cases q : P.tab.lookup i with
      | none => rw [q] at hi; cases hi
      | some d' =>
        rw [q] at hi
        cases hi
        obtain ⟨f', fd', ps', e1, e2, e3, e4, _⟩ := ih i d' q
        exact ⟨f', fd', ps', e1, e2, e3, e4⟩
    have G : Gs ⟨d.nm, fnsOf P, tl j⟩ T ⟨P.con, call P n⟩ (cxOf (L2N.CX prog w) prog w K mg base d.nm d.name scope f cdv A outer s H E) E := by
      refine ⟨⟨rfl, h5.nd, rfl, ?_, L2N.takes_of rfl rfl rfl rfl, M.con, M.blt, fun i x hi => ?_, fun ht => ?_⟩, fun _ => rfl, passes_of rfl, h5.kind, fun c hc => ?_⟩
      · have := hr.un
        show (A.deeper _).units + 200 < cLine
        omega
      · obtain ⟨f', fd', ps', e1, e2, e3, e4⟩ := fnk i x hi
        exact ⟨f', fd', ps', 3 * n, e1, e2, e3, hr.mono (by omega), e4⟩
      · obtain ⟨g, pg, bg, sg, dV, kV', doc', pm', cdv', ct', oc', an', od', osl', Ng, t1, t2, t3, t4, t5, t6, t7, t8, t9⟩ := (M.told ⟨j, ht⟩).ex
        obtain ⟨c, PT, e1, e2, e3⟩ := h9 ht
        obtain ⟨e4, e5⟩ := e3 (envOfC d.name scope s.heap.objs.size f cdv).qual (fun _ _ => rfl)
        exact ⟨g, c, PT, 3 * n, pg, bg, sg, dV, kV', doc', pm', cdv', ct', oc', an', od', osl', Ng, t1, t2, t3, t4, t5, t6, t7, t8, t9 _ _ rfl rfl rfl rfl rfl (hr.mono (by omega)), e2, e1, e4, e5, hr, fnk⟩
      · obtain ⟨B, newId, initId, bmB, e1, e2, e3, e4, e5, e6⟩ := M.exc c hc
        exact ⟨B, newId, initId, bmB, e1, e2, e3, e4, raises_own e5 e6⟩
    exact ⟨_, sSs G d.body body h8, start_go hsp⟩
end
end LP
namespace PySem
open HotX
section
variable {prog : Program} {w : World} {A : Around} {E : Value → Shared → Prop} {st : Shared} {x1 : Addr}
/-- StopIteration, while an exception without a context is handled -/
theorem lp_stopHot {α : Type} {Q : α → Shared → Prop} (hot : HotAt A x1 st.heap) (fin : ∀ n h2, ({ st with heap := h2 } : Shared).TypeIs (.ref n) "StopIteration" → (∀ b u, st.heap.get? b = some u → h2.get? b = some u) → E (.ref n) { st with heap := h2 }) :
    wpAny (model prog w) A (Builtin.SmallTypes.stopIteration : Sem α) Q E st := by
  obtain ⟨on, u1, us, g1, du, cu⟩ := hot
  have kept1 : ∀ {h : Heap} {o : Obj} {b : Addr} {u : Obj}, h.get? b = some u → (h.push o).get? b = some u := Heap.get?_push_of_some _
  unfold Builtin.SmallTypes.stopIteration
  refine wpAny_bind ?_
  simp only [newExc, newTuple]
  refine wpAny_bind (wpAny_newObj_type (wpAny_bind (m := firstArgMember _ _) (wpAny_of_eq (a := Value.none) rfl (wpAny_newObj_type ?_ (by size_fits)))) (by size_fits))
  have g2 := kept1 (o := { cls := .type "StopIteration", data := .fields (#[.ref st.heap.objs.size, .none, .none, .none, .bool false, .none] ++ ownMembersOf (.type "StopIteration") []) }) (kept1 (o := { cls := .type "tuple", data := .seq #[] }) g1)
  refine raiseNew_hot ⟨on, u1, us, g2, du, cu⟩ (Nat.ne_of_lt (Heap.lt_size (kept1 g1))) (Heap.get?_push_size _ rfl) rfl (by rw [Array.size_append]; exact Nat.lt_of_lt_of_le (by decide : 2 < 6) (Nat.le_add_right 6 _)) (fin _ _ ⟨_, Heap.get?_update_self _ (Heap.get?_push_size _ rfl) rfl, rfl⟩ fun b u e => ?_)
  rw [Heap.get?_update_other _ _ (Nat.ne_of_gt (Heap.lt_size (kept1 e)))]
  exact kept1 (kept1 e)
/-- a list's iterator at its end, while an exception is handled -/
theorem lp_listEndHot {it l : Addr} {i : Nat} {its : Array Value} {Q : Option Value → Shared → Prop} (hot : HotAt A x1 st.heap) (apart : x1 ≠ it) (iter : st.heap.IsListIter it l i) (lst : st.heap.IsList l its) (over : its[i]? = none)
    (fin : ∀ h2, Heap.ExtBut it st.heap h2 → Q none { st with heap := h2 }) : wpAny (model prog w) A (pyNext (.ref it)) Q E st := by
  obtain ⟨on, u1, us, g1, du, cu⟩ := hot
  have ty := iter.typeIs
  obtain ⟨oi, gi, _, di⟩ := iter
  obtain ⟨ol, gl, _, nl, dl⟩ := lst
  let h1 := st.heap.update it (Obj.mapFields fun x => x.setIfInBounds 0 Value.none)
  have stay : ∀ b, b ≠ it → h1.get? b = st.heap.get? b := fun b n => Heap.get?_update_other _ _ n.symm
  have ends : ∀ (A2 : Around) (Q2 : Fin → Shared → Prop) (E2 : Value → Shared → Prop), A2.handled = A.handled → (∀ n h2, ({ st with heap := h2 } : Shared).TypeIs (.ref n) "StopIteration" → Heap.ExtBut it st.heap h2 → E2 (.ref n) { st with heap := h2 }) →
      wpAny (model prog w) A2 (Builtin.«list_iterator.__next__» ⟨[.ref it], []⟩) Q2 E2 st := fun A2 Q2 E2 same leave => by
    show wpAny _ _ (field (.ref it) 0 >>= _) _ _ st
    refine wpAny_bind (wpAny_field gi di (x := .ref l) rfl ?_)
    rw [if_neg (show ¬ ((Value.ref l == Value.none) = true) from nofun)]
    show wpAny _ _ (field (.ref it) 1 >>= _) _ _ st
    refine wpAny_bind (wpAny_field gi di (x := .int i 0) rfl ?_)
    show wpAny _ _ (seqItems? (.ref l) >>= _) _ _ st
    refine wpAny_bind (wpAny_seqItems gl dl ?_)
    rw [Int.toNat_natCast]
    dsimp only
    rw [over]
    refine wpAny_bind (wpAny_rule (wpAny_bind (wpAny_setField gi di (by simp) ?_)))
    refine lp_stopHot (st := { st with heap := h1 }) ⟨same.trans on, u1, us, (stay x1 apart).trans g1, du, cu⟩ fun n h2 tn old => leave n h2 tn fun b u nb e => old b u ((stay b nb).trans e)
  unfold pyNext
  refine wpAny_bind (wpAny_attempt (wpAny_callSpecial?_slot (name := Str.ofString "__next__") ty slot_listiter_next (wpAny_call_entry slot_listiter_next ty entry_listiter_next (ends _ _ _ rfl fun n h2 tn ext => ?_) (args_listiter_next _))))
  exact wpAny_bind (wpAny_isInstance (T := "StopIteration") (b := true) tn isSubtype_stop (wpAny_pure (fin h2 ext)))
end
/-- a list walked while the exception at x1 is handled: what stands there is kept too -/
theorem lp_walks_hot {prog : Program} {w : World} {A : Around} {x1 : Addr} {o1 : Obj} {vs1 : Array Value} (hh : A.handled = some (.ref x1)) (d1 : o1.data = .fields vs1) (c1 : vs1[2]? = some .none) (I ax : Addr) (hne : ax ≠ I) (hx1 : x1 ≠ I) (its : Array Value) :
    Walks prog w A I [I, ax, x1] [I] its.size (fun i v => its[i]? = some v) (fun i h => (h.IsListIter I ax i ∧ h.IsList ax its) ∧ h.get? x1 = some o1) := by
  have only : ∀ {h h2 : Heap}, Heap.ExtBut I h h2 → ∀ b u, b ∉ [I] → h.get? b = some u → h2.get? b = some u := fun x b u nb e => x b u (fun z => nb (List.mem_singleton.mpr z)) e
  constructor
  case sub => exact fun b hb => List.mem_cons.mpr (.inl (List.mem_singleton.mp hb))
  case frame =>
    rintro i h h2 ⟨⟨a, b⟩, c⟩ k
    have kI := k I List.mem_cons_self
    have kx := k ax (List.mem_cons_of_mem _ List.mem_cons_self)
    exact ⟨⟨a.at kI, b.at kx⟩, k x1 (List.mem_cons_of_mem _ (List.mem_cons_of_mem _ List.mem_cons_self)) _ c⟩
  case item =>
    rintro i st Q E hi ⟨⟨a, b⟩, c⟩ hQ
    have at_ : its[i]? = some its[i] := Array.getElem?_eq_getElem hi
    refine wpAny_pyNext_list_item a b at_ fun h2 a2 same => ?_
    exact hQ its[i] h2 st.toks at_ ⟨⟨a2, b.extBut same.extBut hne⟩, same.extBut x1 o1 hx1 c⟩ (only same.extBut)
  case done =>
    rintro st Q E ⟨⟨a, b⟩, c⟩ hQ
    exact lp_listEndHot ⟨hh, o1, vs1, c, d1, c1⟩ hx1 a b (Array.getElem?_eq_none (Nat.le_refl _)) fun h2 x => hQ h2 st.toks (only x)
  case self =>
    rintro _ _ _ _ ⟨⟨a, _⟩, _⟩ hQ
    exact wpAny_pyIter_listiter a hQ
theorem lp_sum_hot {prog : Program} {w : World} {A : Around} {E : Value → Shared → Prop} {s : Shared} {l x1 : Addr} {xs : Array (Int × Tok)} {Q : Value → Shared → Prop} (hot : HotAt A x1 s.heap) (hl : s.heap.IsList l (intItems xs))
    (fin : ∀ h2 tk t2, (∀ b o, s.heap.get? b = some o → h2.get? b = some o) → Q (.int (preSum (numAt xs) xs.size) t2) { s with heap := h2, toks := tk }) : wpAny (model prog w) A (call (.builtin "sum") [.ref l]) Q E s := by
  obtain ⟨on, u1, us, g1, du, cu⟩ := hot
  have low := Heap.lt_size g1
  refine call_sum_walkG (iter_intList hl ?_)
  rintro _ rfl begun inside off
  have g2 := Heap.get?_push_of_some { cls := .type "list_iterator", data := .fields #[.ref l, .int 0 0] } g1
  refine ⟨_, _, _, _, _, _, numAt xs, rfl, lp_walks_hot (A := A.in1) on du cu _ l off (Nat.ne_of_lt low) (intItems xs), ⟨begun, g2⟩, fun b hb => ?_, (fun _ _ => intItems_at), fun h2 tk t2 k => ?_⟩
  · simp only [List.mem_cons, List.not_mem_nil, or_false] at hb
    obtain rfl | rfl | rfl := hb
    · exact inside _ List.mem_cons_self
    · exact inside _ (List.mem_cons_of_mem _ List.mem_cons_self)
    · exact Heap.lt_size g2
  · simpa [intItems] using fin h2 tk t2 (old_kept k)
end PySem
namespace LP
open PySem PySem.Spec
open PyProof.Rows L2 HotX
/-! ### the two walks that _law_term makes, an exception being handled -/
def b01 (b : Bool) : Int := if b then 1 else 0
theorem pairF {R : Value → Value → Prop} : ∀ {vs ys : List Value}, Paired R vs ys → vs.length = ys.length ∧ ∀ (j : Nat) v, vs[j]? = some v → ∃ y, ys[j]? = some y ∧ R v y
  | _, _, .nil => ⟨rfl, fun j v e => by simp at e⟩
  | _, _, .cons r t => by
    obtain ⟨h1, h2⟩ := pairF t
    refine ⟨by simp [h1], fun j v e => ?_⟩
    cases j with
    | zero => simp at e; subst e; exact ⟨_, rfl, r⟩
    | succ j => exact h2 j v (by simpa using e)
theorem valsOf : ∀ {vs : List V} {us : List Value}, vs.length = us.length → (∀ (j : Nat) v, vs[j]? = some v → ∃ u, us[j]? = some u ∧ RelV v u) → Vals vs us
  | [], [], _, _ => .nil
  | [], _ :: _, len, _ => nomatch len
  | _ :: _, [], len, _ => nomatch len
  | v :: vs, u :: us, h, k => by
    obtain ⟨u', e1, e2⟩ := k 0 v rfl
    simp at e1
    subst e1
    exact .cons e2 (valsOf (by simpa using h) fun j w e => by
      obtain ⟨u2, f1, f2⟩ := k (j + 1) w (by simpa using e)
      exact ⟨u2, by simpa using f1, f2⟩)
theorem pe_flags {X : Cx} {p : Addr × Obj} {te : TE} {itE : Expr} {scope : Scope} {x : Str} {p1 p2 p3 p4 pos : Pos} (hot : L2H.Hot1 X.A p) (hp : p ∈ X.pn) (hm : X.mg "int" = none) (he : PE X itE te)
    (hfree : ∀ y ∈ scope.names, y.2 ≠ .free) (hcell : ∀ y ∈ scope.names, y.2 ≠ .cell) (hkind : scope.kind = .function) (hnames : ∀ y ∈ scope.names, y.2 = .local → scope.names.lookup y.1 = some .local) (hx : scope.names.lookup x = some .local) (hint : scope.names.lookup ("int" : Str) = some NameKind.globalImplicit)
    (hd : (x == ("__debug__" : Str)) = false) (hs : ∀ x, foldedSetIterable itE X.env x = pure x) :
    PE X (.ListComp (.Call (.Name "int" p1) [.Name x p2] [] p3) [⟨.Name x p4, itE, [], 0⟩] scope pos) (fun σ H Q => te σ H fun v H1 => ∃ (a : Addr) (bs : List Bool), v = .ref a ∧ SqL X.K H1 a (bs.map V.bl) ∧ ∀ q, H1 q = none → Q (.ref q) (upd H1 q (.lst (bs.map fun b => V.int (b01 b))))) := by
  constructor; intro pins s σ H Q I h
  refine wpAny_ListComp_walk (fun _ => true) (fun v y => ∃ b t, v = .bool b ∧ y = .int (b01 b) t) hfree hcell hkind hnames hx (thn (he.run pins s σ H _ I h) fun v s1 ⟨xv, H1, I1, r1, a, bs, e1, hq, q⟩ => ?_) hs
  subst e1
  cases r1
  obtain ⟨its, rv, pl, hz⟩ := I1.list hq
  obtain ⟨hh, vs1, d1, c1⟩ := hot
  obtain ⟨g1, g2, g3, g4, g5⟩ := I1.pin p (List.mem_append_left _ hp)
  have hal : a < s1.heap.objs.size := by obtain ⟨o, n, e, _⟩ := pl; exact Heap.lt_size e
  have hpl : p.1 < s1.heap.objs.size := Heap.lt_size g1
  refine wpAny_pyIter_list pl.isList ?_
  refine ⟨s1.heap.objs.size, _, _, _, _, _, rfl, lp_walks_hot hh d1 c1 s1.heap.objs.size a (Nat.ne_of_lt hal) (Nat.ne_of_lt hpl) its.toArray, ?_, ⟨⟨⟨_, Heap.get?_push_size _ rfl, rfl, rfl⟩, pl.isList.push _⟩, Heap.get?_push_of_some _ g1⟩, fun b hb => ?_, ⟨?_, ?_⟩, ?_⟩
  · have := rv.length
    simp at this
    simp at hz
    simp
    omega
  · have hb' : b = s1.heap.objs.size ∨ b = a ∨ b = p.1 := by simpa using hb
    rw [Heap.size_push]
    rcases hb' with z | z | z
    · rw [z]; exact Nat.lt_succ_self _
    · rw [z]; exact Nat.lt_succ_of_lt hal
    · rw [z]; exact Nat.lt_succ_of_lt hpl
  · intro C i v s3 m3 E' _ _ _ _ _
    exact wpAny_pure ⟨rfl, s3.heap, s3.toks, rfl, fun _ _ e => e⟩
  · intro C i v s3 m3 E' hv _ hn hmx hk _
    have hv : its[i]? = some v := by simpa using hv
    have hbv : ∃ b, v = .bool b := by
      have hlen := rv.length
      have hi : i < (bs.map V.bl).length := by rw [hlen]; exact (List.getElem?_eq_some_iff.mp hv).1
      obtain ⟨u, f1, f2⟩ := rv.get (i := i) (x := (bs.map V.bl)[i]) (by rw [List.getElem?_eq_getElem hi])
      rw [hv] at f1
      cases f1
      rw [List.getElem_map] at f2
      exact ⟨_, f2⟩
    obtain ⟨b, rfl⟩ := hbv
    have bk : ∀ c o, X.base.get? c = some o → s3.heap.get? c = some o := fun c o e => by
      have e2 := I1.bk c o e
      refine hk c o (fun z => ?_) (Heap.get?_push_of_some _ e2)
      have : c = s1.heap.objs.size := by simpa using z
      exact absurd (Heap.lt_size e2) (by rw [this]; exact Nat.lt_irrefl _)
    obtain ⟨mb, k1, k2⟩ := I1.mod.blt
    refine Call_ (Calls.Name_function_global hkind hint (Calls.loadGlobal_builtin (env := compEnv scope C X.env) (mg := X.mg) (by show s3.heap.Ns X.env.globals X.mg; rw [I1.ok.glob]; exact I1.mod.glob.keeps bk) hm (by show s3.heap.Ns X.env.builtins mb; rw [I1.ok.blt]; exact k1.keeps bk) ((k2 "int" (by decide)).trans (show bootBuiltins "int" = some (.type "int") from by decide +kernel)) ?_) (by decide))
    refine PyProof.Rows.callWith_type1 (Calls.spliced_cons (wpAny_Name (wpAny_loadName_local hkind hx hn hmx (Calls.spliced_nil ?_)) hd)) rfl rfl
    exact call_int_bool ⟨⟨b, s3.toks, rfl, rfl⟩, s3.heap, s3.toks + 1, rfl, fun _ _ e => e⟩
  · intro D h' tk ys vs hD hl hpl2 hlen hP hF hk
    have hDn : (s1.heap.push { cls := .type "list_iterator", data := .fields #[.ref a, .int 0 0] }).get? D = none := hD
    have hD1 : s1.heap.get? D = none := by
      cases e : s1.heap.get? D with
      | none => rfl
      | some o => rw [Heap.get?_push_of_some _ e] at hDn; cases hDn
    have hH : H1 D = none := I1.hok.gone hD1
    have hold : ∀ c o, s1.heap.get? c = some o → h'.get? c = some o := fun c o e => by
      refine hk c o (fun z => ?_) (Heap.get?_push_of_some _ e)
      have : c = s1.heap.objs.size := by simpa using z
      exact absurd (Heap.lt_size e) (by rw [this]; exact Nat.lt_irrefl _)
    rw [List.filter_eq_self.mpr (fun _ _ => rfl)] at hF
    obtain ⟨f1, f2⟩ := pairF hF
    have hlen2 : bs.length = its.length := by have := rv.length; simpa using this
    have hlv : vs.length = its.length := by simpa using hlen
    have hvals : Vals (bs.map fun b => V.int (b01 b)) ys.toList := by
      refine valsOf (by rw [List.length_map, ← f1]; omega) fun j w e => ?_
      rw [List.getElem?_map] at e
      cases eb : bs[j]? with
      | none => rw [eb] at e; cases e
      | some b =>
        rw [eb] at e
        cases e
        have hj : j < vs.length := by rw [hlv, ← hlen2]; exact (List.getElem?_eq_some_iff.mp eb).1
        obtain ⟨y, y1, b', t, y2, y3⟩ := f2 j vs[j] (by simp [hj])
        have hv2 : its[j]? = some vs[j] := by
          have := hP j vs[j] (by simp [hj])
          simpa using this
        obtain ⟨u, u1, u2⟩ := rv.get (i := j) (x := V.bl b) (by rw [List.getElem?_map, eb] <;> rfl)
        rw [hv2] at u1
        cases u1
        have u2 : vs[j] = Value.bool b := u2
        rw [y2] at u2
        cases u2
        exact ⟨y, y1, by rw [y3]; exact ⟨t, rfl⟩⟩
    obtain ⟨n, hn⟩ := hpl2
    refine ⟨.ref D, upd H1 D (.lst (bs.map fun b => V.int (b01 b))), ?_, rfl, q D hH⟩
    refine I1.laidN hold hD1 hH ⟨by simp at hz ⊢; omega, ys.toList, n, hvals, ?_⟩
    simpa using hn
end LP
namespace LP
open PySem PySem.Spec
open PyProof.Rows L2
/-! ### the handled exception asked for its class -/
theorem call_isP {X : Cx} {a B : Addr} {oe : Obj} (kc : ExcC X.K B) (z1 : oe.cls = .ref B) (z2 : oe.dict = none) (zf : ∃ vs, oe.data = .fields vs) (hp : (a, oe) ∈ X.pn) : CallR X (.builtin "isinstance") (rIsE X.K B a) := by
  intro pins st σ H args us Q inv rel want
  obtain ⟨c, cv, b, rfl, only, ek, q⟩ := want
  obtain ⟨u1, u2, rfl, r1, r2⟩ := Vals.two rel
  cases r1
  obtain rfl := only u2 r2
  have here := (inv.pin (a, oe) (List.mem_append_left _ hp)).1
  obtain ⟨vs, zv⟩ := zf
  have at_ : PySem.W.InstAt st.heap a oe B none := by
    rcases oe with ⟨k1, k2, k3, k4⟩
    simp only at z1 z2 zv
    subst z1 z2 zv
    exact ⟨here, rfl, rfl, trivial⟩
  refine PySem.W.kia_one (PySem.W.handS_kitx_exc kc.hg kc.hk kc.hs kc.hd kc.ha kc.hn kc.ht kc.hm) inv.kIn at_ ek (fun z => nomatch z) fun tk => ?_
  exact ⟨.bl b, H, inv.kept (t' := tk) fun _ _ e => e, rfl, q⟩
/-- isinstance(e, x) where x is a class of the module -/
theorem pe_isP {X : Cx} {a B : Addr} {oe : Obj} {x en : Str} {C : Addr} {b : Bool} {p1 p2 p3 pos : Pos} (kc : ExcC X.K B) (z1 : oe.cls = .ref B) (z2 : oe.dict = none) (zf : ∃ vs, oe.data = .fields vs) (hp : (a, oe) ∈ X.pn)
    (h0 : X.N[0]? = some en) (hv : Vis X.env.scope en) (hd : (en == ("__debug__" : Str)) = false) (hcd : (en == ("__classdict__" : Str)) = false) (hi : Gl X "isinstance") (hmi : X.mg "isinstance" = none) (hx : Gl X x) (hm : X.mg x = some (.ref C)) (hxd : (x == ("__debug__" : Str)) = false)
    (ek : PySem.W.kitOne X.K (.ref B) (.ref C) = some b) : PE X (.Call (.Name "isinstance" p1) [.Name en p2, .Name x p3] [] pos) (fun σ H Q => σ[0]? = some (some (.ref a)) ∧ Q (.bl b) H) := by
  have hA : PA X [.Name en p2, .Name x p3] (tCons (tVar 0) (tCons (tC (.ref C)) tNil)) := pa_cons (pe_var (i := 0) h0 hv hd hcd) (pa_cons (pe_glob hx hm rfl hxd) pa_nil rfl) rfl
  refine (pe_callB (call_isP kc z1 z2 zf hp) hi hmi boot_isi hA (by decide) (by decide) rfl rfl).imp fun σ H Q q => ?_
  exact ⟨.ref a, q.1, .ref C, .ref C, b, rfl, fun u r => r, ek, q.2⟩
theorem pe_isT {X : Cx} {a B : Addr} {oe : Obj} {en : Str} {b : Bool} {p1 p2 p3 pos : Pos} (kc : ExcC X.K B) (z1 : oe.cls = .ref B) (z2 : oe.dict = none) (zf : ∃ vs, oe.data = .fields vs) (hp : (a, oe) ∈ X.pn)
    (h0 : X.N[0]? = some en) (hv : Vis X.env.scope en) (hd : (en == ("__debug__" : Str)) = false) (hcd : (en == ("__classdict__" : Str)) = false) (hi : Gl X "isinstance") (hmi : X.mg "isinstance" = none) (hx : Gl X "ValueError") (hm : X.mg "ValueError" = none)
    (ek : PySem.W.kitOne X.K (.ref B) (.type "ValueError") = some b) : PE X (.Call (.Name "isinstance" p1) [.Name en p2, .Name "ValueError" p3] [] pos) (fun σ H Q => σ[0]? = some (some (.ref a)) ∧ Q (.bl b) H) := by
  have hA : PA X [.Name en p2, .Name "ValueError" p3] (tCons (tVar 0) (tCons (tC (.ty "ValueError")) tNil)) := pa_cons (pe_var (i := 0) h0 hv hd hcd) (pa_cons (pe_bltn hx hm (show bootBuiltins "ValueError" = some (.type "ValueError") from by decide +kernel) rfl (by decide) (by decide)) pa_nil rfl) rfl
  refine (pe_callB (call_isP kc z1 z2 zf hp) hi hmi boot_isi hA (by decide) (by decide) rfl rfl).imp fun σ H Q q => ?_
  exact ⟨.ref a, q.1, .ty "ValueError", .type "ValueError", b, rfl, fun u r => r, ek, q.2⟩
end LP
namespace LP
open PySem PySem.Spec
open PyProof.Rows L2
def compOk (sc : Scope) : Bool := sc.names.all (fun y => !decide (y.2 = .free) && !decide (y.2 = .cell) && (!decide (y.2 = .local) || decide (sc.names.lookup y.1 = some .local))) && decide (sc.kind = .function) && decide (sc.names.lookup ("flag" : Str) = some .local) && decide (sc.names.lookup ("int" : Str) = some NameKind.globalImplicit)
inductive TermShape : List Stmt → Prop
  | mk {p0 p1 p2 p3 p4 p5 p6 p7 p8 p9 p10 p11 p12 p13 p14 p15 p16 p17 p18 p19 p20 p21 p22 p23 p24 p25 p26 p27 p28 p29 p30 p31 p32 p33 p34 p35 p36 p37 p38 p39 p40 p41 p42 p43 p44 p45 p46 p47 p48 p49 p50 p51 p52 p53 p54 p55 p56 p57 p58 p59 p60 p61 p62 p63 p64 p65 p66 p67 p68 p69 p70 p71 p72 p73 p74 p75 p76 p77 p78 p79 p80 p81 p82 p83 p84 p85 p86 p87 p88 p89 p90 p91 p92 p93 p94 p95 p96 p97 p98 p99 p100 p101 p102 p103 p104 p105 p106 p107 p108 p109 p110 p111 p112 p113 p114 p115 : Pos} {k0 k1 k2 k3 k4 k5 k6 k7 k8 k9 k10 k11 k12 k13 k14 k15 k16 k17 k18 : Nat} {sc0 : Scope} (hco : compOk sc0 = true) (hln : (p110.endLine == p112.line) = true) : TermShape [
   .Assign [.Name "flags" p0] (.List [.Call (.Name "isinstance" p1) [.Name "e" p2, .Name "BadShore" p3] [] p4, .Call (.Name "isinstance" p5) [.Name "e" p6, .Name "BadPool" p7] [] p8, .Call (.Name "isinstance" p9) [.Name "e" p10, .Name "BadHeight" p11] [] p12, .Call (.Name "isinstance" p13) [.Name "e" p14, .Name "BadCounts" p15] [] p16] p17) p18,
   .Assign [.Name "flags" p19] (.BinOp (.Name "flags" p20) .Add (.List [.Call (.Name "isinstance" p21) [.Name "e" p22, .Name "BadLot" p23] [] p24, .Call (.Name "isinstance" p25) [.Name "e" p26, .Name "BadKinds" p27] [] p28, .Call (.Name "isinstance" p29) [.Name "e" p30, .Name "BadBounds" p31] [] p32] p33) p34) p35,
   .Assign [.Name "flags" p36] (.BinOp (.Name "flags" p37) .Add (.List [.Call (.Name "isinstance" p38) [.Name "e" p39, .Name "BadDays" p40] [] p41, .Call (.Name "isinstance" p42) [.Name "e" p43, .Name "BadSeen" p44] [] p45, .Call (.Name "isinstance" p46) [.Name "e" p47, .Name "Nothing" p48] [] p49] p50) p51) p52,
   .Assign [.Name "flags" p53] (.BinOp (.Name "flags" p54) .Add (.List [.Call (.Name "isinstance" p55) [.Name "e" p56, .Name "Full" p57] [] p58, .Call (.Name "isinstance" p59) [.Name "e" p60, .Name "BadText" p61] [] p62] p63) p64) p65,
   .Assign [.Name "names" p66] (.List [.Constant (.str "BadShore") k0 p67, .Constant (.str "BadPool") k1 p68, .Constant (.str "BadHeight") k2 p69, .Constant (.str "BadCounts") k3 p70, .Constant (.str "BadLot") k4 p71, .Constant (.str "BadKinds") k5 p72, .Constant (.str "BadBounds") k6 p73, .Constant (.str "BadDays") k7 p74] p75) p76,
   .Assign [.Name "names" p77] (.BinOp (.Name "names" p78) .Add (.List [.Constant (.str "BadSeen") k8 p79, .Constant (.str "Nothing") k9 p80, .Constant (.str "Full") k10 p81, .Constant (.str "BadText") k11 p82] p83) p84) p85,
   .If (.BoolOp .Or [.Compare (.Call (.Name "sum" p86) [.ListComp (.Call (.Name "int" p87) [.Name "flag" p88] [] p89) [⟨.Name "flag" p90, .Name "flags" p91, [], 0⟩] sc0 p92] [] p93) [.NotEq] [.Constant (.int 1) k12 p94] p95, .UnaryOp .Not (.Call (.Name "isinstance" p96) [.Name "e" p97, .Name "ValueError" p98] [] p99) p100] p101) [.Return (some (.Tuple [.Constant (.str "refused") k13 p102, .Constant (.str "other") k14 p103] k15 p104)) p105] [] p106,
   .Return (some (.Tuple [.Constant (.str "refused") k16 p107, .Subscript (.Name "names" p108) (.Call (.Attribute (.Name "flags" p109) "index" p110) [.Constant (.bool true) k17 p111] [] p112) p113] k18 p114)) p115]
def ToldShape (body : List Stmt) : Prop := ∃ (p0 p1 p2 p3 p4 p5 p6 p7 p8 p9 : Pos), body = [
   .Try [.Return (some (.Call (.Name "deed" p0) [] [] p1)) p2] [.ExceptHandler (some (.Name "PoolError" p3)) (some "e") [.Return (some (.Call (.Name "_law_term" p4) [.Name "e" p5] [] p6)) p7] p8] [] [] p9]
/-- what the walk of _law_term leans on: a is the handled exception, of class c -/
structure TermCx (X : Cx) (a : Addr) (oe : Obj) (c : Str) : Prop where
  hc : c ∈ excs
  kc : ExcC X.K (He.ga X.K c)
  z1 : oe.cls = .ref (He.ga X.K c)
  z2 : oe.dict = none
  zf : ∃ vs, oe.data = .fields vs
  hp : (a, oe) ∈ X.pn
  hot : L2H.Hot1 X.A (a, oe)
  nn : X.N = (["e", "flags", "names", "flag"] : List Str)
  ve : Vis X.env.scope "e"
  l1 : X.env.scope.names.lookup ("flags" : Str) = some .local
  l2 : X.env.scope.names.lookup ("names" : Str) = some .local
  gi : Gl X "isinstance"
  mi : X.mg "isinstance" = none
  gs : Gl X "sum"
  ms : X.mg "sum" = none
  mint : X.mg "int" = none
  gv : Gl X "ValueError"
  mv : X.mg "ValueError" = none
  ek : PySem.W.kitOne X.K (.ref (He.ga X.K c)) (.type "ValueError") = some true
  gx : ∀ y ∈ excs, Gl X y ∧ X.mg y = some (.ref (He.ga X.K y)) ∧ PySem.W.kitOne X.K (.ref (He.ga X.K c)) (.ref (He.ga X.K y)) = some (c == y)
section
variable {X : Cx} {a : Addr} {oe : Obj} {c : Str}
def tIs (a : Addr) (b : Bool) : TE := fun σ H Q => σ[0]? = some (some (.ref a)) ∧ Q (.bl b) H
theorem TermCx.is (M : TermCx X a oe c) {y : Str} {p1 p2 p3 pos : Pos} (hy : y ∈ excs) (hd : (y == ("__debug__" : Str)) = false) : PE X (.Call (.Name "isinstance" p1) [.Name "e" p2, .Name y p3] [] pos) (tIs a (c == y)) := by
  obtain ⟨g1, g2, g3⟩ := M.gx y hy
  exact pe_isP M.kc M.z1 M.z2 M.zf M.hp (by rw [M.nn]; rfl) M.ve (by decide) (by decide) M.gi M.mi g1 g2 hd g3
theorem TermCx.nd (M : TermCx X a oe c) : X.N.Nodup := by rw [M.nn]; decide +kernel
theorem cr_sumHot {p : Addr × Obj} (hot : L2H.Hot1 X.A p) (hp : p ∈ X.pn) : CallR X (.builtin "sum") (rSum X.K) := by
  intro pins st σ H vs us Q inv rel want
  obtain ⟨l, ns, rfl, hs, q⟩ := want
  obtain ⟨its, rv, hl, _⟩ := inv.list hs
  rw [Vals.ref1 rel]
  obtain ⟨xs, e⟩ := (rv.ints).allInts.items
  have hn : numsOf (intItems xs).toList = ns := by rw [← e]; exact rv.ints.numsOf
  rw [nums_intItems] at hn
  have hl2 := hl.isList
  rw [e] at hl2
  obtain ⟨hh, v1, e1, c1⟩ := hot
  refine lp_sum_hot (x1 := p.1) ⟨hh, p.2, v1, (inv.pin p (List.mem_append_left _ hp)).1, e1, c1⟩ hl2 fun h2 tk t2 hk => ?_
  refine ⟨.int ns.sum, H, inv.kept hk, ⟨t2, ?_⟩, q⟩
  rw [preSum_eq, ← hn, List.take_of_length_le (by simp)]
def flagsOf (c : Str) : List Bool := excs.map fun y => c == y
def spotOk (c : Str) : Bool := decide (((flagsOf c).map b01).sum = 1) && (List.range 12).any fun j => decide ((flagsOf c)[j]? = some true) && decide (excs[j]? = some c) && (List.range j).all fun m => decide ((flagsOf c)[m]? = some false)
theorem spots : ∀ c ∈ excs, spotOk c = true := by decide +kernel
theorem spot {c : Str} (h : c ∈ excs) : ((flagsOf c).map b01).sum = 1 ∧ ∃ j : Nat, (flagsOf c)[j]? = some true ∧ excs[j]? = some c ∧ ∀ m : Nat, m < j → (flagsOf c)[m]? = some false := by
  have q := spots c h
  unfold spotOk at q
  simp only [Bool.and_eq_true, decide_eq_true_eq, List.any_eq_true, List.all_eq_true, List.mem_range] at q
  obtain ⟨q1, j, _, ⟨q2, q3⟩, q4⟩ := q
  exact ⟨q1, j, q2, q3, q4⟩
theorem compOk_of {sc : Scope} (h : compOk sc = true) : (∀ y ∈ sc.names, y.2 ≠ .free) ∧ (∀ y ∈ sc.names, y.2 ≠ .cell) ∧ sc.kind = .function ∧ (∀ y ∈ sc.names, y.2 = .local → sc.names.lookup y.1 = some .local) ∧ sc.names.lookup ("flag" : Str) = some .local ∧ sc.names.lookup ("int" : Str) = some NameKind.globalImplicit := by
  unfold compOk at h
  simp only [List.all_eq_true, Bool.and_eq_true, Bool.or_eq_true, Bool.not_eq_true', decide_eq_true_eq, decide_eq_false_iff_not] at h
  have ⟨⟨⟨h1, h2⟩, h3⟩, h4⟩ := h
  exact ⟨fun y hy => (h1 y hy).1.1, fun y hy => (h1 y hy).1.2, h2, fun y hy e => (h1 y hy).2.resolve_left fun n => n e, h3, h4⟩
end
end LP
namespace LP
open PySem PySem.Spec
open PyProof.Rows L2
section
variable {X : Cx} {a : Addr} {oe : Obj} {c : Str}
theorem TermCx.n1 (M : TermCx X a oe c) : X.N[1]? = some ("flags" : Str) := by rw [M.nn]; rfl
theorem TermCx.n2 (M : TermCx X a oe c) : X.N[2]? = some ("names" : Str) := by rw [M.nn]; rfl
theorem TermCx.v1 (M : TermCx X a oe c) {p : Pos} : PE X (.Name "flags" p) (tVar 1) := pe_var M.n1 (.inl M.l1) (by decide) (by decide)
theorem TermCx.v2 (M : TermCx X a oe c) {p : Pos} : PE X (.Name "names" p) (tVar 2) := pe_var M.n2 (.inl M.l2) (by decide) (by decide)
theorem TermCx.set1 (M : TermCx X a oe c) {e : Expr} {te : TE} {p q : Pos} (he : PE X e te) (hs : swapsWith e (some (.Name "flags" p)) q.line X.env = pure false) : PS X (.Assign [.Name "flags" p] e q) (tAsg te (gName 1)) := ps_set M.nd M.n1 (.inl M.l1) he hs (.inr M.l1)
theorem TermCx.set2 (M : TermCx X a oe c) {e : Expr} {te : TE} {p q : Pos} (he : PE X e te) (hs : swapsWith e (some (.Name "names" p)) q.line X.env = pure false) : PS X (.Assign [.Name "names" p] e q) (tAsg te (gName 2)) := ps_set M.nd M.n2 (.inl M.l2) he hs (.inr M.l2)
def tIsS (a : Addr) (bs : List Bool) : TA := fun σ H Q => σ[0]? = some (some (.ref a)) ∧ Q (bs.map V.bl) H
theorem pa_isNil : PA X [] (tIsS a []) := pa_nil.imp fun σ H Q q => q.2
theorem pa_isCons {b : Bool} {bs : List Bool} {e : Expr} {es : List Expr} (he : PE X e (tIs a b)) (hs : PA X es (tIsS a bs)) (h : starEach (e :: es) X.env = (false, eval e X.env) :: starEach es X.env) : PA X (e :: es) (tIsS a (b :: bs)) :=
  (pa_cons he hs h).imp fun σ H Q q => ⟨q.1, q.1, q.2⟩
def tStrS (xs : List Str) : TA := fun σ H Q => Q (xs.map V.str) H
theorem pa_strNil : PA X [] (tStrS []) := pa_nil
theorem pa_strCons {x : Str} {xs : List Str} {j : Nat} {p : Pos} {es : List Expr} (hs : PA X es (tStrS xs)) (h : starEach (.Constant (.str x) j p :: es) X.env = (false, eval (.Constant (.str x) j p) X.env) :: starEach es X.env) : PA X (.Constant (.str x) j p :: es) (tStrS (x :: xs)) := pa_cons pe_str hs h
theorem t1 (M : TermCx X a oe c) {p1 p2 p3 p4 p5 p6 p7 p8 p9 p10 p11 p12 p13 p14 p15 p16 : Pos} : PA X [.Call (.Name "isinstance" p1) [.Name "e" p2, .Name "BadShore" p3] [] p4, .Call (.Name "isinstance" p5) [.Name "e" p6, .Name "BadPool" p7] [] p8, .Call (.Name "isinstance" p9) [.Name "e" p10, .Name "BadHeight" p11] [] p12, .Call (.Name "isinstance" p13) [.Name "e" p14, .Name "BadCounts" p15] [] p16]
    (tIsS a [c == ("BadShore" : Str), c == ("BadPool" : Str), c == ("BadHeight" : Str), c == ("BadCounts" : Str)]) :=
  pa_isCons (M.is (by decide +kernel) (by decide)) (pa_isCons (M.is (by decide +kernel) (by decide)) (pa_isCons (M.is (by decide +kernel) (by decide)) (pa_isCons (M.is (by decide +kernel) (by decide)) pa_isNil rfl) rfl) rfl) rfl
theorem t2 (M : TermCx X a oe c) {y z u : Str} (hy : y ∈ excs) (hz : z ∈ excs) (hu : u ∈ excs) (dy : (y == ("__debug__" : Str)) = false) (dz : (z == ("__debug__" : Str)) = false) (du : (u == ("__debug__" : Str)) = false) {p1 p2 p3 p4 p5 p6 p7 p8 p9 p10 p11 p12 : Pos} :
    PA X [.Call (.Name "isinstance" p1) [.Name "e" p2, .Name y p3] [] p4, .Call (.Name "isinstance" p5) [.Name "e" p6, .Name z p7] [] p8, .Call (.Name "isinstance" p9) [.Name "e" p10, .Name u p11] [] p12] (tIsS a [c == y, c == z, c == u]) :=
  pa_isCons (M.is hy dy) (pa_isCons (M.is hz dz) (pa_isCons (M.is hu du) pa_isNil rfl) rfl) rfl
theorem t3 (M : TermCx X a oe c) {y z : Str} (hy : y ∈ excs) (hz : z ∈ excs) (dy : (y == ("__debug__" : Str)) = false) (dz : (z == ("__debug__" : Str)) = false) {p1 p2 p3 p4 p5 p6 p7 p8 : Pos} :
    PA X [.Call (.Name "isinstance" p1) [.Name "e" p2, .Name y p3] [] p4, .Call (.Name "isinstance" p5) [.Name "e" p6, .Name z p7] [] p8] (tIsS a [c == y, c == z]) :=
  pa_isCons (M.is hy dy) (pa_isCons (M.is hz dz) pa_isNil rfl) rfl
theorem tTestP (M : TermCx X a oe c) {p86 p87 p88 p89 p90 p91 p92 p93 p94 p95 p96 p97 p98 p99 p100 p101 : Pos} {k12 : Nat} {sc0 : Scope} (hco : compOk sc0 = true) :
    PT X (.BoolOp .Or [.Compare (.Call (.Name "sum" p86) [.ListComp (.Call (.Name "int" p87) [.Name "flag" p88] [] p89) [⟨.Name "flag" p90, .Name "flags" p91, [], 0⟩] sc0 p92] [] p93) [.NotEq] [.Constant (.int 1) k12 p94] p95, .UnaryOp .Not (.Call (.Name "isinstance" p96) [.Name "e" p97, .Name "ValueError" p98] [] p99) p100] p101)
      (fun σ H Q => σ[0]? = some (some (.ref a)) ∧ ∃ (l : Addr) (bs : List Bool), σ[1]? = some (some (.ref l)) ∧ SqL X.K H l (bs.map V.bl) ∧ (bs.map b01).sum = 1 ∧ ∀ q, H q = none → Q false (upd H q (.lst (bs.map fun b => V.int (b01 b))))) := by
  obtain ⟨c1, c2, c3, c4, c5, c6⟩ := compOk_of hco
  have hcomp := pe_flags (p1 := p87) (p2 := p88) (p3 := p89) (p4 := p90) (pos := p92) M.hot M.hp M.mint (M.v1 (p := p91)) c1 c2 c3 c4 c5 c6 (by decide) (fun _ => rfl)
  have hsum := pe_callB (p := p86) (pos := p93) (cr_sumHot M.hot M.hp) M.gs M.ms boot_sum (pa_cons hcomp pa_nil rfl) (by decide) (by decide) rfl rfl
  have hcmp := pt_cmpR (pos := p95) op_ne hsum (pe_int (i := 1) (j := k12) (pos := p94)) rfl
  have hve := pe_isT (p1 := p96) (p2 := p97) (p3 := p98) (pos := p99) M.kc M.z1 M.z2 M.zf M.hp (by rw [M.nn]; rfl) M.ve (by decide) (by decide) M.gi M.mi M.gv M.mv M.ek
  have hnot := pt_not (pos := p100) (pt_val hve (fun _ => rfl))
  have hor := pw_or (pos := p101) hcmp (pw_or1 hnot)
  constructor; intro pins s σ H Q I q
  refine hor.run _ pins s σ H Q I ?_
  obtain ⟨h0, l, bs, h1, h2, h3, h4⟩ := q
  refine ⟨.ref l, h1, l, bs, rfl, h2, fun q hq => ?_⟩
  refine ⟨q, bs.map b01, rfl, SqL.of (by rw [upd_same]; simp), ?_⟩
  refine ⟨rfl, _, rfl, ?_⟩
  show if _ = true then _ else _
  rw [if_neg (by rw [h3]; decide)]
  exact ⟨h0, true, rfl, h4 q hq⟩
theorem flags_eq (c : Str) : ([c == ("BadShore" : Str), c == ("BadPool" : Str), c == ("BadHeight" : Str), c == ("BadCounts" : Str)] ++ [c == ("BadLot" : Str), c == ("BadKinds" : Str), c == ("BadBounds" : Str)] ++ [c == ("BadDays" : Str), c == ("BadSeen" : Str), c == ("Nothing" : Str)] ++ [c == ("Full" : Str), c == ("BadText" : Str)]) = flagsOf c := rfl
theorem names_eq : (([("BadShore" : Str), "BadPool", "BadHeight", "BadCounts", "BadLot", "BadKinds", "BadBounds", "BadDays"] : List Str) ++ [("BadSeen" : Str), "Nothing", "Full", "BadText"]) = excs := rfl
theorem tLast (M : TermCx X a oe c) {p107 p108 p109 p110 p111 p112 p113 p114 p115 : Pos} {k16 k17 k18 : Nat} (hln : (p110.endLine == p112.line) = true) :
    PS X (.Return (some (.Tuple [.Constant (.str "refused") k16 p107, .Subscript (.Name "names" p108) (.Call (.Attribute (.Name "flags" p109) "index" p110) [.Constant (.bool true) k17 p111] [] p112) p113] k18 p114)) p115)
      (fun D σ H => ∃ (l n : Addr), σ[1]? = some (some (.ref l)) ∧ σ[2]? = some (some (.ref n)) ∧ H l = some (.lst ((flagsOf c).map V.bl)) ∧ H n = some (.lst (excs.map V.str)) ∧ ∀ p, H p = none → D.rt (.ref p) (upd H p (.tup [.str "refused", .str c]))) := by
  have hix := pe_bm (cpos := p112) (apos := p110) F.plainAttrs_list F.slot_list_index F.type_list_index mt_index (M.v1 (p := p109)) (pa_cons (pe_bl (b := true) (j := k17) (pos := p111)) pa_nil rfl) rfl rfl hln rfl rfl
  have hsub := pe_ix (pos := p113) ix_seq (M.v2 (p := p108)) hix (fun _ _ => rfl)
  refine (ps_ret (pos := p115) (pe_tup (x1 := k18) (pos := p114) (pa_cons (pe_str (j := k16) (pos := p107)) (pa_cons hsub pa_nil rfl) rfl))).imp fun D σ H q => ?_
  obtain ⟨l, n, h1, h2, h3, h4, h5⟩ := q
  obtain ⟨s1, j, s2, s3, s4⟩ := spot M.hc
  have hat : (excs.map V.str)[j]? = some (.str c) := by rw [List.getElem?_map, s3] <;> rfl
  have hja : atI (excs.map V.str) (j : Nat) = some (.str c) := by
    unfold atI
    have hj : j < (excs.map V.str).length := (List.getElem?_eq_some_iff.mp hat).1
    have e : ixN (excs.map V.str).length ((j : Nat) : Int) = some j := by
      unfold ixN
      have : ((j : Nat) : Int) < ((excs.map V.str).length : Nat) := by omega
      rw [if_pos (by omega), if_pos this, Int.toNat_natCast]
    rw [e]
    exact hat
  refine ⟨.ref n, h2, .ref l, h1, (.inl ⟨rfl, _, SqL.of h3⟩), l, (flagsOf c).map V.bl, .bl true, j, .bl true, rfl, rfl, SqL.of h3, rfl, ?_, by rw [List.getElem?_map, s2] <;> rfl, rfl, fun m z hm hz => ?_, ?_⟩
  · rw [List.all_map]; exact List.all_eq_true.mpr fun _ _ => rfl
  · rw [List.getElem?_map, s4 m hm] at hz
    cases hz
    rfl
  · exact .inl ⟨n, _, _, _, rfl, rfl, SqL.of h4, hja, (show 2 ≤ sizeLine by decide), fun p hp => h5 p hp⟩
theorem catStep {i : Nat} {ta : TA} {D : Ends} {σ : L2.St} {H : Hp} {l : Addr} {xs ys : List V} (hσ : σ[i]? = some (some (.ref l))) (hl : H l = some (.lst xs)) (ht : ∀ H Q, Q ys H → ta σ H Q) (hz : xs.length + ys.length ≤ sizeLine)
    (q : ∀ H2 q, Le H H2 → H2 q = some (.lst (xs ++ ys)) → D.nx (σ.set i (some (.ref q))) H2) : tAsg (tOp rCat (tVar i) (tLst ta)) (gName i) D σ H := by
  refine ⟨.ref l, hσ, ht _ _ ⟨by omega, fun p hp => ⟨l, p, xs, ys, rfl, rfl, by rw [upd_ne (ne_of_none hl hp)]; exact hl, upd_same, hz, fun p2 hp2 => q _ p2 ((le_upd hp).trans (le_upd hp2)) upd_same⟩⟩⟩
theorem newStep {i : Nat} {ta : TA} {D : Ends} {σ : L2.St} {H : Hp} {ys : List V} (ht : ∀ H Q, Q ys H → ta σ H Q) (hz : ys.length ≤ sizeLine)
    (q : ∀ H2 q, Le H H2 → H2 q = some (.lst ys) → D.nx (σ.set i (some (.ref q))) H2) : tAsg (tLst ta) (gName i) D σ H :=
  ht _ _ ⟨hz, fun p hp => q _ p (le_upd hp) upd_same⟩
theorem termWalk (M : TermCx X a oe c) {body : List Stmt} (hb : TermShape body) : ∃ t, PSs X body t ∧
    ∀ (D : Ends) (H : Hp), (∀ J p, Le H J → H p = none → J p = some (.tup [.str "refused", .str c]) → D.rt (.ref p) J) → t D [some (.ref a), none, none, none] H := by
  cases hb with
  | mk hco hln =>
    refine ⟨_, pss_cons (M.set1 (pe_lst (t1 M)) rfl) (pss_cons (M.set1 (pe_op op_cat M.v1 (pe_lst (t2 M (by decide +kernel) (by decide +kernel) (by decide +kernel) (by decide) (by decide) (by decide)))) rfl)
      (pss_cons (M.set1 (pe_op op_cat M.v1 (pe_lst (t2 M (by decide +kernel) (by decide +kernel) (by decide +kernel) (by decide) (by decide) (by decide)))) rfl)
      (pss_cons (M.set1 (pe_op op_cat M.v1 (pe_lst (t3 M (by decide +kernel) (by decide +kernel) (by decide) (by decide)))) rfl)
      (pss_cons (M.set2 (pe_lst (pa_strCons (pa_strCons (pa_strCons (pa_strCons (pa_strCons (pa_strCons (pa_strCons (pa_strCons pa_strNil rfl) rfl) rfl) rfl) rfl) rfl) rfl) rfl)) rfl)
      (pss_cons (M.set2 (pe_op op_cat M.v2 (pe_lst (pa_strCons (pa_strCons (pa_strCons (pa_strCons pa_strNil rfl) rfl) rfl) rfl))) rfl)
      (pss_cons (ps_if (tTestP M hco) (pss_one (ps_ret (pe_tup (pa_strCons (pa_strCons pa_strNil rfl) rfl)))) pss_nil) (pss_one (tLast M hln)))))))), fun D H q => ?_⟩
    refine newStep (ys := _) (fun _ _ w => ⟨rfl, w⟩) (show 4 ≤ sizeLine by decide) fun H1 q1 e1 f1 => ?_
    refine catStep (l := q1) rfl f1 (fun _ _ w => ⟨rfl, w⟩) (show 4 + 3 ≤ sizeLine by decide) fun H2 q2 e2 f2 => ?_
    refine catStep (l := q2) rfl f2 (fun _ _ w => ⟨rfl, w⟩) (show 7 + 3 ≤ sizeLine by decide) fun H3 q3 e3 f3 => ?_
    refine catStep (l := q3) rfl f3 (fun _ _ w => ⟨rfl, w⟩) (show 10 + 2 ≤ sizeLine by decide) fun H4 q4 e4 f4 => ?_
    show tAsg (tLst (tStrS _)) (gName 2) _ _ _
    refine newStep (ta := tStrS _) (ys := [_, _, _, _, _, _, _, _]) (fun _ _ w => w) (show 8 ≤ sizeLine by decide) fun H5 q5 e5 f5 => ?_
    refine catStep (l := q5) rfl f5 (fun _ _ w => w) (show 8 + 4 ≤ sizeLine by decide) fun H6 q6 e6 f6 => ?_
    have f4' : H6 q4 = some (.lst ((flagsOf c).map V.bl)) := e6 _ _ (e5 _ _ f4)
    have f6' : H6 q6 = some (.lst (excs.map V.str)) := f6
    have le6 : Le H H6 := ((((e1.trans e2).trans e3).trans e4).trans e5).trans e6
    refine ⟨rfl, q4, flagsOf c, rfl, SqL.of f4', (spot M.hc).1, fun q7 n7 => ?_⟩
    show tNext _ _ _
    have le7 : Le H (upd H6 q7 (.lst ((flagsOf c).map fun b => V.int (b01 b)))) := le6.trans (le_upd n7)
    refine ⟨q4, q6, rfl, rfl, by rw [upd_ne (ne_of_none f4' n7)]; exact f4', by rw [upd_ne (ne_of_none f6' n7)]; exact f6', fun p hp => q _ p (le7.trans (le_upd hp)) ?_ upd_same⟩
    cases z : H p with
    | none => rfl
    | some o => rw [le7 _ _ z] at hp; cases hp
end
end LP
namespace LP
open PySem PySem.Spec
open PyProof.Rows L2
/-! ### a def called while the exception p is handled -/
/-- each parameter has a place in the new frame -/
theorem placed {N ps : List Str} {sc : Scope} (S : FnScope N ps sc) (us : List Value) (L : Addr) : ∀ y ∈ ps.zip us,
    sc.names.lookup y.1 = some .local ∨ (sc.names.lookup y.1 = some .cell ∧ ((cellsFrom L sc.names []).lookup y.1).isSome = true) := by
  intro y hy
  have hp : y.1 ∈ ps := (List.of_mem_zip (a := y.1) (b := y.2) hy).1
  exact (S.par _ hp).elim Or.inl fun q => Or.inr ⟨q, PySem.W.cellsFrom_some _ _ _ (Or.inl q)⟩
/-- where the body ends the call's promise holds -/
theorem landsH {CX : CXT} {P : Program} {w : World} {K : PySem.W.Frag} {mg : Str → Option Value} {base : Heap} {f : Addr} {ql : Str} {sc : Scope} {cdv : Value} {N : List Str} {A : Around} {outer : List Env} {s : Shared} {H : Hp} {Q : VK} {E : XK} {p : Addr × Obj} : ∀ (fl : Flow) (s2 : Shared),
    SP (L2H.cxH CX P w K mg base N ql sc f cdv A outer s H E p) [] { nx := fun _ => Q .non, rt := Q } fl s2 → CE outer P w H s Q (match fl with | .ret v => v | _ => .none) s2
  | .ret _, _, ⟨v, _, J2, J, rv, q⟩ => ⟨v, J2, J.os, J.bare, J.base, J.hok, rv, q⟩
  | .next, _, ⟨_, J2, J, q⟩ => ⟨V.non, J2, J.os, J.bare, J.base, J.hok, rfl, q⟩
  | .brk, _, ⟨_, _, _, q⟩ => q.elim
  | .cont, _, ⟨_, _, _, q⟩ => q.elim
/-- the def f of K, its names being N, its parameters ps -/
structure HotDef (K : PySem.W.Frag) (f : Addr) (ql : Str) (bd : List Stmt) (sc : Scope) (cdv : Value) (fd : FuncData) (N ps : List Str) : Prop where
  ob : ∃ (oc : Value) (od : Option Addr) (osl : Array (Option Value)), K.lookup f = some ⟨oc, od, .func fd, osl⟩
  fd : ∃ (nm : Str) (ag : Arguments) (dV kV doc pm ct : Value) (an : Option Addr), fd = PySem.W.fnOf nm ql ag bd sc dV kV doc pm an cdv ct
  code : PySem.W.codeIn K cdv ql = true
  sco : FnScope N ps sc
theorem runHot {CX : CXT} {P : Program} {w : World} {K : PySem.W.Frag} {mg : Str → Option Value} {base : Heap} {k : Nat} {f : Addr} {ql : Str} {bd : List Stmt} {sc : Scope} {cdv : Value} {fd : FuncData} {N ps : List Str}
    {A : Around} {outer : List Env} {s : Shared} {H : Hp} {args : Args} {us : List Value} {vs : List V} {Q : VK} {E : XK} {p : Addr × Obj} (F : HotDef K f ql bd sc cdv fd N ps) (hr : L2H.RoomH (k + 1) A) (hpin : L2H.PinOk outer H s p)
    (e0 : Env0 P w K mg base A outer s H) (hb : BindsTo s fd args (ps.zip us)) (r : Vals vs us) (hl : vs.length = ps.length)
    (body : ∃ t, PSs (L2H.cxH CX P w K mg base N ql sc f cdv A outer s H E p) bd t ∧ t { nx := fun _ => Q .non, rt := Q } (L2.start N vs) H) : codeAny (model P w) A (.call (.ref f) args) (CR CX outer P w H s Q E) s := by
  obtain ⟨⟨oc, od, osl, lk⟩, ⟨nm, ag, dV, kV, doc, pm, ct, an, rfl⟩, hcd, S⟩ := F
  obtain ⟨t, ht, hq⟩ := body
  have stays : ∀ b o, base.get? b = some o → s.heap.get? b = some o := fun b o h => (e0.bs b o h).1
  have here := e0.mod.kin.keeps stays
  apply codeAny_call_function hr.depth (here _ _ lk) rfl S.co S.gen rfl (PySem.W.codeRec_of here hcd)
  apply hb
  refine wpAny_newFunctionEnv_cells S.kind (placed S us _) ?_
  rintro _ rfl s1 x
  exact ⟨(e0.mod.nolimit.keeps stays).keeps x.toInCall.keep, codeAny_func (thn (ht.run [] s1 _ H _ (L2H.inv_startH S hpin e0 hl r x) hq) landsH)⟩
/-- what is known of the refusals' classes -/
structure TellK (K : PySem.W.Frag) (mg : Str → Option Value) : Prop where
  cl : ∀ c ∈ excs, ExcC K (He.ga K c) ∧ PySem.W.kitOne K (.ref (He.ga K c)) (.type "ValueError") = some true
  ki : ∀ c ∈ excs, ∀ y ∈ excs, PySem.W.kitOne K (.ref (He.ga K c)) (.ref (He.ga K y)) = some (c == y)
  gl : ∀ y ∈ excs, mg y = some (.ref (He.ga K y))
  ex : ∀ c ∈ excs, PySem.W.exmOne K (.ref (He.ga K c)) (.ref (He.ga K "PoolError")) = some true
  pool : mg "PoolError" = some (.ref (He.ga K "PoolError"))
  mi : mg "isinstance" = none
  ms : mg "sum" = none
  mt : mg "int" = none
  mv : mg "ValueError" = none
def termScB (sc : Scope) : Bool := decide (sc.names.lookup ("e" : Str) = some .local) && decide (sc.names.lookup ("flags" : Str) = some .local) && decide (sc.names.lookup ("names" : Str) = some .local) && glB sc "isinstance" && glB sc "sum" && glB sc "ValueError" && excs.all fun y => glB sc y
def NT : List Str := ["e", "flags", "names", "flag"]
/-- what is known of _law_term -/
structure TermAt (K : PySem.W.Frag) (mg : Str → Option Value) : Prop where
  ex : ∃ (f : Addr) (ag : Arguments) (bd : List Stmt) (sc : Scope) (dV kV doc pm cdv ct oc : Value) (an od : Option Addr) (osl : Array (Option Value)),
    K.lookup f = some ⟨oc, od, .func (PySem.W.fnOf "_law_term" "_law_term" ag bd sc dV kV doc pm an cdv ct), osl⟩ ∧ PySem.W.codeIn K cdv "_law_term" = true ∧ PySem.W.keepIn K (.ref f) = true ∧ mg "_law_term" = some (.ref f) ∧
    Binds K (PySem.W.fnOf "_law_term" "_law_term" ag bd sc dV kV doc pm an cdv ct) ["e"] [] ∧ FnScope NT ["e"] sc ∧ termScB sc = true ∧ TermShape bd
theorem pe_term {Y : Cx} {a : Addr} {oe : Obj} {c : Str} {i : Nat} {p4 p5 p6 : Pos} (TA : TermAt Y.K Y.mg) (TK : TellK Y.K Y.mg) (hc : c ∈ excs) (z : L2N.Zn (.ref (He.ga Y.K c)) none oe) (zf : ∃ vs, oe.data = .fields vs) (hp : (a, oe) ∈ Y.pn) (hh : Y.A.handled = some (.ref a)) (hr : L2H.RoomH 1 Y.A)
    (hg : Gl Y "_law_term") (hi : Y.N[i]? = some ("e" : Str)) (hv : Vis Y.env.scope "e") :
    PE Y (.Call (.Name "_law_term" p4) [.Name "e" p5] [] p6) (fun σ H Q => σ[i]? = some (some (.ref a)) ∧ ∀ J p, Le H J → H p = none → J p = some (.tup [.str "refused", .str c]) → Q (.ref p) J) := by
  obtain ⟨f, ag, bd, sc, dV, kV, doc, pm, cdv, ct, oc, an, od, osl, lk, hcd, hk, hm, hb, S, hsc, hsh⟩ := TA.ex
  unfold termScB at hsc
  simp only [Bool.and_eq_true, decide_eq_true_eq, List.all_eq_true] at hsc
  obtain ⟨⟨⟨⟨⟨⟨g1, g2⟩, g3⟩, g4⟩, g5⟩, g6⟩, g7⟩ := hsc
  obtain ⟨vs0, zv⟩ := zf
  refine ⟨fun pins s σ H Q I want => ?_⟩
  obtain ⟨h0, q⟩ := want
  refine wpAny_Call_Name_kw (ld_glob I hg hm ?_ (by decide))
  refine PySem.W.callWith_K (h₀ := Y.base) I.ok.mod.kin hk (thn ((pa_cons (pe_var (pos := p5) hi hv (by decide) (by decide)) pa_nil rfl).run p6 pins s σ H (fun vs H1 => vs = [.ref a] ∧ H1 = H) I ⟨.ref a, h0, rfl, rfl⟩) fun us s1 ⟨vs, H1, I1, r, e1, e2⟩ => ⟨I1.kIn, ?_⟩) (by rfl) (by rfl)
  subst e1
  rw [e2] at I1
  have P1 := I1.pin (a, oe) (List.mem_append_left _ hp)
  have hpin : L2H.PinOk Y.stack H s1 (a, oe) := ⟨P1.1, P1.2.1, fun hm => (List.mem_cons.mp (I1.stkSub a hm)).elim P1.2.2.1 P1.2.2.2.1, P1.2.2.2.2⟩
  have hl : us.length = (["e"] : List Str).length := by rw [← r.length]; rfl
  have b := hb s1 us I1.kIn (by rw [List.append_nil]; exact hl)
  rw [List.append_nil] at b
  have rc : codeAny (model Y.prog Y.w) Y.A (.call (.ref f) ⟨us, []⟩) (CR C8.CX0 Y.stack Y.prog Y.w H s1 Q C8.E0) s1 := by
    refine runHot (k := 0) (p := (a, oe)) (ql := "_law_term") (bd := bd) (sc := sc) (cdv := cdv) (N := NT) (ps := ["e"]) ⟨⟨_, _, _, lk⟩, ⟨_, _, _, _, _, _, _, _, rfl⟩, hcd, S⟩ hr hpin I1.env0 b r rfl ?_
    have M : TermCx (L2H.cxH C8.CX0 Y.prog Y.w Y.K Y.mg Y.base NT "_law_term" sc f cdv Y.A Y.stack s1 H C8.E0 (a, oe)) a oe c :=
      { hc := hc, kc := (TK.cl c hc).1, z1 := z.1, z2 := z.2.1, zf := ⟨vs0, zv⟩, hp := List.mem_singleton.mpr rfl, hot := ⟨hh, vs0, zv, z.2.2 vs0 zv⟩, nn := rfl, ve := .inl g1, l1 := g2, l2 := g3, gi := gl_of g4, mi := TK.mi, gs := gl_of g5, ms := TK.ms, mint := TK.mt, gv := gl_of g6, mv := TK.mv, ek := (TK.cl c hc).2,
        gx := fun y hy => ⟨gl_of (g7 y hy), TK.gl y hy, TK.ki c hc y hy⟩ }
    obtain ⟨t, ht, hq⟩ := termWalk M hsh
    exact ⟨t, ht, hq _ H q⟩
  exact shut I1 rc fun _ _ z => z.elim
end LP
namespace LP
open PySem PySem.Spec
open PyProof.Rows L2
theorem tell_in {c : Str} {d : D} (h : tellD c = some d) : c ∈ excs := by
  unfold tellD at h
  split at h
  · rename_i hk
    obtain ⟨k, hk1, hk2⟩ := List.any_eq_true.mp hk
    have e : Str.ofString k = c := eq_of_beq hk2
    have : ∀ k ∈ kinds, Str.ofString k ∈ excs := by decide +kernel
    rw [← e]
    exact this k hk1
  · cases h
def toldScB (sc : Scope) : Bool := decide (sc.names.lookup ("deed" : Str) = some .local) && decide (sc.names.lookup ("e" : Str) = some .local) && glB sc "PoolError" && glB sc "_law_term"
def NTo : List Str := ["deed", "e"]
theorem toldGives {X : Cx} {T : List (Addr × Str)} {q : Str} {sg : Scope} {g : Addr} {cdg : Value} {bg : List Stmt} (TA : TermAt X.K X.mg) (TK : TellK X.K X.mg) (hsc : toldScB sg = true) (hb : ToldShape bg) (hr : Room 2 X.A) :
    GivesN X NTo "_law_told" sg g cdg bg "deed" q (TTell X.K T) := by
  unfold toldScB at hsc
  simp only [Bool.and_eq_true, decide_eq_true_eq] at hsc
  obtain ⟨⟨⟨g1, g2⟩, g3⟩, g4⟩ := hsc
  obtain ⟨p0, p1, p2, p3, p4, p5, p6, p7, p8, p9, rfl⟩ := hb
  intro f c' s H Q tl act hc h
  have hgl : Gl (cxOf C8.CX0 X.prog X.w X.K X.mg X.base NTo "_law_told" sg g cdg X.A X.stack s H C8.E0).nox "PoolError" := gl_of g3
  refine ⟨_, pss_one (L2N.ps_try_as (X := (cxOf C8.CX0 X.prog X.w X.K X.mg X.base NTo "_law_told" sg g cdg X.A X.stack s H C8.E0).nox) (i := 1) (c := .ref (He.ga X.K "PoolError")) (Wout := fun _ _ _ _ => False)
      (tb := fun W D σ H => ∃ Ech : XK, (∀ cls d σ2 H2, Ech cls d H2 → W cls d σ2 H2) ∧ σ[0]? = some (some (.ref f)) ∧ H c' = some (LamX.CodeO c' q) ∧ tl Ech H D.rt)
      (ts := fun a cls d D σ H => ∃ c, c ∈ excs ∧ cls = .ref (He.ga X.K c) ∧ d = none ∧ (σ.length = 2 → σ[1]? = some (some (.ref a))) ∧ ∀ J p, Le H J → H p = none → J p = some (.tup [.str "refused", .str c]) → D.rt (.ref p) J)
      rfl rfl (show NTo.Nodup by decide +kernel) rfl g2 ⟨hgl, by decide, .inl TK.pool⟩ takesN0 (fun W pn xe tk _ => ?_) (fun a oe cls d pn z zf => ?_)), ?_⟩
  · refine ⟨fun pins s2 σ H2 D I want => ?_⟩
    obtain ⟨Ech, hW, h1, h2, h3⟩ := want
    exact (pss_one (ps_ret (pos := p2) (act W pn xe Ech p0 p1 tk hW))).run pins s2 σ H2 D I ⟨h1, h2, h3⟩
  · refine ⟨fun pins s2 σ H2 D I want => ?_⟩
    obtain ⟨c, hcx, rfl, rfl, h1, h2⟩ := want
    have hr1 : L2H.RoomH 1 (X.A.deeper (envOfC "_law_told" sg s.heap.objs.size g cdg)) := (L2H.roomH_of hr).deeper _
    have key := pe_term (Y := ((cxOf C8.CX0 X.prog X.w X.K X.mg X.base NTo "_law_told" sg g cdg X.A X.stack s H C8.E0).nox).suite a ((a, oe) :: pn)) (a := a) (oe := oe) (c := c) (i := 1) (p4 := p4) (p5 := p5) (p6 := p6) TA TK hcx z zf List.mem_cons_self rfl ⟨hr1.dp, hr1.un⟩ (gl_of g4) rfl (.inl g2)
    exact (pss_one (ps_ret (pos := p7) key)).run pins s2 σ H2 D I ⟨h1 I.len, h2⟩
  · refine ⟨fun cls dd H2 => dd = none ∧ ∃ c d, cls = .ref (He.ga X.K c) ∧ tellD c = some d ∧ ∀ J p, Le H2 J → H2 p = none → J p = some (.tup [.str "refused", .str c]) → Q (.ref p) J, ?_, rfl, hc, h⟩
    rintro cls d σ2 H2 ⟨rfl, c, d2, rfl, e2, k⟩
    have hcx := tell_in e2
    refine ⟨true, TK.ex c hcx, fun _ a na => ⟨c, hcx, rfl, rfl, fun hl => ?_, k⟩, fun z => nomatch z⟩
    rw [List.length_set] at hl
    rw [List.getElem?_set_self (by omega)]
/-- what is known of _law_told -/
structure ToldK (K : PySem.W.Frag) (mg : Str → Option Value) : Prop where
  ex : ∃ (f : Addr) (ag : Arguments) (bd : List Stmt) (sc : Scope) (dV kV doc pm cdv ct oc : Value) (an od : Option Addr) (osl : Array (Option Value)),
    K.lookup f = some ⟨oc, od, .func (PySem.W.fnOf "_law_told" "_law_told" ag bd sc dV kV doc pm an cdv ct), osl⟩ ∧ PySem.W.codeIn K cdv "_law_told" = true ∧ PySem.W.keepIn K (.ref f) = true ∧ mg "_law_told" = some (.ref f) ∧
    Binds K (PySem.W.fnOf "_law_told" "_law_told" ag bd sc dV kV doc pm an cdv ct) ["deed"] [] ∧ FnScope NTo ["deed"] sc ∧ toldScB sc = true ∧ ToldShape bd
theorem toldAt {prog : Program} {w : World} {K : PySem.W.Frag} {mg : Str → Option Value} {base : Heap} {T : List (Addr × Str)} (TA : TermAt K mg) (TK : TellK K mg) (TO : ToldK K mg) : ToldAt prog w K mg base T := by
  obtain ⟨f, ag, bd, sc, dV, kV, doc, pm, cdv, ct, oc, an, od, osl, lk, hcd, hk, hm, hb, S, hsc, hsh⟩ := TO.ex
  refine ⟨f, ag, bd, sc, dV, kV, doc, pm, cdv, ct, oc, an, od, osl, NTo, hm, hk, lk, hcd, hb, S, rfl, ?_, fun X q h1 h2 h3 h4 h5 hr => ?_⟩
  · have hsc2 := hsc
    unfold toldScB at hsc2
    simp only [Bool.and_eq_true, decide_eq_true_eq] at hsc2
    exact .inl hsc2.1.1.1
  · subst h3 h4
    exact toldGives TA TK hsc hsh hr
end LP
namespace LP
open PySem PySem.Spec
open PyProof.Rows L2
/-! ### from the head to what the rules lean on -/
def conFa : Str × D → Option He.Fa
  | (x, .int i) => some (.int x i)
  | (x, .str z) => some (.str x z)
  | _ => none
def frees : List Str := bnames ++ [("ValueError" : Str)]
def faOf (gl : List Str) (cons : List (Str × D)) : List He.Fa := gl.map .glo ++ (frees.map .free ++ (excs.map .exc ++ ((excs.map fun c => .exm c "PoolError" true) ++ cons.filterMap conFa)))
def excB (K : PySem.W.Frag) (D : Addr) : Bool := He.eqO (PySem.W.findIn K (.ref D) "__getattribute__") (some (some (.builtin "BaseException.__getattribute__"))) && (He.eqO (PySem.W.findIn K (.ref D) "__getattr__") (some none) && (decide (PySem.W.subIn K (.ref D) (.type "BaseException") = some true) &&
  (PySem.W.hasDictIn K D && (He.eqO (PySem.W.findIn K (.ref D) "__class__") (some (some (.builtin "object.__class__"))) && (He.eqO (PySem.W.specialIn K (.builtin "object.__class__") "__get__") (some (some (.builtin "getset_descriptor.__get__"))) &&
  (decide (PySem.W.takesIn K (.builtin "object.__class__") = some true) && decide (PySem.W.mroIn K D (.type "object") = some true)))))))
def exK (tf : List He.Defn) (K : PySem.W.Frag) : Bool := decide ((tf.map fun p => (He.cT K p).2).Nodup) && excs.all fun c => excB K (He.ga K c) && (decide (PySem.W.kitOne K (.ref (He.ga K c)) (.type "ValueError") = some true) && excs.all fun y => decide (PySem.W.kitOne K (.ref (He.ga K c)) (.ref (He.ga K y)) = some (c == y)))
theorem excB_ok {K : PySem.W.Frag} {D : Addr} (h : excB K D = true) : ExcC K D := by
  obtain ⟨h1, h⟩ := He.ba h
  obtain ⟨h2, h⟩ := He.ba h
  obtain ⟨h3, h⟩ := He.ba h
  obtain ⟨h4, h⟩ := He.ba h
  obtain ⟨h5, h⟩ := He.ba h
  obtain ⟨h6, h⟩ := He.ba h
  obtain ⟨h7, h8⟩ := He.ba h
  exact ⟨He.eqO_ok h1, He.eqO_ok h2, of_decide_eq_true h3, h4, He.eqO_ok h5, He.eqO_ok h6, of_decide_eq_true h7, of_decide_eq_true h8⟩
/-! ### checks of the defs -/
def argsOf : Arguments → Option (List Arg)
  | ⟨[], as, none, [], _, none, _⟩ => some as
  | _ => none
theorem argsOf_eq {a : Arguments} {as : List Arg} (h : argsOf a = some as) : ∃ kd df, a = ⟨[], as, none, [], kd, none, df⟩ := by
  unfold argsOf at h
  split at h
  · cases h
    exact ⟨_, _, rfl⟩
  · cases h
def scopeB (N ps : List Str) (sc : Scope) : Bool := decide (sc.kind = .function) && (!sc.isCoroutine && (!sc.isGenerator && (decide N.Nodup && (decide (N.take ps.length = ps) && ((ps.all fun x => decide (sc.names.lookup x = some .local) || decide (sc.names.lookup x = some .cell)) && sc.names.all fun y => !decide (y.2 = .free))))))
theorem scopeB_ok {N ps : List Str} {sc : Scope} (h : scopeB N ps sc = true) : FnScope N ps sc := by
  unfold scopeB at h
  simp only [List.all_eq_true, Bool.and_eq_true, Bool.or_eq_true, Bool.not_eq_true', decide_eq_true_eq, decide_eq_false_iff_not] at h
  obtain ⟨h1, h2, h3, h4, h5, h6, h7⟩ := h
  exact FnScope.mk h1 h2 h3 h4 h5 h6 h7
def defB (fn : List He.DefD) (tf : List He.Defn) (gl : List Str) (fns : Nat → Option Str) (d : Df) (t : Bool) : Bool := fn.any fun r =>
  decide (r.at_ = (d.name, none)) && (decide (r.name = d.name) && (decide (r.qual = d.name) && (r.dfl.isEmpty && ((match argsOf r.params with
    | some as => decide (as.length = d.npar) && (decide ((as.map (·.arg)).Nodup) && (scopeB d.nm (as.map (·.arg)) r.scope && chkSs ⟨d.nm, fns, t⟩ r.scope d.body r.body))
    | none => false) && ((!t || decide ((d.name, none) ∈ tf)) && decide (d.name ∈ gl))))))
def defsB (fn : List He.DefD) (tf : List He.Defn) (gl : List Str) (fns : Nat → Option Str) (tls : List Nat) (tab : List (Nat × Df)) : Bool := tab.all fun p => defB fn tf gl fns p.2 (tls.contains p.1)
theorem lookup_memN {j : Nat} {d : Df} : ∀ {cs : List (Nat × Df)}, cs.lookup j = some d → (j, d) ∈ cs
  | [], e => by cases e
  | (y, d') :: cs, e => by
    have e2 : (match j == y with | true => some d' | false => cs.lookup j) = some d := e
    cases q : (j == y) with
    | true =>
      rw [q] at e2
      cases e2
      rw [eq_of_beq q]
      exact List.mem_cons_self
    | false =>
      rw [q] at e2
      exact List.mem_cons_of_mem _ (lookup_memN e2)
theorem defsB_at {fn : List He.DefD} {tf : List He.Defn} {gl : List Str} {fns : Nat → Option Str} {tls : List Nat} {tab : List (Nat × Df)} (h : defsB fn tf gl fns tls tab = true) (j : Nat) (d : Df) (e : tab.lookup j = some d) : defB fn tf gl fns d (tls.contains j) = true :=
  List.all_eq_true.mp h (j, d) (lookup_memN e)
def sole (fn : List He.DefD) (x : Str) (N ps : List Str) (chk : Scope → Bool) (shape : List Stmt → Prop) : Prop := ∃ r ∈ fn, r.at_ = (x, none) ∧ r.name = x ∧ r.qual = x ∧ r.dfl = [] ∧ (∃ as, argsOf r.params = some as ∧ as.map (·.arg) = ps) ∧ scopeB N ps r.scope = true ∧ chk r.scope = true ∧ shape r.body
structure TellOk (fn : List He.DefD) (gl : List Str) : Prop where
  term : sole fn "_law_term" NT ["e"] termScB TermShape
  told : sole fn "_law_told" NTo ["deed"] toldScB ToldShape
  g : ("_law_term" : Str) ∈ gl ∧ ("_law_told" : Str) ∈ gl
def qualOf (x : Str) : Str := (envOfC x ⟨.function, [], false, false, []⟩ 0 0 .none).qual
def tabT (K : PySem.W.Frag) (tf : List He.Defn) : List (Addr × Str) := tf.map fun p => ((He.cT K p).2, qualOf p.1 ++ "<lambda>")
def conOk : List (Str × D) → Bool
  | [] => true
  | p :: ps => (conFa p).isSome && conOk ps
section
variable {prog : Program} {w : World} {h : Heap} {K : PySem.W.Frag} {mg : Str → Option Value} {base : Heap} {gl : List Str} {cons : List (Str × D)} {fn : List He.DefD} {tf : List He.Defn} {P : Prg} {tls : List Nat}
theorem faIn (c : He.SaysX (faOf gl cons) fn [] tf (exK tf) w h K) {f : He.Fa} (hf : f ∈ faOf gl cons) : f.ok K = true := c.t.d.facts hf
theorem gloIn (c : He.SaysX (faOf gl cons) fn [] tf (exK tf) w h K) (X : K.In h) (G : h.Ns mainGlobals mg) {x : Str} (hx : x ∈ gl) : mg x = some (.ref (He.ga K x)) :=
  He.glo_ok X G (faIn c (List.mem_append_left _ (List.mem_map.mpr ⟨x, hx, rfl⟩)))
theorem freeIn (c : He.SaysX (faOf gl cons) fn [] tf (exK tf) w h K) (X : K.In h) (G : h.Ns mainGlobals mg) {x : Str} (hx : x ∈ frees) : mg x = none :=
  He.free_ok X G (faIn c (List.mem_append_right _ (List.mem_append_left _ (List.mem_map.mpr ⟨x, hx, rfl⟩))))
theorem excIn' (c : He.SaysX (faOf gl cons) fn [] tf (exK tf) w h K) {x : Str} (hx : x ∈ excs) : (He.Fa.exc x).ok K = true :=
  faIn c (List.mem_append_right _ (List.mem_append_right _ (List.mem_append_left _ (List.mem_map.mpr ⟨x, hx, rfl⟩))))
theorem exmIn (c : He.SaysX (faOf gl cons) fn [] tf (exK tf) w h K) {x : Str} (hx : x ∈ excs) : (He.Fa.exm x "PoolError" true).ok K = true :=
  faIn c (List.mem_append_right _ (List.mem_append_right _ (List.mem_append_right _ (List.mem_append_left _ (List.mem_map.mpr ⟨x, hx, rfl⟩)))))
theorem conIn (c : He.SaysX (faOf gl cons) fn [] tf (exK tf) w h K) {p : Str × D} {f : He.Fa} (hp : p ∈ cons) (hf : conFa p = some f) : f.ok K = true :=
  faIn c (List.mem_append_right _ (List.mem_append_right _ (List.mem_append_right _ (List.mem_append_right _ (List.mem_filterMap.mpr ⟨p, hp, hf⟩)))))
theorem conOk_at : ∀ {cs : List (Str × D)}, conOk cs = true → ∀ p ∈ cs, ∃ f, conFa p = some f
  | [], _, p, hp => by cases hp
  | q :: cs, hc, p, hp => by
    obtain ⟨h1, h2⟩ := He.ba hc
    obtain e | e := List.mem_cons.mp hp
    · subst e
      exact Option.isSome_iff_exists.mp h1
    · exact conOk_at h2 p e
theorem soleAt {x : Str} {N ps : List Str} {chk : Scope → Bool} {shape : List Stmt → Prop} (hs : sole fn x N ps chk shape) (c : He.SaysX (faOf gl cons) fn [] tf (exK tf) w h K) (X : K.In h) (G : h.Ns mainGlobals mg) (hx : x ∈ gl) :
    ∃ (f : Addr) (ag : Arguments) (bd : List Stmt) (sc : Scope) (dV kV doc pm cdv ct oc : Value) (an od : Option Addr) (osl : Array (Option Value)),
    K.lookup f = some ⟨oc, od, .func (PySem.W.fnOf x x ag bd sc dV kV doc pm an cdv ct), osl⟩ ∧ PySem.W.codeIn K cdv x = true ∧ PySem.W.keepIn K (.ref f) = true ∧ mg x = some (.ref f) ∧
    Binds K (PySem.W.fnOf x x ag bd sc dV kV doc pm an cdv ct) ps [] ∧ FnScope N ps sc ∧ chk sc = true ∧ shape bd := by
  obtain ⟨r, hr, a1, a2, a3, a4, ⟨as, a5, a6⟩, a7, a8, a9⟩ := hs
  obtain ⟨fd, ⟨oc, od, dV, kV, doc, pm, an, cdv, ct, osl, rfl, q, k1, k2, _⟩, kp⟩ := c.t.d.defs hr
  have hd : dV = .none := by
    rcases k2 with ⟨_, e⟩ | ⟨e, _⟩
    · exact e
    · exact absurd (by unfold He.DefD.dvs; rw [a4]; rfl) e
  subst hd
  obtain ⟨kd, df, e5⟩ := argsOf_eq a5
  have S := scopeB_ok a7
  rw [a1] at q kp
  rw [a2, a3] at q
  rw [a3] at k1
  refine ⟨He.ga K x, r.params, r.body, r.scope, .none, kV, doc, pm, cdv, ct, oc, an, od, osl, q, k1, kp, gloIn c X G hx, ?_, S, a8, a9⟩
  refine Binds.all fun us hl => ?_
  have nd : (as.map (·.arg)).Nodup := by
    rw [a6, ← S.pre]
    exact List.Nodup.sublist (List.take_sublist _ _) S.nd
  have := binds_plain (fd := PySem.W.fnOf x x r.params r.body r.scope .none kV doc pm an cdv ct) (as := as) (kd := kd) (df := df) e5 rfl nd us (by rw [a6]; exact hl)
  rw [a6] at this
  exact this
end
end LP
namespace LP
open PySem PySem.Spec
open PyProof.Rows L2
section
variable {prog : Program} {w : World} {h : Heap} {K : PySem.W.Frag} {mg : Str → Option Value} {base : Heap} {gl : List Str} {cons : List (Str × D)} {fn : List He.DefD} {tf : List He.Defn} {P : Prg} {tls : List Nat}
theorem tellK_of (c : He.SaysX (faOf gl cons) fn [] tf (exK tf) w h K) (X : K.In h) (G : h.Ns mainGlobals mg) (hg : ∀ y ∈ excs, y ∈ gl) (hp : ("PoolError" : Str) ∈ gl) : TellK K mg := by
  have ex := (He.ba c.more).2
  have at_ : ∀ x ∈ excs, excB K (He.ga K x) = true ∧ PySem.W.kitOne K (.ref (He.ga K x)) (.type "ValueError") = some true ∧ ∀ y ∈ excs, PySem.W.kitOne K (.ref (He.ga K x)) (.ref (He.ga K y)) = some (x == y) := fun x hx => by
    obtain ⟨h1, h2⟩ := He.ba (List.all_eq_true.mp ex x hx)
    obtain ⟨h3, h4⟩ := He.ba h2
    exact ⟨h1, of_decide_eq_true h3, fun y hy => of_decide_eq_true (List.all_eq_true.mp h4 y hy)⟩
  exact ⟨fun x hx => ⟨excB_ok (at_ x hx).1, (at_ x hx).2.1⟩, fun x hx y hy => (at_ x hx).2.2 y hy, fun y hy => gloIn c X G (hg y hy), fun x hx => He.exm_ok (exmIn c hx), gloIn c X G hp, freeIn c X G (by decide +kernel), freeIn c X G (by decide +kernel), freeIn c X G (by decide +kernel), freeIn c X G (by decide +kernel)⟩
theorem lookup_mem' {x : Str} {d : D} : ∀ {cs : List (Str × D)}, cs.lookup x = some d → (x, d) ∈ cs
  | [], e => by cases e
  | (y, d') :: cs, e => by
    have e2 : (match x == y with | true => some d' | false => cs.lookup x) = some d := e
    cases q : (x == y) with
    | true =>
      rw [q] at e2
      cases e2
      rw [eq_of_beq q]
      exact List.mem_cons_self
    | false =>
      rw [q] at e2
      exact List.mem_cons_of_mem _ (lookup_mem' e2)
theorem defAt_of (c : He.SaysX (faOf gl cons) fn [] tf (exK tf) w h K) (X : K.In h) (G : h.Ns mainGlobals mg) (TB : ∀ p ∈ tf, LamX.TabB base mg (He.cT K p).1 (He.cT K p).2) {fns : Nat → Option Str} {d : Df} {t : Bool} (hd : defB fn tf gl fns d t = true) :
    DefAt K mg (tabT K tf) fns base d t := by
  obtain ⟨r, hr, hd⟩ := List.any_eq_true.mp hd
  obtain ⟨a1, hd⟩ := He.ba hd
  obtain ⟨a2, hd⟩ := He.ba hd
  obtain ⟨a3, hd⟩ := He.ba hd
  obtain ⟨a4, hd⟩ := He.ba hd
  obtain ⟨a5, hd⟩ := He.ba hd
  obtain ⟨a6, a7⟩ := He.ba hd
  have a1 := of_decide_eq_true a1
  have a2 := of_decide_eq_true a2
  have a3 := of_decide_eq_true a3
  have a4 : r.dfl = [] := List.isEmpty_iff.mp a4
  have a7 := of_decide_eq_true a7
  cases ha : argsOf r.params with
  | none => rw [ha] at a5; cases a5
  | some as =>
    rw [ha] at a5
    obtain ⟨b1, a5⟩ := He.ba a5
    obtain ⟨b2, a5⟩ := He.ba a5
    obtain ⟨b3, b4⟩ := He.ba a5
    obtain ⟨kd, df, e5⟩ := argsOf_eq ha
    obtain ⟨fd, ⟨oc, od, dV, kV, doc, pm, an, cdv, ct, osl, rfl, q, k1, k2, _⟩, kp⟩ := c.t.d.defs hr
    have hdV : dV = .none := by
      rcases k2 with ⟨_, e⟩ | ⟨e, _⟩
      · exact e
      · exact absurd (by unfold He.DefD.dvs; rw [a4]; rfl) e
    subst hdV
    have q2 := q
    rw [a1] at q kp q2
    rw [a2, a3, e5] at q
    rw [a3] at k1
    refine ⟨He.ga K d.name, as, kd, df, r.body, r.scope, kV, doc, pm, cdv, ct, oc, an, od, osl, q, k1, kp, gloIn c X G a7, scopeB_ok b3, of_decide_eq_true b1, of_decide_eq_true b2, b4, fun ht => ?_⟩
    have hm : (d.name, none) ∈ tf := by
      rw [ht] at a6
      exact of_decide_eq_true a6
    obtain ⟨c0, rfl⟩ := He.codeIn_ref k1
    have ec : He.codeOf K (d.name, none) = c0 := He.codeOf_eq q2 rfl
    refine ⟨c0, (He.cT K (d.name, none)).2, rfl, ?_, fun q0 hq => ?_⟩
    · have := TB _ hm
      rw [show (He.cT K (d.name, none)).1 = c0 from ec] at this
      exact this
    · have e0 : qualOf d.name = q0 := hq 0 0
      rw [← e0]
      refine ⟨List.mem_map.mpr ⟨_, hm, rfl⟩, fun p hp e => ?_⟩
      obtain ⟨p', hp', rfl⟩ := List.mem_map.mp hp
      have nd : (tf.map fun p => (He.cT K p).2).Nodup := of_decide_eq_true (He.ba c.more).1
      have : p' = (d.name, none) := by
        obtain ⟨i, hi, ei⟩ := List.mem_iff_getElem.mp hp'
        obtain ⟨j, hj, ej⟩ := List.mem_iff_getElem.mp hm
        have hij : i = j := by
          refine (List.getElem_inj (h₀ := by simpa using hi) (h₁ := by simpa using hj) nd).mp ?_
          rw [List.getElem_map, List.getElem_map, ei, ej]
          exact e
        subst hij
        rw [← ei, ← ej]
      rw [this]
theorem gm_of (c : He.SaysX (faOf gl cons) fn [] tf (exK tf) w h K) (X : K.In h) (G : h.Ns mainGlobals mg) (TB : ∀ p ∈ tf, LamX.TabB base mg (He.cT K p).1 (He.cT K p).2) (hcon : ∀ x, P.con x = cons.lookup x) (hck : conOk cons = true)
    (hg : ∀ y ∈ excs, y ∈ gl) (hp : ("PoolError" : Str) ∈ gl) (hdefs : defsB fn tf gl (fnsOf P) tls P.tab = true) (ht : (∃ j, tls.contains j = true) → TellOk fn gl) : Gm prog w K mg base (tabT K tf) P (fun j => tls.contains j) where
  con := fun x d e => by
    rw [hcon] at e
    have hm := lookup_mem' e
    obtain ⟨f, hf⟩ := conOk_at hck _ hm
    have ok := conIn c hm hf
    unfold conFa at hf
    split at hf
    · rename_i y i hy
      cases hy
      cases hf
      obtain ⟨t, et⟩ := He.int_ok X G ok
      exact ⟨.int i, .int i t, et, ⟨t, rfl⟩, fun as F => .int i⟩
    · rename_i y z hy
      cases hy
      cases hf
      obtain ⟨t, et⟩ := He.str_ok X G ok
      exact ⟨.str z, .str z t, et, ⟨t, rfl⟩, fun as F => .str z⟩
    · cases hf
  blt := fun x hx => freeIn c X G (List.mem_append_left _ hx)
  exc := fun x hx => by
    obtain ⟨c1, c2, c3, c4⟩ := He.exc_ok (excIn' c hx)
    exact ⟨"ValueError", "ValueError.__new__", "ValueError.__init__", He.veBase, PySem.F.excBase_ValueError, c1, gloIn c X G (hg x hx), c2, c3, c4⟩
  defs := fun j d hj => defAt_of c X G TB (defsB_at hdefs j d hj)
  told := fun hj => by
    have T := ht hj
    exact toldAt ⟨soleAt T.term c X G T.g.1⟩ (tellK_of c X G hg hp) ⟨soleAt T.told c X G T.g.2⟩
end
/-! ### the end -/
theorem start_ok {K : PySem.W.Frag} {T : List (Addr × Str)} {H : Hp} {a : Addr} {ns : List Int} (hT : ∀ p ∈ T, H p.1 = some (.tbl #[])) (hS : SqL K H a (ns.map V.int)) {fn : List D → Sto → Re D} {S : Sto} (e : fn [.scr ns] [] = .ok (.bl true) S) :
    spOf K T fn [.ref a] H (fun v _ => v = .bl true) fun _ _ _ => False := by
  let F : Hp := fun b => match H b with
    | some (.tbl _) => none
    | o => o
  have hF : ∀ b o, H b = some o → (∀ ps, o ≠ .tbl ps) → F b = some o := fun b o e n => by
    show (match H b with | some (.tbl _) => none | o => o) = some o
    rw [e]
    split
    · rename_i ps q
      cases q
      exact absurd rfl (n ps)
    · rfl
  have hF2 : ∀ b o, F b = some o → H b = some o ∧ ∀ ps, o ≠ .tbl ps := fun b o e => by
    have e : (match H b with | some (.tbl _) => none | o => o) = some o := e
    split at e
    · cases e
    · rename_i n
      exact ⟨e, fun ps z => n ps (by rw [e, z])⟩
  refine ⟨[.scr ns], [], [], F, ⟨fun b o e => (hF2 b o e).1, rfl, List.nodup_nil, (fun _ h => nomatch h), fun k a so e1 _ => (by simp at e1), fun p hp => LamX.TabS.nil (hT p hp), fun b ps e => (hF2 b _ e).2 ps rfl⟩, .cons (.scr ?_) .nil, ?_⟩
  · rcases hS with (q | ⟨o, q⟩) | q
    · exact .inl (.inl (hF _ _ q fun _ z => nomatch z))
    · exact .inl (.inr ⟨o, hF _ _ q fun _ z => nomatch z⟩)
    · exact .inr q
  · rw [e]
    intro bs G J st ok v hv
    cases hv
    rfl
theorem lawAt {l : PySem.W.OpenLaw} {w : World} {h : Heap} {K : PySem.W.Frag} {mg : Str → Option Value} {gl : List Str} {cons : List (Str × D)} {fn : List He.DefD} {tf : List He.Defn} {P : Prg} {tls : List Nat} {n j m : Nat} {d : Df} {fa : Addr}
    (c : He.SaysX (faOf gl cons) fn [] tf (exK tf) w h K) (X : K.In h) (G : h.Ns mainGlobals mg) (hcon : ∀ x, P.con x = cons.lookup x) (hck : conOk cons = true) (hg : ∀ y ∈ excs, y ∈ gl) (hp : ("PoolError" : Str) ∈ gl)
    (hdefs : defsB fn tf gl (fnsOf P) tls P.tab = true) (ht : (∃ j, tls.contains j = true) → TellOk fn gl) (hj : P.tab.lookup j = some d) (hdn : d.name = "law") (hnp : d.npar = 1) (hnm : d.nm.take 1 = [("script" : Str)]) (hfa : mg "law" = some (.ref fa))
    (main : ∀ ns : List Int, ns.length ≤ m → (∀ z ∈ ns, Builtin.Int.intBits z ≤ 1048576) → ∃ S, call P n j [.scr ns] [] = .ok (.bl true) S) :
    LamX.LawAtS l w K (L2N.CX l.prog w) (3 * n) m "script" mg fa h := by
  have hp' : ∀ p ∈ tf, PySem.W.CodeHd h (He.cT K p).1 (He.cT K p).2 := fun p hp => PySem.W.codeHd_of_K X (c.hd p hp)
  obtain ⟨r, hr, hd⟩ := List.any_eq_true.mp (defsB_at hdefs j d hj)
  have hgl : d.name ∈ gl := by
    obtain ⟨_, hd⟩ := He.ba hd
    obtain ⟨_, hd⟩ := He.ba hd
    obtain ⟨_, hd⟩ := He.ba hd
    obtain ⟨_, hd⟩ := He.ba hd
    obtain ⟨_, hd⟩ := He.ba hd
    exact of_decide_eq_true (He.ba hd).2
  have ra : r.at_ = (d.name, none) := of_decide_eq_true (He.ba hd).1
  obtain ⟨fd, ⟨oc, od, dV, kV, doc, pm, an, cdv, ct, osl, efd, q, _, hdv, _⟩, _⟩ := c.t.d.defs hr
  have hga : He.fAd K r.at_ = fa := by
    rw [ra]
    have e := gloIn c X G hgl
    rw [hdn, hfa] at e
    show He.ga K d.name = fa
    rw [hdn]
    exact (Value.ref.inj (Option.some.inj e)).symm
  rw [hga] at q
  have key : ∀ base : Heap, (∀ p ∈ tf, LamX.TabB base mg (He.cT K p).1 (He.cT K p).2) → FnOk l.prog w K mg base (L2N.CX l.prog w) (3 * n) fa fd ["script"] (spOf K (tabT K tf) (call P n j)) := fun base TB => by
    obtain ⟨f, fd2, ps, e1, e2, e3, e4, ⟨oc2, od2, osl2, e5⟩, e6, e7⟩ := fnOk (prog := l.prog) (w := w) (gm_of (base := base) c X G TB hcon hck hg hp hdefs ht) n j d hj
    rw [hdn, hfa] at e1
    cases e1
    rw [q] at e5
    cases e5
    rw [hnp, hnm] at e6
    subst e6
    exact e4
  refine ⟨fd, tf.map (He.cT K), spOf K (tabT K tf) (call P n j), fun p hp => ?_, fun p hp => ?_, fun p hp => ?_, fun s u => ?_, fun H a ns h1 h2 hT hS => ?_, fun base KB GB TB => ?_⟩
  · obtain ⟨p', hp', rfl⟩ := List.mem_map.mp hp
    exact c.empty p' hp'
  · obtain ⟨p', hp', rfl⟩ := List.mem_map.mp hp
    exact c.out p' hp'
  · obtain ⟨p', hp2, rfl⟩ := List.mem_map.mp hp
    exact hp' p' hp2
  · refine BindsTo.of_eq ?_
    obtain ⟨_, hd⟩ := He.ba hd
    obtain ⟨_, hd⟩ := He.ba hd
    obtain ⟨_, hd⟩ := He.ba hd
    obtain ⟨a4, hd⟩ := He.ba hd
    obtain ⟨a5, _⟩ := He.ba hd
    cases ha : argsOf r.params with
    | none => rw [ha] at a5; cases a5
    | some as =>
      rw [ha] at a5
      obtain ⟨b1, a5⟩ := He.ba a5
      obtain ⟨b2, a5⟩ := He.ba a5
      obtain ⟨b3, _⟩ := He.ba a5
      obtain ⟨kd, df, e5⟩ := argsOf_eq ha
      have hdV : dV = .none := by
        rcases hdv with ⟨_, e⟩ | ⟨e, _⟩
        · exact e
        · exact absurd (by unfold He.DefD.dvs; rw [List.isEmpty_iff.mp a4]; rfl) e
      have S := scopeB_ok b3
      have hps : as.map (·.arg) = [("script" : Str)] := by
        have e := S.pre
        rw [List.length_map, of_decide_eq_true b1, hnp, hnm] at e
        exact e.symm
      have := binds_plain (fd := fd) (as := as) (kd := kd) (df := df) (by rw [efd]; exact e5) (by rw [efd, hdV] <;> rfl) (of_decide_eq_true b2) [u] (by rw [hps] <;> rfl)
      rw [hps] at this
      exact this
  · obtain ⟨S, e⟩ := main ns h1 h2
    refine start_ok (fun p hp => ?_) hS e
    obtain ⟨p', hp', rfl⟩ := List.mem_map.mp hp
    exact hT _ (List.mem_map.mpr ⟨p', hp', rfl⟩)
  · exact key base fun p hp => TB _ (List.mem_map.mpr ⟨p, hp, rfl⟩)
end LP
namespace LP
open PySem
abbrev i_is_whole : Nat := 0
def d_is_whole : Df := ⟨"is_whole", 3, ["thing", "low", "high"],
 (.seq (.ret (.andE (.isi (.var 0) .int) (.andE (.notE (.isi (.var 0) .bool)) (.chain .le .le (.var 1) (.var 0) (.var 2)))))
 .skip)⟩
abbrev c_is_whole : List Nat := [0]
abbrev k_is_whole : List Str := []
abbrev i_is_word : Nat := 1
def d_is_word : Df := ⟨"is_word", 1, ["thing", "sign"],
 (.seq (.ret (.andE (.isi (.var 0) .str) (.andE (.chain .le .le (.int 1) (.blt .len (.cons (.var 0) .nil)) (.int 8)) (.blt .all (.cons (.comp [("sign", 1)] (.cmp .inn (.var 1) (.glob "SMALL")) (.name 1) (.walk (.var 0)) .nop) .nil)))))
 .skip)⟩
abbrev c_is_word : List Nat := [1]
abbrev k_is_word : List Str := ["SMALL"]
abbrev i_rise : Nat := 2
def d_rise : Df := ⟨"rise", 1, ["rows", "one", "other"],
 (.seq (.ret (.blt .all (.cons (.comp [("one", 1), ("other", 2)] (.cmp .lt (.var 1) (.var 2)) (.tcons (.name 1) (.tcons (.name 2) .tnil)) (.zip (.var 0) (.sl (.var 0) (.part (.int 1)) .nop)) .nop) .nil)))
 .skip)⟩
abbrev c_rise : List Nat := [2]
abbrev k_rise : List Str := []
abbrev i_is_pool : Nat := 3
def d_is_pool : Df := ⟨"is_pool", 2, ["pools", "thing"],
 (.seq (.ret (.andE (.isi (.var 1) .str) (.cmp .inn (.var 1) (.var 0))))
 .skip)⟩
abbrev c_is_pool : List Nat := [3]
abbrev k_is_pool : List Str := []
abbrev i_is_ridge : Nat := 4
def d_is_ridge : Df := ⟨"is_ridge", 2, ["pools", "thing"],
 (.seq (.ite (.orE (.notE (.isi (.var 1) .tuple)) (.orE (.cmp .ne (.blt .len (.cons (.var 1) .nil)) (.int 3)) (.notE (.dcall 0 (.cons (.ix (.var 1) (.int 2)) (.cons (.int 1) (.cons (.glob "HIGHEST") .nil))))))) (.seq (.ret (.bl false))
 .skip) .skip)
 (.seq (.ret (.andE (.dcall 3 (.cons (.var 0) (.cons (.ix (.var 1) (.int 0)) .nil))) (.andE (.dcall 3 (.cons (.var 0) (.cons (.ix (.var 1) (.int 1)) .nil))) (.cmp .lt (.ix (.var 1) (.int 0)) (.ix (.var 1) (.int 1))))))
 .skip))⟩
abbrev c_is_ridge : List Nat := [0, 3, 4]
abbrev k_is_ridge : List Str := ["HIGHEST"]
abbrev i_is_shore : Nat := 5
def d_is_shore : Df := ⟨"is_shore", 1, ["thing", "pools", "ridges", "one"],
 (.seq (.ite (.orE (.notE (.isi (.var 0) .tuple)) (.cmp .ne (.blt .len (.cons (.var 0) .nil)) (.int 2))) (.seq (.ret (.bl false))
 .skip) .skip)
 (.seq (.unp (.tcons (.name 1) (.tcons (.name 2) .tnil)) (.var 0))
 (.seq (.ite (.orE (.notE (.isi (.var 1) .tuple)) (.orE (.notE (.chain .le .le (.int 2) (.blt .len (.cons (.var 1) .nil)) (.int 6))) (.notE (.blt .all (.cons (.comp [("one", 3)] (.dcall 1 (.cons (.var 3) .nil)) (.name 3) (.walk (.var 1)) .nop) .nil))))) (.seq (.ret (.bl false))
 .skip) .skip)
 (.seq (.ite (.orE (.notE (.dcall 2 (.cons (.var 1) .nil))) (.orE (.notE (.isi (.var 2) .tuple)) (.cmp .gt (.blt .len (.cons (.var 2) .nil)) (.int 10)))) (.seq (.ret (.bl false))
 .skip) .skip)
 (.seq (.ret (.andE (.blt .all (.cons (.comp [("one", 3)] (.dcall 4 (.cons (.var 1) (.cons (.var 3) .nil))) (.name 3) (.walk (.var 2)) .nop) .nil)) (.dcall 2 (.cons (.comp [("one", 3)] (.sl (.var 3) .nop (.part (.int 2))) (.name 3) (.walk (.var 2)) .nop) .nil))))
 .skip)))))⟩
abbrev c_is_shore : List Nat := [0, 1, 2, 3, 4, 5]
abbrev k_is_shore : List Str := ["HIGHEST", "SMALL"]
abbrev i_need_shore : Nat := 6
def d_need_shore : Df := ⟨"need_shore", 1, ["thing"],
 (.seq (.ite (.notE (.dcall 5 (.cons (.var 0) .nil))) (.seq (.rais "BadShore")
 .skip) .skip)
 .skip)⟩
abbrev c_need_shore : List Nat := [0, 1, 2, 3, 4, 5, 6]
abbrev k_need_shore : List Str := ["HIGHEST", "SMALL"]
abbrev i_need_height : Nat := 7
def d_need_height : Df := ⟨"need_height", 1, ["height"],
 (.seq (.ite (.notE (.dcall 0 (.cons (.var 0) (.cons (.int 0) (.cons (.glob "HIGHEST") .nil))))) (.seq (.rais "BadHeight")
 .skip) .skip)
 .skip)⟩
abbrev c_need_height : List Nat := [0, 7]
abbrev k_need_height : List Str := ["HIGHEST"]
abbrev i_all_lots : Nat := 8
def d_all_lots : Df := ⟨"all_lots", 2, ["shore", "height", "found", "left", "lot", "work", "here", "one", "other", "high", "next_one", "pool"],
 (.seq (.par [(2, true), (3, false)] (.cons (.lst .nil) (.cons (.blt .list (.cons (.ix (.var 0) (.int 0)) .nil)) .nil)))
 (.seq (.whil (.cmp .ne (.var 3) (.lst .nil)) (.seq (.par [(4, true), (5, true)] (.cons (.lst (.cons (.ix (.var 3) (.int 0)) .nil)) (.cons (.lst (.cons (.ix (.var 3) (.int 0)) .nil)) .nil)))
 (.seq (.whil (.cmp .ne (.pk 5) (.lst .nil)) (.seq (.pop 6 5)
 (.seq (.forr (.tcons (.name 7) (.tcons (.name 8) (.tcons (.name 9) .tnil))) (.walk (.ix (.var 0) (.int 1))) (.seq (.forr (.name 10) (.walk (.ife (.cmp .eq (.var 7) (.var 6)) (.lst (.cons (.var 8) .nil)) (.ife (.cmp .eq (.var 8) (.var 6)) (.lst (.cons (.var 7) .nil)) (.lst .nil)))) (.seq (.ite (.andE (.cmp .le (.var 9) (.var 1)) (.cmp .nin (.var 10) (.pk 4))) (.seq (.app 4 (.var 10))
 (.seq (.app 5 (.var 10))
 .skip)) .skip)
 .skip))
 .skip))
 .skip)))
 (.seq (.app 2 (.blt .tuple (.cons (.blt .sorted (.cons (.pk 4) .nil)) .nil)))
 (.seq (.set 3 (.comp [("pool", 11)] (.var 11) (.name 11) (.walk (.var 3)) (.part (.cmp .nin (.var 11) (.pk 4)))))
 .skip)))))
 (.seq (.ret (.blt .sorted (.cons (.pk 2) .nil)))
 .skip)))⟩
abbrev c_all_lots : List Nat := [8]
abbrev k_all_lots : List Str := []
abbrev i_lots : Nat := 9
def d_lots : Df := ⟨"lots", 2, ["shore", "height"],
 (.seq (.expr (.dcall 6 (.cons (.var 0) .nil)))
 (.seq (.expr (.dcall 7 (.cons (.var 1) .nil)))
 (.seq (.ret (.dcall 8 (.cons (.var 0) (.cons (.var 1) .nil))))
 .skip)))⟩
abbrev c_lots : List Nat := [0, 1, 2, 3, 4, 5, 6, 7, 8, 9]
abbrev k_lots : List Str := ["HIGHEST", "SMALL"]
abbrev i_are_one : Nat := 10
def d_are_one : Df := ⟨"are_one", 4, ["shore", "height", "one", "other", "lot"],
 (.seq (.ret (.blt .any (.cons (.comp [("lot", 4)] (.andE (.cmp .inn (.var 2) (.var 4)) (.cmp .inn (.var 3) (.var 4))) (.name 4) (.walk (.dcall 8 (.cons (.var 0) (.cons (.var 1) .nil)))) .nop) .nil)))
 .skip)⟩
abbrev c_are_one : List Nat := [8, 10]
abbrev k_are_one : List Str := []
abbrev i_least_from : Nat := 11
def d_least_from : Df := ⟨"least_from", 3, ["shore", "one", "other", "some", "height"],
 (.seq (.set 3 (.comp [("height", 4)] (.var 4) (.name 4) (.rng (.cons (.bin .add (.glob "HIGHEST") (.int 1)) .nil)) (.part (.dcall 10 (.cons (.var 0) (.cons (.var 4) (.cons (.var 1) (.cons (.var 2) .nil))))))))
 (.seq (.ret (.ife (.cmp .ne (.var 3) (.lst .nil)) (.ix (.var 3) (.int 0)) .non))
 .skip))⟩
abbrev c_least_from : List Nat := [8, 10, 11]
abbrev k_least_from : List Str := ["HIGHEST"]
abbrev i_need_pool : Nat := 12
def d_need_pool : Df := ⟨"need_pool", 2, ["shore", "pool"],
 (.seq (.ite (.notE (.dcall 3 (.cons (.ix (.var 0) (.int 0)) (.cons (.var 1) .nil)))) (.seq (.rais "BadPool")
 .skip) .skip)
 .skip)⟩
abbrev c_need_pool : List Nat := [3, 12]
abbrev k_need_pool : List Str := []
abbrev i_one_from : Nat := 13
def d_one_from : Df := ⟨"one_from", 3, ["shore", "one", "other"],
 (.seq (.expr (.dcall 6 (.cons (.var 0) .nil)))
 (.seq (.expr (.dcall 12 (.cons (.var 0) (.cons (.var 1) .nil))))
 (.seq (.expr (.dcall 12 (.cons (.var 0) (.cons (.var 2) .nil))))
 (.seq (.ret (.dcall 11 (.cons (.var 0) (.cons (.var 1) (.cons (.var 2) .nil)))))
 .skip))))⟩
abbrev c_one_from : List Nat := [0, 1, 2, 3, 4, 5, 6, 8, 10, 11, 12, 13]
abbrev k_one_from : List Str := ["HIGHEST", "SMALL"]
abbrev i_are_good_counts : Nat := 14
def d_are_good_counts : Df := ⟨"are_good_counts", 2, ["shore", "thing", "one"],
 (.seq (.ret (.andE (.isi (.var 1) .tuple) (.andE (.cmp .eq (.blt .len (.cons (.var 1) .nil)) (.blt .len (.cons (.ix (.var 0) (.int 0)) .nil))) (.blt .all (.cons (.comp [("one", 2)] (.dcall 0 (.cons (.var 2) (.cons (.int 0) (.cons (.glob "MOST") .nil)))) (.name 2) (.walk (.var 1)) .nop) .nil)))))
 .skip)⟩
abbrev c_are_good_counts : List Nat := [0, 14]
abbrev k_are_good_counts : List Str := ["MOST"]
abbrev i_are_counts : Nat := 15
def d_are_counts : Df := ⟨"are_counts", 2, ["shore", "thing"],
 (.seq (.expr (.dcall 6 (.cons (.var 0) .nil)))
 (.seq (.ret (.dcall 14 (.cons (.var 0) (.cons (.var 1) .nil))))
 .skip))⟩
abbrev c_are_counts : List Nat := [0, 1, 2, 3, 4, 5, 6, 14, 15]
abbrev k_are_counts : List Str := ["HIGHEST", "MOST", "SMALL"]
abbrev i_need_counts : Nat := 16
def d_need_counts : Df := ⟨"need_counts", 2, ["shore", "counts"],
 (.seq (.ite (.notE (.dcall 14 (.cons (.var 0) (.cons (.var 1) .nil)))) (.seq (.rais "BadCounts")
 .skip) .skip)
 .skip)⟩
abbrev c_need_counts : List Nat := [0, 14, 16]
abbrev k_need_counts : List Str := ["MOST"]
abbrev i_in_lot : Nat := 17
def d_in_lot : Df := ⟨"in_lot", 3, ["shore", "counts", "lot", "pool", "many"],
 (.seq (.ret (.blt .sum (.cons (.comp [("pool", 3), ("many", 4)] (.var 4) (.tcons (.name 3) (.tcons (.name 4) .tnil)) (.zip (.ix (.var 0) (.int 0)) (.var 1)) (.part (.cmp .inn (.var 3) (.var 2)))) .nil)))
 .skip)⟩
abbrev c_in_lot : List Nat := [17]
abbrev k_in_lot : List Str := []
abbrev i_need_both : Nat := 18
def d_need_both : Df := ⟨"need_both", 3, ["shore", "before", "after"],
 (.seq (.expr (.dcall 6 (.cons (.var 0) .nil)))
 (.seq (.expr (.dcall 16 (.cons (.var 0) (.cons (.var 1) .nil))))
 (.seq (.expr (.dcall 16 (.cons (.var 0) (.cons (.var 2) .nil))))
 .skip)))⟩
abbrev c_need_both : List Nat := [0, 1, 2, 3, 4, 5, 6, 14, 16, 18]
abbrev k_need_both : List Str := ["HIGHEST", "MOST", "SMALL"]
abbrev i_is_changed : Nat := 19
def d_is_changed : Df := ⟨"is_changed", 4, ["shore", "before", "after", "lot"],
 (.seq (.ret (.cmp .ne (.dcall 17 (.cons (.var 0) (.cons (.var 1) (.cons (.var 3) .nil)))) (.dcall 17 (.cons (.var 0) (.cons (.var 2) (.cons (.var 3) .nil))))))
 .skip)⟩
abbrev c_is_changed : List Nat := [17, 19]
abbrev k_is_changed : List Str := []
abbrev i_all_changed : Nat := 20
def d_all_changed : Df := ⟨"all_changed", 4, ["shore", "before", "after", "height", "lot"],
 (.seq (.ret (.comp [("lot", 4)] (.var 4) (.name 4) (.walk (.dcall 8 (.cons (.var 0) (.cons (.var 3) .nil)))) (.part (.dcall 19 (.cons (.var 0) (.cons (.var 1) (.cons (.var 2) (.cons (.var 4) .nil))))))))
 .skip)⟩
abbrev c_all_changed : List Nat := [8, 17, 19, 20]
abbrev k_all_changed : List Str := []
abbrev i_does_follow : Nat := 21
def d_does_follow : Df := ⟨"does_follow", 4, ["shore", "before", "after", "height"],
 (.seq (.ret (.cmp .eq (.dcall 20 (.cons (.var 0) (.cons (.var 1) (.cons (.var 2) (.cons (.var 3) .nil))))) (.lst .nil)))
 .skip)⟩
abbrev c_does_follow : List Nat := [8, 17, 19, 20, 21]
abbrev k_does_follow : List Str := []
abbrev i_follow : Nat := 22
def d_follow : Df := ⟨"follow", 4, ["shore", "before", "after", "height"],
 (.seq (.expr (.dcall 18 (.cons (.var 0) (.cons (.var 1) (.cons (.var 2) .nil)))))
 (.seq (.expr (.dcall 7 (.cons (.var 3) .nil)))
 (.seq (.ret (.dcall 21 (.cons (.var 0) (.cons (.var 1) (.cons (.var 2) (.cons (.var 3) .nil))))))
 .skip)))⟩
abbrev c_follow : List Nat := [0, 1, 2, 3, 4, 5, 6, 7, 8, 14, 16, 17, 18, 19, 20, 21, 22]
abbrev k_follow : List Str := ["HIGHEST", "MOST", "SMALL"]
abbrev i_least_of_night : Nat := 23
def d_least_of_night : Df := ⟨"least_of_night", 3, ["shore", "before", "after", "some", "height"],
 (.seq (.set 3 (.comp [("height", 4)] (.var 4) (.name 4) (.rng (.cons (.bin .add (.glob "HIGHEST") (.int 1)) .nil)) (.part (.dcall 21 (.cons (.var 0) (.cons (.var 1) (.cons (.var 2) (.cons (.var 4) .nil))))))))
 (.seq (.ret (.ife (.cmp .ne (.var 3) (.lst .nil)) (.ix (.var 3) (.int 0)) .non))
 .skip))⟩
abbrev c_least_of_night : List Nat := [8, 17, 19, 20, 21, 23]
abbrev k_least_of_night : List Str := ["HIGHEST"]
abbrev i_least_height : Nat := 24
def d_least_height : Df := ⟨"least_height", 3, ["shore", "before", "after"],
 (.seq (.expr (.dcall 18 (.cons (.var 0) (.cons (.var 1) (.cons (.var 2) .nil)))))
 (.seq (.ret (.dcall 23 (.cons (.var 0) (.cons (.var 1) (.cons (.var 2) .nil)))))
 .skip))⟩
abbrev c_least_height : List Nat := [0, 1, 2, 3, 4, 5, 6, 8, 14, 16, 17, 18, 19, 20, 21, 23, 24]
abbrev k_least_height : List Str := ["HIGHEST", "MOST", "SMALL"]
abbrev i_need_all : Nat := 25
def d_need_all : Df := ⟨"need_all", 4, ["shore", "before", "after", "height"],
 (.seq (.expr (.dcall 18 (.cons (.var 0) (.cons (.var 1) (.cons (.var 2) .nil)))))
 (.seq (.expr (.dcall 7 (.cons (.var 3) .nil)))
 .skip))⟩
abbrev c_need_all : List Nat := [0, 1, 2, 3, 4, 5, 6, 7, 14, 16, 18, 25]
abbrev k_need_all : List Str := ["HIGHEST", "MOST", "SMALL"]
abbrev i_with_low : Nat := 26
def d_with_low : Df := ⟨"with_low", 2, ["shore", "numbers", "rows", "at", "ridge"],
 (.seq (.set 2 (.comp [("at", 3), ("ridge", 4)] (.bin .add (.sl (.var 4) .nop (.part (.int 2))) (.tup (.cons (.ife (.cmp .inn (.var 3) (.var 1)) (.int 0) (.ix (.var 4) (.int 2))) .nil))) (.tcons (.name 3) (.tcons (.name 4) .tnil)) (.enum (.ix (.var 0) (.int 1))) .nop))
 (.seq (.ret (.tup (.cons (.ix (.var 0) (.int 0)) (.cons (.blt .tuple (.cons (.var 2) .nil)) .nil))))
 .skip))⟩
abbrev c_with_low : List Nat := [26]
abbrev k_with_low : List Str := []
abbrev i_chosen : Nat := 27
def d_chosen : Df := ⟨"chosen", 2, ["some", "size", "found", "at", "one", "rest"],
 (.seq (.ite (.cmp .eq (.var 1) (.int 0)) (.seq (.ret (.lst (.cons (.lst .nil) .nil)))
 .skip) .skip)
 (.seq (.set 2 (.lst .nil))
 (.seq (.forr (.tcons (.name 3) (.tcons (.name 4) .tnil)) (.enum (.var 0)) (.seq (.set 2 (.bin .add (.var 2) (.comp [("rest", 5)] (.bin .add (.lst (.cons (.var 4) .nil)) (.var 5)) (.name 5) (.walk (.dcall 27 (.cons (.sl (.var 0) (.part (.bin .add (.var 3) (.int 1))) .nop) (.cons (.bin .sub (.var 1) (.int 1)) .nil)))) .nop)))
 .skip))
 (.seq (.ret (.var 2))
 .skip))))⟩
abbrev c_chosen : List Nat := [27]
abbrev k_chosen : List Str := []
abbrev i_need_two : Nat := 29
def d_need_two : Df := ⟨"need_two", 2, ["one", "other"],
 (.seq (.ite (.orE (.notE (.dcall 5 (.cons (.var 0) .nil))) (.orE (.notE (.dcall 5 (.cons (.var 1) .nil))) (.cmp .ne (.ix (.var 0) (.int 0)) (.ix (.var 1) (.int 0))))) (.seq (.rais "BadShore")
 .skip) .skip)
 .skip)⟩
abbrev c_need_two : List Nat := [0, 1, 2, 3, 4, 5, 29]
abbrev k_need_two : List Str := ["HIGHEST", "SMALL"]
abbrev i_first_parting : Nat := 30
def d_first_parting : Df := ⟨"first_parting", 2, ["one", "other", "pools", "at", "first", "second"],
 (.seq (.set 2 (.ix (.var 0) (.int 0)))
 (.seq (.forr (.tcons (.name 3) (.tcons (.name 4) .tnil)) (.enum (.var 2)) (.seq (.forr (.name 5) (.walk (.sl (.var 2) (.part (.bin .add (.var 3) (.int 1))) .nop)) (.seq (.ite (.cmp .ne (.dcall 11 (.cons (.var 0) (.cons (.var 4) (.cons (.var 5) .nil)))) (.dcall 11 (.cons (.var 1) (.cons (.var 4) (.cons (.var 5) .nil))))) (.seq (.ret (.tup (.cons (.var 4) (.cons (.var 5) .nil))))
 .skip) .skip)
 .skip))
 .skip))
 (.seq (.ret .non)
 .skip)))⟩
abbrev c_first_parting : List Nat := [8, 10, 11, 30]
abbrev k_first_parting : List Str := ["HIGHEST"]
abbrev i_parting : Nat := 31
def d_parting : Df := ⟨"parting", 2, ["one", "other"],
 (.seq (.expr (.dcall 29 (.cons (.var 0) (.cons (.var 1) .nil))))
 (.seq (.ret (.dcall 30 (.cons (.var 0) (.cons (.var 1) .nil))))
 .skip))⟩
abbrev c_parting : List Nat := [0, 1, 2, 3, 4, 5, 8, 10, 11, 29, 30, 31]
abbrev k_parting : List Str := ["HIGHEST", "SMALL"]
abbrev i_counts_text : Nat := 34
def d_counts_text : Df := ⟨"counts_text", 2, ["shore", "counts"],
 (.seq (.expr (.dcall 6 (.cons (.var 0) .nil)))
 (.seq (.expr (.dcall 16 (.cons (.var 0) (.cons (.var 1) .nil))))
 (.seq (.ret (.dcall 33 (.cons (.var 0) (.cons (.var 1) .nil))))
 .skip)))⟩
abbrev c_counts_text : List Nat := [0, 1, 2, 3, 4, 5, 6, 14, 16, 33, 34]
abbrev k_counts_text : List Str := ["HIGHEST", "MOST", "SMALL"]
abbrev i_choices : Nat := 35
def d_choices : Df := ⟨"choices", 2, ["many", "some", "found", "one"],
 (.seq (.set 2 (.int 1))
 (.seq (.forr (.name 3) (.rng (.cons (.var 1) .nil)) (.seq (.set 2 (.bin .fdiv (.bin .mul (.var 2) (.bin .sub (.var 0) (.var 3))) (.bin .add (.var 3) (.int 1))))
 .skip))
 (.seq (.ret (.var 2))
 .skip)))⟩
abbrev c_choices : List Nat := [35]
abbrev k_choices : List Str := []
abbrev i_shared_out : Nat := 37
def d_shared_out : Df := ⟨"shared_out", 2, ["many", "places", "found", "first", "rest"],
 (.seq (.ite (.cmp .eq (.var 1) (.int 1)) (.seq (.ret (.lst (.cons (.tup (.cons (.var 0) .nil)) .nil)))
 .skip) .skip)
 (.seq (.set 2 (.lst .nil))
 (.seq (.forr (.name 3) (.rng (.cons (.bin .add (.var 0) (.int 1)) .nil)) (.seq (.set 2 (.bin .add (.var 2) (.comp [("rest", 4)] (.bin .add (.tup (.cons (.var 3) .nil)) (.var 4)) (.name 4) (.walk (.dcall 37 (.cons (.bin .sub (.var 0) (.var 3)) (.cons (.bin .sub (.var 1) (.int 1)) .nil)))) .nop)))
 .skip))
 (.seq (.ret (.var 2))
 .skip))))⟩
abbrev c_shared_out : List Nat := [37]
abbrev k_shared_out : List Str := []
abbrev i__law_cell : Nat := 40
def d__law_cell : Df := ⟨"_law_cell", 2, ["script", "k"],
 (.seq (.ite (.cmp .eq (.var 0) (.lst .nil)) (.seq (.ret (.bin .mul (.var 1) (.int 7919)))
 .skip) .skip)
 (.seq (.ret (.bin .add (.ix (.var 0) (.bin .mod (.var 1) (.blt .len (.cons (.var 0) .nil)))) (.bin .mul (.bin .fdiv (.var 1) (.blt .len (.cons (.var 0) .nil))) (.int 104729))))
 .skip))⟩
abbrev c__law_cell : List Nat := [40]
abbrev k__law_cell : List Str := []
abbrev i__law_drawn : Nat := 41
def d__law_drawn : Df := ⟨"_law_drawn", 2, ["cell", "k", "more"],
 (.seq (.set 2 (.bin .mod (.bin .add (.bin .mul (.var 0) (.int 6364136223846793005)) (.bin .mul (.bin .add (.var 1) (.int 1)) (.int 1442695040888963407))) (.int 340282366920938463463374607431768211507)))
 (.seq (.set 2 (.bin .mod (.bin .mul (.var 2) (.var 2)) (.int 340282366920938463463374607431768211297)))
 (.seq (.set 2 (.bin .mul (.bin .mul (.bin .add (.bin .mod (.var 2) (.int 18446744073709551557)) (.int 1)) (.bin .add (.bin .fdiv (.var 2) (.int 18446744073709551557)) (.int 1))) (.var 2)))
 (.seq (.ret (.bin .mod (.var 2) (.int 340282366920938463463374607431768211507)))
 .skip))))⟩
abbrev c__law_drawn : List Nat := [41]
abbrev k__law_drawn : List Str := []
abbrev i__law_roll : Nat := 42
def d__law_roll : Df := ⟨"_law_roll", 2, ["dice", "many", "told"],
 (.seq (.ite (.cmp .ge (.ix (.var 0) (.int 0)) (.bin .pow (.int 10) (.int 18))) (.seq (.set 2 (.bin .mod (.ix (.var 0) (.int 0)) (.var 1)))
 (.seq (.put (.var 0) (.int 0) (.bin .fdiv (.ix (.var 0) (.int 0)) (.var 1)))
 (.seq (.ret (.var 2))
 .skip))) .skip)
 (.seq (.put (.var 0) (.int 1) (.bin .add (.ix (.var 0) (.int 1)) (.int 1)))
 (.seq (.ret (.bin .mod (.bin .fdiv (.dcall 41 (.cons (.ix (.var 0) (.int 0)) (.cons (.ix (.var 0) (.int 1)) .nil))) (.int 8)) (.var 1)))
 .skip)))⟩
abbrev c__law_roll : List Nat := [41, 42]
abbrev k__law_roll : List Str := []
abbrev i__law_rounds : Nat := 43
def d__law_rounds : Df := ⟨"_law_rounds", 2, ["script", "high", "k"],
 (.seq (.ret (.comp [("k", 2)] (.cell (.cons (.dcall 40 (.cons (.var 0) (.cons (.var 2) .nil))) (.cons (.int 0) .nil))) (.name 2) (.rng (.cons (.blt .max (.cons (.int 1) (.cons (.blt .min (.cons (.var 1) (.cons (.blt .len (.cons (.var 0) .nil)) .nil))) .nil))) .nil)) .nop))
 .skip)⟩
abbrev c__law_rounds : List Nat := [40, 43]
abbrev k__law_rounds : List Str := []
abbrev i__law_any_ridges : Nat := 44
def d__law_any_ridges : Df := ⟨"_law_any_ridges", 3, ["dice", "pools", "high", "some", "found", "at", "one", "other", "turn", "pair"],
 (.seq (.par [(3, true), (4, true)] (.cons (.lst .nil) (.cons (.lst .nil) .nil)))
 (.seq (.forr (.tcons (.name 5) (.tcons (.name 6) .tnil)) (.enum (.var 1)) (.seq (.own 3 (.bin .add (.pk 3) (.comp [("other", 7)] (.tup (.cons (.var 6) (.cons (.var 7) .nil))) (.name 7) (.walk (.sl (.var 1) (.part (.bin .add (.var 5) (.int 1))) .nop)) .nop)))
 .skip))
 (.seq (.forr (.name 8) (.rng (.cons (.dcall 42 (.cons (.var 0) (.cons (.bin .add (.var 2) (.int 1)) .nil))) .nil)) (.seq (.ite (.cmp .ne (.pk 3) (.lst .nil)) (.seq (.popAt 9 3 (.dcall 42 (.cons (.var 0) (.cons (.blt .len (.cons (.pk 3) .nil)) .nil))))
 (.seq (.app 4 (.bin .add (.var 9) (.tup (.cons (.bin .add (.int 1) (.dcall 42 (.cons (.var 0) (.cons (.int 9) .nil)))) .nil))))
 .skip)) .skip)
 .skip))
 (.seq (.ret (.blt .tuple (.cons (.blt .sorted (.cons (.pk 4) .nil)) .nil)))
 .skip))))⟩
abbrev c__law_any_ridges : List Nat := [41, 42, 44]
abbrev k__law_any_ridges : List Str := []
abbrev i__law_any_shore : Nat := 45
def d__law_any_shore : Df := ⟨"_law_any_shore", 3, ["dice", "size", "high", "pools"],
 (.seq (.set 3 (.sl (.tup (.cons (.str "bay") (.cons (.str "cove") (.cons (.str "deep") (.cons (.str "eddy") (.cons (.str "ford") (.cons (.str "gut") .nil))))))) .nop (.part (.bin .add (.int 2) (.dcall 42 (.cons (.var 0) (.cons (.bin .sub (.var 1) (.int 1)) .nil)))))))
 (.seq (.ret (.tup (.cons (.var 3) (.cons (.dcall 44 (.cons (.var 0) (.cons (.var 3) (.cons (.var 2) .nil)))) .nil))))
 .skip))⟩
abbrev c__law_any_shore : List Nat := [41, 42, 44, 45]
abbrev k__law_any_shore : List Str := []
abbrev i__law_any_counts : Nat := 46
def d__law_any_counts : Df := ⟨"_law_any_counts", 3, ["dice", "shore", "most", "pool"],
 (.seq (.ret (.blt .tuple (.cons (.comp [("pool", 3)] (.dcall 42 (.cons (.var 0) (.cons (.bin .add (.var 2) (.int 1)) .nil))) (.name 3) (.walk (.ix (.var 1) (.int 0))) .nop) .nil)))
 .skip)⟩
abbrev c__law_any_counts : List Nat := [41, 42, 46]
abbrev k__law_any_counts : List Str := []
abbrev i__law_with : Nat := 47
def d__law_with : Df := ⟨"_law_with", 3, ["shore", "height", "pool", "found", "turn", "one", "other", "high"],
 (.seq (.own 3 (.lst (.cons (.var 2) .nil)))
 (.seq (.forr (.name 4) (.walk (.ix (.var 0) (.int 0))) (.seq (.forr (.tcons (.name 5) (.tcons (.name 6) (.tcons (.name 7) .tnil))) (.walk (.ix (.var 0) (.int 1))) (.seq (.ite (.andE (.cmp .le (.var 7) (.var 1)) (.cmp .ne (.cmp .inn (.var 5) (.pk 3)) (.cmp .inn (.var 6) (.pk 3)))) (.seq (.app 3 (.ife (.cmp .inn (.var 5) (.pk 3)) (.var 6) (.var 5)))
 .skip) .skip)
 .skip))
 .skip))
 (.seq (.ret (.blt .tuple (.cons (.blt .sorted (.cons (.pk 3) .nil)) .nil)))
 .skip)))⟩
abbrev c__law_with : List Nat := [47]
abbrev k__law_with : List Str := []
abbrev i__law_lots : Nat := 48
def d__law_lots : Df := ⟨"_law_lots", 2, ["shore", "height", "pool"],
 (.seq (.ret (.sset (.comp [("pool", 2)] (.dcall 47 (.cons (.var 0) (.cons (.var 1) (.cons (.var 2) .nil)))) (.name 2) (.walk (.ix (.var 0) (.int 0))) .nop)))
 .skip)⟩
abbrev c__law_lots : List Nat := [47, 48]
abbrev k__law_lots : List Str := []
abbrev i__law_is_own_shore : Nat := 49
def d__law_is_own_shore : Df := ⟨"_law_is_own_shore", 1, ["thing", "pools", "ridges", "pool", "sign", "ridge", "ends"],
 (.seq (.unp (.tcons (.name 1) (.tcons (.name 2) .tnil)) (.var 0))
 (.seq (.ite (.orE (.notE (.isi (.var 1) .tuple)) (.orE (.cmp .lt (.blt .len (.cons (.var 1) .nil)) (.int 2)) (.cmp .gt (.blt .len (.cons (.var 1) .nil)) (.int 6)))) (.seq (.ret (.bl false))
 .skip) .skip)
 (.seq (.ite (.orE (.notE (.isi (.var 2) .tuple)) (.cmp .gt (.blt .len (.cons (.var 2) .nil)) (.int 10))) (.seq (.ret (.bl false))
 .skip) .skip)
 (.seq (.forr (.name 3) (.walk (.var 1)) (.seq (.ite (.orE (.notE (.isi (.var 3) .str)) (.orE (.cmp .lt (.blt .len (.cons (.var 3) .nil)) (.int 1)) (.cmp .gt (.blt .len (.cons (.var 3) .nil)) (.int 8)))) (.seq (.ret (.bl false))
 .skip) .skip)
 (.seq (.ite (.cmp .ne (.comp [("sign", 4)] (.var 4) (.name 4) (.walk (.var 3)) (.part (.notE (.chain .le .le (.str "a") (.var 4) (.str "z"))))) (.lst .nil)) (.seq (.ret (.bl false))
 .skip) .skip)
 .skip)))
 (.seq (.forr (.name 5) (.walk (.var 2)) (.seq (.ite (.orE (.notE (.isi (.var 5) .tuple)) (.orE (.cmp .ne (.blt .len (.cons (.var 5) .nil)) (.int 3)) (.cmp .nin (.ix (.var 5) (.int 0)) (.var 1)))) (.seq (.ret (.bl false))
 .skip) .skip)
 (.seq (.ite (.cmp .nin (.ix (.var 5) (.int 1)) (.var 1)) (.seq (.ret (.bl false))
 .skip) .skip)
 (.seq (.ite (.orE (.cmp .ge (.ix (.var 5) (.int 0)) (.ix (.var 5) (.int 1))) (.orE (.notE (.isi (.ix (.var 5) (.int 2)) .int)) (.isi (.ix (.var 5) (.int 2)) .bool))) (.seq (.ret (.bl false))
 .skip) .skip)
 (.seq (.ite (.notE (.chain .le .le (.int 1) (.ix (.var 5) (.int 2)) (.int 9))) (.seq (.ret (.bl false))
 .skip) .skip)
 .skip)))))
 (.seq (.set 6 (.comp [("ridge", 5)] (.sl (.var 5) .nop (.part (.int 2))) (.name 5) (.walk (.var 2)) .nop))
 (.seq (.ret (.andE (.cmp .eq (.blt .list (.cons (.var 1) .nil)) (.sset (.var 1))) (.cmp .eq (.var 6) (.sset (.var 6)))))
 .skip)))))))⟩
abbrev c__law_is_own_shore : List Nat := [49]
abbrev k__law_is_own_shore : List Str := []
abbrev i__law_many_ridges : Nat := 51
def d__law_many_ridges : Df := ⟨"_law_many_ridges", 0, ["pools", "some", "at", "one", "other"],
 (.seq (.set 0 (.tup (.cons (.str "bay") (.cons (.str "cove") (.cons (.str "deep") (.cons (.str "eddy") (.cons (.str "ford") (.cons (.str "gut") .nil))))))))
 (.seq (.set 1 (.lst .nil))
 (.seq (.forr (.tcons (.name 2) (.tcons (.name 3) .tnil)) (.enum (.var 0)) (.seq (.set 1 (.bin .add (.var 1) (.comp [("other", 4)] (.tup (.cons (.var 3) (.cons (.var 4) (.cons (.bin .add (.int 1) (.var 2)) .nil)))) (.name 4) (.walk (.sl (.var 0) (.part (.bin .add (.var 2) (.int 1))) .nop)) .nop)))
 .skip))
 (.seq (.ret (.andE (.cmp .iss (.dcall 5 (.cons (.tup (.cons (.var 0) (.cons (.blt .tuple (.cons (.sl (.var 1) .nop (.part (.int 10))) .nil)) .nil))) .nil)) (.bl true)) (.cmp .iss (.dcall 5 (.cons (.tup (.cons (.var 0) (.cons (.blt .tuple (.cons (.sl (.var 1) .nop (.part (.int 11))) .nil)) .nil))) .nil)) (.bl false))))
 .skip))))⟩
abbrev c__law_many_ridges : List Nat := [0, 1, 2, 3, 4, 5, 51]
abbrev k__law_many_ridges : List Str := ["HIGHEST", "SMALL"]
abbrev i_law_k01 : Nat := 52
def d_law_k01 : Df := ⟨"law", 1, ["script", "dice", "shore", "some", "turn", "counts", "height", "one", "other", "act", "names", "edges", "thing", "high"],
 (.seq (.forr (.name 1) (.walk (.dcall 43 (.cons (.var 0) (.cons (.int 5) .nil)))) (.seq (.set 2 (.dcall 45 (.cons (.var 1) (.cons (.int 6) (.cons (.int 10) .nil)))))
 (.seq (.par [(5, false), (6, false)] (.cons (.dcall 46 (.cons (.var 1) (.cons (.var 2) (.cons (.int 9) .nil)))) (.cons (.dcall 42 (.cons (.var 1) (.cons (.int 10) .nil))) .nil)))
 (.seq (.ite (.orE (.cmp .isn (.dcall 5 (.cons (.var 2) .nil)) (.bl true)) (.cmp .isn (.dcall 15 (.cons (.var 2) (.cons (.var 5) .nil))) (.bl true))) (.seq (.ret (.bl false))
 .skip) .skip)
 (.seq (.ite (.cmp .ne (.dcall 9 (.cons (.var 2) (.cons (.var 6) .nil))) (.dcall 48 (.cons (.var 2) (.cons (.var 6) .nil)))) (.seq (.ret (.bl false))
 .skip) .skip)
 (.seq (.unp (.tcons (.name 7) (.tcons (.name 8) .tnil)) (.comp [("turn", 4)] (.ix (.ix (.var 2) (.int 0)) (.dcall 42 (.cons (.var 1) (.cons (.blt .len (.cons (.ix (.var 2) (.int 0)) .nil)) .nil)))) (.name 4) (.rng (.cons (.int 2) .nil)) .nop))
 (.seq (.set 3 (.comp [("high", 13)] (.var 13) (.name 13) (.rng (.cons (.int 10) .nil)) (.part (.cmp .inn (.var 8) (.dcall 47 (.cons (.var 2) (.cons (.var 13) (.cons (.var 7) .nil))))))))
 (.seq (.ite (.cmp .ne (.dcall 13 (.cons (.var 2) (.cons (.var 7) (.cons (.var 8) .nil)))) (.ife (.cmp .ne (.var 3) (.lst .nil)) (.ix (.var 3) (.int 0)) .non)) (.seq (.ret (.bl false))
 .skip) .skip)
 (.seq (.forr (.name 4) (.rng (.cons (.int 8) .nil)) (.seq (.set 9 (.dcall 42 (.cons (.var 1) (.cons (.int 2) .nil))))
 (.seq (.own 10 (.lst (.cons (.tup .nil) (.cons (.tup (.cons (.str "bay") .nil)) (.cons (.tup (.cons (.str "cove") (.cons (.str "bay") .nil))) (.cons (.tup (.cons (.str "Bay") (.cons (.str "cove") .nil))) .nil))))))
 (.seq (.own 10 (.bin .add (.pk 10) (.lst (.cons (.tup (.cons (.str "a") (.cons (.str "b") (.cons (.str "c") (.cons (.str "d") (.cons (.str "e") (.cons (.str "f") (.cons (.str "g") .nil)))))))) (.cons .non (.cons (.tup (.cons (.str "bay") (.cons (.str "bay") .nil))) (.cons (.tup (.cons (.str "bay") (.cons (.str "cove") .nil))) .nil)))))))
 (.seq (.app 10 (.tup (.cons (.str "abcdefghi") (.cons (.str "bay") .nil))))
 (.seq (.set 11 (.lst (.cons (.tup .nil) (.cons (.tup (.cons (.tup (.cons (.str "bay") (.cons (.str "bay") (.cons (.int 1) .nil)))) .nil)) (.cons (.tup (.cons (.tup (.cons (.str "cove") (.cons (.str "bay") (.cons (.int 1) .nil)))) .nil)) (.cons (.tup (.cons (.tup (.cons (.str "bay") (.cons (.str "zed") (.cons (.int 1) .nil)))) .nil)) (.cons (.lst .nil) .nil)))))))
 (.seq (.set 11 (.bin .add (.var 11) (.lst (.cons (.tup (.cons (.tup (.cons (.str "bay") (.cons (.str "cove") (.cons (.int 0) .nil)))) .nil)) (.cons (.tup (.cons (.tup (.cons (.str "bay") (.cons (.str "cove") (.cons (.int 10) .nil)))) .nil)) .nil)))))
 (.seq (.set 11 (.bin .add (.var 11) (.lst (.cons (.tup (.cons (.tup (.cons (.str "bay") (.cons (.str "cove") (.cons (.int 1) .nil)))) (.cons (.tup (.cons (.str "bay") (.cons (.str "cove") (.cons (.int 2) .nil)))) .nil))) (.cons (.tup (.cons (.tup (.cons (.str "bay") (.cons (.str "cove") (.cons (.bl true) .nil)))) .nil)) .nil)))))
 (.seq (.frz 10)
 (.seq (.set 12 (.bin .add (.bin .add (.sl (.var 2) .nop (.part (.var 9))) (.tup (.cons (.ix (.ix (.lst (.cons (.var 10) (.cons (.var 11) .nil))) (.var 9)) (.dcall 42 (.cons (.var 1) (.cons (.int 9) .nil)))) .nil))) (.sl (.var 2) (.part (.bin .add (.var 9) (.int 1))) .nop)))
 (.seq (.ite (.cmp .ne (.dcall 5 (.cons (.var 12) .nil)) (.dcall 49 (.cons (.var 12) .nil))) (.seq (.ret (.bl false))
 .skip) .skip)
 .skip)))))))))))
 (.seq (.ite (.orE (.notE (.dcall 50 (.cons (.var 2) (.cons (.var 5) .nil)))) (.notE (.dcall 51 .nil))) (.seq (.ret (.bl false))
 .skip) .skip)
 .skip))))))))))
 (.seq (.ret (.bl true))
 .skip))⟩
abbrev c_law_k01 : List Nat := [0, 1, 2, 3, 4, 5, 6, 7, 8, 9, 10, 11, 12, 13, 14, 15, 40, 41, 42, 43, 44, 45, 46, 47, 48, 49, 50, 51, 52]
abbrev k_law_k01 : List Str := ["HIGHEST", "MOST", "SMALL"]
abbrev i_changed_lot : Nat := 53
def d_changed_lot : Df := ⟨"changed_lot", 4, ["shore", "before", "after", "height", "some"],
 (.seq (.expr (.dcall 18 (.cons (.var 0) (.cons (.var 1) (.cons (.var 2) .nil)))))
 (.seq (.expr (.dcall 7 (.cons (.var 3) .nil)))
 (.seq (.set 4 (.dcall 20 (.cons (.var 0) (.cons (.var 1) (.cons (.var 2) (.cons (.var 3) .nil))))))
 (.seq (.ret (.ife (.cmp .ne (.var 4) (.lst .nil)) (.ix (.var 4) (.int 0)) .non))
 .skip))))⟩
abbrev c_changed_lot : List Nat := [0, 1, 2, 3, 4, 5, 6, 7, 8, 14, 16, 17, 18, 19, 20, 53]
abbrev k_changed_lot : List Str := ["HIGHEST", "MOST", "SMALL"]
abbrev i_is_lot : Nat := 54
def d_is_lot : Df := ⟨"is_lot", 2, ["shore", "thing", "one"],
 (.seq (.ite (.orE (.notE (.isi (.var 1) .tuple)) (.orE (.cmp .eq (.var 1) (.tup .nil)) (.notE (.blt .all (.cons (.comp [("one", 2)] (.dcall 3 (.cons (.ix (.var 0) (.int 0)) (.cons (.var 2) .nil))) (.name 2) (.walk (.var 1)) .nop) .nil))))) (.seq (.ret (.bl false))
 .skip) .skip)
 (.seq (.ret (.dcall 2 (.cons (.var 1) .nil)))
 .skip))⟩
abbrev c_is_lot : List Nat := [2, 3, 54]
abbrev k_is_lot : List Str := []
abbrev i_rim_of : Nat := 55
def d_rim_of : Df := ⟨"rim_of", 2, ["shore", "lot", "some", "one", "other", "high"],
 (.seq (.set 2 (.comp [("one", 3), ("other", 4), ("high", 5)] (.var 5) (.tcons (.name 3) (.tcons (.name 4) (.tcons (.name 5) .tnil))) (.walk (.ix (.var 0) (.int 1))) (.part (.cmp .ne (.cmp .inn (.var 3) (.var 1)) (.cmp .inn (.var 4) (.var 1))))))
 (.seq (.ret (.mind (.var 2)))
 .skip))⟩
abbrev c_rim_of : List Nat := [55]
abbrev k_rim_of : List Str := []
abbrev i_shown_by : Nat := 56
def d_shown_by : Df := ⟨"shown_by", 4, ["shore", "before", "after", "lot"],
 (.seq (.expr (.dcall 18 (.cons (.var 0) (.cons (.var 1) (.cons (.var 2) .nil)))))
 (.seq (.ite (.orE (.notE (.dcall 54 (.cons (.var 0) (.cons (.var 3) .nil)))) (.notE (.dcall 19 (.cons (.var 0) (.cons (.var 1) (.cons (.var 2) (.cons (.var 3) .nil))))))) (.seq (.rais "BadLot")
 .skip) .skip)
 (.seq (.ret (.dcall 55 (.cons (.var 0) (.cons (.var 3) .nil))))
 .skip)))⟩
abbrev c_shown_by : List Nat := [0, 1, 2, 3, 4, 5, 6, 14, 16, 17, 18, 19, 54, 55, 56]
abbrev k_shown_by : List Str := ["HIGHEST", "MOST", "SMALL"]
abbrev i_lot_for : Nat := 57
def d_lot_for : Df := ⟨"lot_for", 3, ["shore", "before", "after", "least"],
 (.seq (.expr (.dcall 18 (.cons (.var 0) (.cons (.var 1) (.cons (.var 2) .nil)))))
 (.seq (.ite (.cmp .eq (.var 1) (.var 2)) (.seq (.rais "Nothing")
 .skip) .skip)
 (.seq (.set 3 (.dcall 23 (.cons (.var 0) (.cons (.var 1) (.cons (.var 2) .nil)))))
 (.seq (.ret (.ix (.dcall 20 (.cons (.var 0) (.cons (.var 1) (.cons (.var 2) (.cons (.ife (.cmp .iss (.var 3) .non) (.glob "HIGHEST") (.bin .sub (.var 3) (.int 1))) .nil))))) (.int 0)))
 .skip))))⟩
abbrev c_lot_for : List Nat := [0, 1, 2, 3, 4, 5, 6, 8, 14, 16, 17, 18, 19, 20, 21, 23, 57]
abbrev k_lot_for : List Str := ["HIGHEST", "MOST", "SMALL"]
abbrev i__law_any_after : Nat := 58
def d__law_any_after : Df := ⟨"_law_any_after", 3, ["dice", "shore", "before", "after", "turn", "one", "other"],
 (.seq (.set 3 (.blt .list (.cons (.var 2) .nil)))
 (.seq (.forr (.name 4) (.rng (.cons (.dcall 42 (.cons (.var 0) (.cons (.int 4) .nil))) .nil)) (.seq (.par [(5, false), (6, false)] (.cons (.dcall 42 (.cons (.var 0) (.cons (.blt .len (.cons (.var 3) .nil)) .nil))) (.cons (.dcall 42 (.cons (.var 0) (.cons (.blt .len (.cons (.var 3) .nil)) .nil))) .nil)))
 (.seq (.ite (.andE (.cmp .gt (.ix (.var 3) (.var 5)) (.int 0)) (.cmp .lt (.ix (.var 3) (.var 6)) (.int 9))) (.seq (.set 3 (.bin .add (.bin .add (.sl (.var 3) .nop (.part (.var 5))) (.lst (.cons (.bin .sub (.ix (.var 3) (.var 5)) (.int 1)) .nil))) (.sl (.var 3) (.part (.bin .add (.var 5) (.int 1))) .nop)))
 (.seq (.set 3 (.bin .add (.bin .add (.sl (.var 3) .nop (.part (.var 6))) (.lst (.cons (.bin .add (.ix (.var 3) (.var 6)) (.int 1)) .nil))) (.sl (.var 3) (.part (.bin .add (.var 6) (.int 1))) .nop)))
 .skip)) .skip)
 .skip)))
 (.seq (.ite (.cmp .eq (.dcall 42 (.cons (.var 0) (.cons (.int 6) .nil))) (.int 0)) (.seq (.ret (.dcall 46 (.cons (.var 0) (.cons (.var 1) (.cons (.int 3) .nil)))))
 .skip) .skip)
 (.seq (.ret (.blt .tuple (.cons (.var 3) .nil)))
 .skip))))⟩
abbrev c__law_any_after : List Nat := [41, 42, 46, 58]
abbrev k__law_any_after : List Str := []
abbrev i__law_sum : Nat := 59
def d__law_sum : Df := ⟨"_law_sum", 3, ["shore", "counts", "lot", "pool", "many"],
 (.seq (.ret (.blt .sum (.cons (.comp [("pool", 3), ("many", 4)] (.var 4) (.tcons (.name 3) (.tcons (.name 4) .tnil)) (.zip (.ix (.var 0) (.int 0)) (.var 1)) (.part (.cmp .inn (.var 3) (.var 2)))) .nil)))
 .skip)⟩
abbrev c__law_sum : List Nat := [59]
abbrev k__law_sum : List Str := []
abbrev i__law_sets : Nat := 60
def d__law_sets : Df := ⟨"_law_sets", 1, ["pools", "found", "pool", "part"],
 (.seq (.set 1 (.lst (.cons (.tup .nil) .nil)))
 (.seq (.forr (.name 2) (.walk (.var 0)) (.seq (.set 1 (.bin .add (.var 1) (.comp [("part", 3)] (.bin .add (.var 3) (.tup (.cons (.var 2) .nil))) (.name 3) (.walk (.var 1)) .nop)))
 .skip))
 (.seq (.ret (.sl (.var 1) (.part (.int 1)) .nop))
 .skip)))⟩
abbrev c__law_sets : List Nat := [60]
abbrev k__law_sets : List Str := []
abbrev i__law_rim : Nat := 61
def d__law_rim : Df := ⟨"_law_rim", 2, ["shore", "lot", "some", "one", "other", "high"],
 (.seq (.set 2 (.comp [("one", 3), ("other", 4), ("high", 5)] (.var 5) (.tcons (.name 3) (.tcons (.name 4) (.tcons (.name 5) .tnil))) (.walk (.ix (.var 0) (.int 1))) (.part (.cmp .ne (.cmp .inn (.var 3) (.var 1)) (.cmp .inn (.var 4) (.var 1))))))
 (.seq (.ret (.ife (.cmp .ne (.var 2) (.lst .nil)) (.blt .min (.cons (.var 2) .nil)) .non))
 .skip))⟩
abbrev c__law_rim : List Nat := [61]
abbrev k__law_rim : List Str := []
abbrev i__law_lots_refused : Nat := 62
def d__law_lots_refused : Df := ⟨"_law_lots_refused", 3, ["shore", "before", "after", "cases", "bad"],
 (.seq (.set 3 (.lst (.cons .non (.cons (.int 5) (.cons (.tup .nil) (.cons (.lst .nil) (.cons (.lst (.cons (.str "bay") .nil)) (.cons (.tup (.cons (.str "zed") .nil)) (.cons (.tup (.cons (.str "bay") (.cons (.str "bay") .nil))) (.cons (.tup (.cons (.str "cove") (.cons (.str "bay") .nil))) (.cons (.str "bay") (.cons (.tup (.cons .non .nil)) .nil))))))))))))
 (.seq (.forr (.name 4) (.walk (.var 3)) (.seq (.ite (.cmp .ne (.told (.dcall 56 (.cons (.var 0) (.cons (.var 1) (.cons (.var 2) (.cons (.var 4) .nil)))))) (.tup (.cons (.str "refused") (.cons (.str "BadLot") .nil)))) (.seq (.ret (.bl false))
 .skip) .skip)
 .skip))
 (.seq (.ret (.bl true))
 .skip)))⟩
abbrev c__law_lots_refused : List Nat := [0, 1, 2, 3, 4, 5, 6, 14, 16, 17, 18, 19, 54, 55, 56, 62]
abbrev k__law_lots_refused : List Str := ["HIGHEST", "MOST", "SMALL"]
abbrev i_law_k02 : Nat := 63
def d_law_k02 : Df := ⟨"law", 1, ["script", "dice", "shore", "before", "height", "lot", "after", "least", "rims", "changed", "own"],
 (.seq (.forr (.name 1) (.walk (.dcall 43 (.cons (.var 0) (.cons (.int 4) .nil)))) (.seq (.set 2 (.dcall 45 (.cons (.var 1) (.cons (.int 6) (.cons (.int 10) .nil)))))
 (.seq (.set 3 (.dcall 46 (.cons (.var 1) (.cons (.var 2) (.cons (.int 4) .nil)))))
 (.seq (.par [(6, false), (7, false), (8, true)] (.cons (.dcall 58 (.cons (.var 1) (.cons (.var 2) (.cons (.var 3) .nil)))) (.cons .non (.cons (.lst (.cons (.int 0) .nil)) .nil))))
 (.seq (.forr (.name 4) (.rng (.cons (.int 9) (.cons (.neg (.int 1)) (.cons (.neg (.int 1)) .nil)))) (.seq (.own 9 (.lst .nil))
 (.seq (.forr (.name 10) (.walk (.dcall 48 (.cons (.var 2) (.cons (.var 4) .nil)))) (.seq (.ite (.cmp .ne (.dcall 59 (.cons (.var 2) (.cons (.var 3) (.cons (.var 10) .nil)))) (.dcall 59 (.cons (.var 2) (.cons (.var 6) (.cons (.var 10) .nil))))) (.seq (.app 9 (.var 10))
 .skip) .skip)
 .skip))
 (.seq (.ite (.cmp .ne (.dcall 22 (.cons (.var 2) (.cons (.var 3) (.cons (.var 6) (.cons (.var 4) .nil))))) (.cmp .eq (.pk 9) (.lst .nil))) (.seq (.ret (.bl false))
 .skip) .skip)
 (.seq (.ite (.cmp .ne (.dcall 53 (.cons (.var 2) (.cons (.var 3) (.cons (.var 6) (.cons (.var 4) .nil))))) (.ife (.cmp .ne (.pk 9) (.lst .nil)) (.ix (.pk 9) (.int 0)) .non)) (.seq (.ret (.bl false))
 .skip) .skip)
 (.seq (.set 7 (.ife (.cmp .eq (.pk 9) (.lst .nil)) (.var 4) (.var 7)))
 .skip))))))
 (.seq (.forr (.name 5) (.walk (.dcall 60 (.cons (.ix (.var 2) (.int 0)) .nil))) (.seq (.ite (.cmp .eq (.dcall 59 (.cons (.var 2) (.cons (.var 3) (.cons (.var 5) .nil)))) (.dcall 59 (.cons (.var 2) (.cons (.var 6) (.cons (.var 5) .nil))))) (.seq (.ite (.cmp .ne (.told (.dcall 56 (.cons (.var 2) (.cons (.var 3) (.cons (.var 6) (.cons (.var 5) .nil)))))) (.tup (.cons (.str "refused") (.cons (.str "BadLot") .nil)))) (.seq (.ret (.bl false))
 .skip) .skip)
 .skip) (.seq (.app 8 (.dcall 61 (.cons (.var 2) (.cons (.var 5) .nil))))
 (.seq (.ite (.cmp .ne (.dcall 56 (.cons (.var 2) (.cons (.var 3) (.cons (.var 6) (.cons (.var 5) .nil))))) (.ix (.pk 8) (.neg (.int 1)))) (.seq (.ret (.bl false))
 .skip) .skip)
 .skip)))
 .skip))
 (.seq (.ite (.cmp .ne (.dcall 24 (.cons (.var 2) (.cons (.var 3) (.cons (.var 6) .nil)))) (.var 7)) (.seq (.ret (.bl false))
 .skip) .skip)
 (.seq (.ite (.cmp .ne (.var 7) (.ife (.cmp .inn .non (.pk 8)) .non (.blt .max (.cons (.pk 8) .nil)))) (.seq (.ret (.bl false))
 .skip) .skip)
 (.seq (.forr (.name 4) (.rng (.cons (.ife (.cmp .isn (.var 7) .non) (.var 7) (.int 10)) (.cons (.int 10) .nil))) (.seq (.ite (.notE (.dcall 22 (.cons (.var 2) (.cons (.var 3) (.cons (.var 6) (.cons (.var 4) .nil)))))) (.seq (.ret (.bl false))
 .skip) .skip)
 .skip))
 (.seq (.set 5 (.told (.dcall 57 (.cons (.var 2) (.cons (.var 3) (.cons (.var 6) .nil))))))
 (.seq (.ite (.andE (.cmp .eq (.var 3) (.var 6)) (.cmp .ne (.var 5) (.tup (.cons (.str "refused") (.cons (.str "Nothing") .nil))))) (.seq (.ret (.bl false))
 .skip) .skip)
 (.seq (.ite (.andE (.cmp .ne (.var 3) (.var 6)) (.cmp .ne (.dcall 56 (.cons (.var 2) (.cons (.var 3) (.cons (.var 6) (.cons (.var 5) .nil))))) (.var 7))) (.seq (.ret (.bl false))
 .skip) .skip)
 (.seq (.ite (.notE (.dcall 62 (.cons (.var 2) (.cons (.var 3) (.cons (.var 6) .nil))))) (.seq (.ret (.bl false))
 .skip) .skip)
 .skip)))))))))))))
 (.seq (.ret (.bl true))
 .skip))⟩
abbrev c_law_k02 : List Nat := [0, 1, 2, 3, 4, 5, 6, 7, 8, 14, 16, 17, 18, 19, 20, 21, 22, 23, 24, 40, 41, 42, 43, 44, 45, 46, 47, 48, 53, 54, 55, 56, 57, 58, 59, 60, 61, 62, 63]
abbrev k_law_k02 : List Str := ["HIGHEST", "MOST", "SMALL"]
abbrev i_is_kind : Nat := 64
def d_is_kind : Df := ⟨"is_kind", 2, ["shore", "thing"],
 (.seq (.ite (.orE (.notE (.isi (.var 1) .tuple)) (.orE (.cmp .ne (.blt .len (.cons (.var 1) .nil)) (.int 3)) (.notE (.dcall 0 (.cons (.ix (.var 1) (.int 0)) (.cons (.int 0) (.cons (.glob "DEEPEST") .nil))))))) (.seq (.ret (.bl false))
 .skip) .skip)
 (.seq (.ret (.andE (.dcall 14 (.cons (.var 0) (.cons (.ix (.var 1) (.int 1)) .nil))) (.dcall 14 (.cons (.var 0) (.cons (.ix (.var 1) (.int 2)) .nil)))))
 .skip))⟩
abbrev c_is_kind : List Nat := [0, 14, 64]
abbrev k_is_kind : List Str := ["DEEPEST", "MOST"]
abbrev i_need_kinds : Nat := 65
def d_need_kinds : Df := ⟨"need_kinds", 2, ["shore", "kinds", "one"],
 (.seq (.expr (.dcall 6 (.cons (.var 0) .nil)))
 (.seq (.ite (.orE (.notE (.isi (.var 1) .tuple)) (.orE (.notE (.chain .le .le (.int 1) (.blt .len (.cons (.var 1) .nil)) (.int 3))) (.notE (.blt .all (.cons (.comp [("one", 2)] (.dcall 64 (.cons (.var 0) (.cons (.var 2) .nil))) (.name 2) (.walk (.var 1)) .nop) .nil))))) (.seq (.rais "BadKinds")
 .skip) .skip)
 .skip))⟩
abbrev c_need_kinds : List Nat := [0, 1, 2, 3, 4, 5, 6, 14, 64, 65]
abbrev k_need_kinds : List Str := ["DEEPEST", "HIGHEST", "MOST", "SMALL"]
abbrev i_all_follow : Nat := 66
def d_all_follow : Df := ⟨"all_follow", 3, ["shore", "kinds", "height", "depth", "before", "after"],
 (.seq (.ret (.blt .all (.cons (.comp [("depth", 3), ("before", 4), ("after", 5)] (.dcall 21 (.cons (.var 0) (.cons (.var 4) (.cons (.var 5) (.cons (.blt .max (.cons (.int 0) (.cons (.bin .sub (.var 2) (.var 3)) .nil))) .nil))))) (.tcons (.name 3) (.tcons (.name 4) (.tcons (.name 5) .tnil))) (.walk (.var 1)) .nop) .nil)))
 .skip)⟩
abbrev c_all_follow : List Nat := [8, 17, 19, 20, 21, 66]
abbrev k_all_follow : List Str := []
abbrev i_least_for : Nat := 67
def d_least_for : Df := ⟨"least_for", 2, ["shore", "kinds", "some", "height"],
 (.seq (.set 2 (.comp [("height", 3)] (.var 3) (.name 3) (.rng (.cons (.bin .add (.glob "HIGHEST") (.int 1)) .nil)) (.part (.dcall 66 (.cons (.var 0) (.cons (.var 1) (.cons (.var 3) .nil)))))))
 (.seq (.ret (.ife (.cmp .ne (.var 2) (.lst .nil)) (.ix (.var 2) (.int 0)) .non))
 .skip))⟩
abbrev c_least_for : List Nat := [8, 17, 19, 20, 21, 66, 67]
abbrev k_least_for : List Str := ["HIGHEST"]
abbrev i_least_for_kinds : Nat := 68
def d_least_for_kinds : Df := ⟨"least_for_kinds", 2, ["shore", "kinds"],
 (.seq (.expr (.dcall 65 (.cons (.var 0) (.cons (.var 1) .nil))))
 (.seq (.ret (.dcall 67 (.cons (.var 0) (.cons (.var 1) .nil))))
 .skip))⟩
abbrev c_least_for_kinds : List Nat := [0, 1, 2, 3, 4, 5, 6, 8, 14, 17, 19, 20, 21, 64, 65, 66, 67, 68]
abbrev k_least_for_kinds : List Str := ["DEEPEST", "HIGHEST", "MOST", "SMALL"]
abbrev i_is_less : Nat := 69
def d_is_less : Df := ⟨"is_less", 2, ["one", "other"],
 (.seq (.ret (.andE (.cmp .isn (.var 0) .non) (.orE (.cmp .iss (.var 1) .non) (.cmp .lt (.var 0) (.var 1)))))
 .skip)⟩
abbrev c_is_less : List Nat := [69]
abbrev k_is_less : List Str := []
abbrev i_binding_kinds : Nat := 70
def d_binding_kinds : Df := ⟨"binding_kinds", 2, ["shore", "kinds", "least", "rows", "at", "rest"],
 (.seq (.expr (.dcall 65 (.cons (.var 0) (.cons (.var 1) .nil))))
 (.seq (.set 2 (.dcall 67 (.cons (.var 0) (.cons (.var 1) .nil))))
 (.seq (.set 3 (.comp [("at", 4)] (.bin .add (.sl (.var 1) .nop (.part (.var 4))) (.sl (.var 1) (.part (.bin .add (.var 4) (.int 1))) .nop)) (.name 4) (.rng (.cons (.blt .len (.cons (.var 1) .nil)) .nil)) .nop))
 (.seq (.ret (.comp [("at", 4), ("rest", 5)] (.var 4) (.tcons (.name 4) (.tcons (.name 5) .tnil)) (.enum (.var 3)) (.part (.dcall 69 (.cons (.dcall 67 (.cons (.var 0) (.cons (.var 5) .nil))) (.cons (.var 2) .nil))))))
 .skip))))⟩
abbrev c_binding_kinds : List Nat := [0, 1, 2, 3, 4, 5, 6, 8, 14, 17, 19, 20, 21, 64, 65, 66, 67, 69, 70]
abbrev k_binding_kinds : List Str := ["DEEPEST", "HIGHEST", "MOST", "SMALL"]
abbrev i__law_follows : Nat := 71
def d__law_follows : Df := ⟨"_law_follows", 4, ["shore", "before", "after", "height", "lot"],
 (.seq (.forr (.name 4) (.walk (.dcall 48 (.cons (.var 0) (.cons (.var 3) .nil)))) (.seq (.ite (.cmp .ne (.dcall 59 (.cons (.var 0) (.cons (.var 1) (.cons (.var 4) .nil)))) (.dcall 59 (.cons (.var 0) (.cons (.var 2) (.cons (.var 4) .nil))))) (.seq (.ret (.bl false))
 .skip) .skip)
 .skip))
 (.seq (.ret (.bl true))
 .skip))⟩
abbrev c__law_follows : List Nat := [47, 48, 59, 71]
abbrev k__law_follows : List Str := []
abbrev i__law_least : Nat := 72
def d__law_least : Df := ⟨"_law_least", 3, ["shore", "before", "after", "some", "height"],
 (.seq (.set 3 (.comp [("height", 4)] (.var 4) (.name 4) (.rng (.cons (.int 10) .nil)) (.part (.dcall 71 (.cons (.var 0) (.cons (.var 1) (.cons (.var 2) (.cons (.var 4) .nil))))))))
 (.seq (.ret (.ife (.cmp .ne (.var 3) (.lst .nil)) (.ix (.var 3) (.int 0)) .non))
 .skip))⟩
abbrev c__law_least : List Nat := [47, 48, 59, 71, 72]
abbrev k__law_least : List Str := []
abbrev i__law_for : Nat := 73
def d__law_for : Df := ⟨"_law_for", 2, ["shore", "kind", "depth", "before", "after", "least"],
 (.seq (.unp (.tcons (.name 2) (.tcons (.name 3) (.tcons (.name 4) .tnil))) (.var 1))
 (.seq (.set 5 (.dcall 72 (.cons (.var 0) (.cons (.var 3) (.cons (.var 4) .nil)))))
 (.seq (.ite (.orE (.cmp .iss (.var 5) .non) (.andE (.cmp .gt (.var 5) (.int 0)) (.cmp .gt (.bin .add (.var 5) (.var 2)) (.int 9)))) (.seq (.ret (.int 10))
 .skip) .skip)
 (.seq (.ret (.ife (.cmp .gt (.var 5) (.int 0)) (.bin .add (.var 5) (.var 2)) (.int 0)))
 .skip))))⟩
abbrev c__law_for : List Nat := [47, 48, 59, 71, 72, 73]
abbrev k__law_for : List Str := []
abbrev i_law_k03 : Nat := 74
def d_law_k03 : Df := ⟨"law", 1, ["script", "dice", "turn", "kinds", "each", "binding", "at", "lone", "cases", "bad", "shore", "before", "rest", "kind"],
 (.seq (.forr (.name 1) (.walk (.dcall 43 (.cons (.var 0) (.cons (.int 4) .nil)))) (.seq (.par [(10, false), (3, true)] (.cons (.dcall 45 (.cons (.var 1) (.cons (.int 6) (.cons (.int 10) .nil)))) (.cons (.lst .nil) .nil)))
 (.seq (.forr (.name 2) (.rng (.cons (.bin .add (.int 1) (.dcall 42 (.cons (.var 1) (.cons (.int 3) .nil)))) .nil)) (.seq (.set 11 (.dcall 46 (.cons (.var 1) (.cons (.var 10) (.cons (.int 3) .nil)))))
 (.seq (.app 3 (.tup (.cons (.dcall 42 (.cons (.var 1) (.cons (.int 5) .nil))) (.cons (.var 11) (.cons (.dcall 58 (.cons (.var 1) (.cons (.var 10) (.cons (.var 11) .nil)))) .nil)))))
 .skip)))
 (.seq (.set 3 (.blt .tuple (.cons (.pk 3) .nil)))
 (.seq (.set 4 (.comp [("kind", 13)] (.dcall 73 (.cons (.var 10) (.cons (.var 13) .nil))) (.name 13) (.walk (.var 3)) .nop))
 (.seq (.ite (.cmp .ne (.dcall 68 (.cons (.var 10) (.cons (.var 3) .nil))) (.ife (.cmp .lt (.blt .max (.cons (.var 4) .nil)) (.int 10)) (.blt .max (.cons (.var 4) .nil)) .non)) (.seq (.ret (.bl false))
 .skip) .skip)
 (.seq (.set 5 (.lst .nil))
 (.seq (.forr (.name 6) (.rng (.cons (.blt .len (.cons (.var 3) .nil)) .nil)) (.seq (.set 12 (.blt .max (.cons (.bin .add (.bin .add (.lst (.cons (.int 0) .nil)) (.sl (.var 4) .nop (.part (.var 6)))) (.sl (.var 4) (.part (.bin .add (.var 6) (.int 1))) .nop)) .nil)))
 (.seq (.set 5 (.bin .add (.var 5) (.bin .mul (.lst (.cons (.var 6) .nil)) (.blt .int (.cons (.cmp .lt (.var 12) (.blt .max (.cons (.var 4) .nil))) .nil)))))
 .skip)))
 (.seq (.ite (.orE (.cmp .ne (.dcall 70 (.cons (.var 10) (.cons (.var 3) .nil))) (.var 5)) (.andE (.cmp .eq (.blt .max (.cons (.var 4) .nil)) (.int 0)) (.cmp .ne (.var 5) (.lst .nil)))) (.seq (.ret (.bl false))
 .skip) .skip)
 (.seq (.set 7 (.ix (.var 3) (.int 0)))
 (.seq (.set 8 (.lst (.cons .non (.cons (.int 5) (.cons (.tup .nil) (.cons (.lst (.cons (.var 7) .nil)) (.cons (.bin .mul (.var 3) (.int 4)) (.cons (.tup (.cons .non .nil)) (.cons (.tup (.cons (.sl (.var 7) .nop (.part (.int 2))) .nil)) (.cons (.tup (.cons (.bin .add (.tup (.cons (.int 5) .nil)) (.sl (.var 7) (.part (.int 1)) .nop)) .nil)) .nil))))))))))
 (.seq (.set 8 (.bin .add (.var 8) (.lst (.cons (.tup (.cons (.bin .add (.tup (.cons (.bl true) .nil)) (.sl (.var 7) (.part (.int 1)) .nop)) .nil)) (.cons (.tup (.cons (.tup (.cons (.int 0) (.cons (.ix (.var 7) (.int 1)) (.cons .non .nil)))) .nil)) (.cons (.tup (.cons (.blt .list (.cons (.var 7) .nil)) .nil)) .nil))))))
 (.seq (.forr (.name 9) (.walk (.var 8)) (.seq (.ite (.cmp .ne (.told (.dcall 68 (.cons (.var 10) (.cons (.var 9) .nil)))) (.tup (.cons (.str "refused") (.cons (.str "BadKinds") .nil)))) (.seq (.ret (.bl false))
 .skip) .skip)
 (.seq (.ite (.cmp .ne (.told (.dcall 70 (.cons (.var 10) (.cons (.var 9) .nil)))) (.tup (.cons (.str "refused") (.cons (.str "BadKinds") .nil)))) (.seq (.ret (.bl false))
 .skip) .skip)
 .skip)))
 .skip)))))))))))))
 (.seq (.ret (.bl true))
 .skip))⟩
abbrev c_law_k03 : List Nat := [0, 1, 2, 3, 4, 5, 6, 8, 14, 17, 19, 20, 21, 40, 41, 42, 43, 44, 45, 46, 47, 48, 58, 59, 64, 65, 66, 67, 68, 69, 70, 71, 72, 73, 74]
abbrev k_law_k03 : List Str := ["DEEPEST", "HIGHEST", "MOST", "SMALL"]
abbrev i_ways_v1 : Nat := 75
def d_ways_v1 : Df := ⟨"ways", 4, ["shore", "before", "after", "height", "found", "lot", "left", "pool", "many"],
 (.seq (.expr (.dcall 25 (.cons (.var 0) (.cons (.var 1) (.cons (.var 2) (.cons (.var 3) .nil))))))
 (.seq (.ite (.notE (.dcall 21 (.cons (.var 0) (.cons (.var 1) (.cons (.var 2) (.cons (.var 3) .nil)))))) (.seq (.ret (.int 0))
 .skip) .skip)
 (.seq (.set 4 (.int 1))
 (.seq (.forr (.name 5) (.walk (.dcall 8 (.cons (.var 0) (.cons (.var 3) .nil)))) (.seq (.set 6 (.dcall 17 (.cons (.var 0) (.cons (.var 2) (.cons (.var 5) .nil)))))
 (.seq (.forr (.tcons (.name 7) (.tcons (.name 8) .tnil)) (.zip (.ix (.var 0) (.int 0)) (.var 2)) (.seq (.ite (.cmp .inn (.var 7) (.var 5)) (.seq (.par [(4, false), (6, false)] (.cons (.bin .mul (.var 4) (.dcall 35 (.cons (.var 6) (.cons (.var 8) .nil)))) (.cons (.bin .sub (.var 6) (.var 8)) .nil)))
 .skip) .skip)
 .skip))
 .skip)))
 (.seq (.ret (.var 4))
 .skip)))))⟩
abbrev c_ways_v1 : List Nat := [0, 1, 2, 3, 4, 5, 6, 7, 8, 14, 16, 17, 18, 19, 20, 21, 25, 35, 75]
abbrev k_ways_v1 : List Str := ["HIGHEST", "MOST", "SMALL"]
abbrev i_lowest : Nat := 76
def d_lowest : Df := ⟨"lowest", 2, ["top", "below", "one", "other"],
 (.seq (.par [(2, false), (3, false)] (.cons (.var 0) (.cons (.var 1) .nil)))
 (.seq (.whil (.cmp .ne (.var 3) (.int 0)) (.seq (.par [(2, false), (3, false)] (.cons (.var 3) (.cons (.bin .mod (.var 2) (.var 3)) .nil)))
 .skip))
 (.seq (.ret (.tup (.cons (.bin .fdiv (.var 0) (.var 2)) (.cons (.bin .fdiv (.var 1) (.var 2)) .nil))))
 .skip)))⟩
abbrev c_lowest : List Nat := [76]
abbrev k_lowest : List Str := []
abbrev i__law_all_goings : Nat := 78
def d__law_all_goings : Df := ⟨"_law_all_goings", 3, ["shore", "before", "height", "names", "pool", "many", "found", "longer", "row", "other"],
 (.seq (.set 3 (.lst .nil))
 (.seq (.forr (.tcons (.name 4) (.tcons (.name 5) .tnil)) (.zip (.ix (.var 0) (.int 0)) (.var 1)) (.seq (.set 3 (.bin .add (.var 3) (.bin .mul (.lst (.cons (.var 4) .nil)) (.var 5))))
 .skip))
 (.seq (.set 6 (.lst (.cons (.tup .nil) .nil)))
 (.seq (.forr (.name 4) (.walk (.var 3)) (.seq (.set 7 (.lst .nil))
 (.seq (.forr (.name 8) (.walk (.var 6)) (.seq (.set 7 (.bin .add (.var 7) (.comp [("other", 9)] (.bin .add (.var 8) (.tup (.cons (.var 9) .nil))) (.name 9) (.walk (.dcall 47 (.cons (.var 0) (.cons (.var 2) (.cons (.var 4) .nil))))) .nop)))
 .skip))
 (.seq (.set 6 (.var 7))
 .skip))))
 (.seq (.ret (.tup (.cons (.var 3) (.cons (.var 6) .nil))))
 .skip)))))⟩
abbrev c__law_all_goings : List Nat := [47, 78]
abbrev k__law_all_goings : List Str := []
abbrev i__law_low : Nat := 79
def d__law_low : Df := ⟨"_law_low", 2, ["top", "below", "one", "other"],
 (.seq (.par [(2, false), (3, false)] (.cons (.var 0) (.cons (.var 1) .nil)))
 (.seq (.whil (.cmp .ne (.var 3) (.int 0)) (.seq (.par [(2, false), (3, false)] (.cons (.var 3) (.cons (.bin .mod (.var 2) (.var 3)) .nil)))
 .skip))
 (.seq (.ret (.tup (.cons (.bin .fdiv (.var 0) (.var 2)) (.cons (.bin .fdiv (.var 1) (.var 2)) .nil))))
 .skip)))⟩
abbrev c__law_low : List Nat := [79]
abbrev k__law_low : List Str := []
abbrev i__law_many_in_a_lot : Nat := 80
def d__law_many_in_a_lot : Df := ⟨"_law_many_in_a_lot", 0, ["joined_shore", "pools", "wide", "to"],
 (.seq (.set 0 (.tup (.cons (.tup (.cons (.str "bay") (.cons (.str "cove") .nil))) (.cons (.tup (.cons (.tup (.cons (.str "bay") (.cons (.str "cove") (.cons (.int 1) .nil)))) .nil)) .nil))))
 (.seq (.ite (.cmp .ne (.told (.dcall 39 (.cons (.var 0) (.cons (.tup (.cons (.int 5) (.cons (.int 5) .nil))) (.cons (.int 1) .nil))))) (.tup (.cons (.str "refused") (.cons (.str "BadCounts") .nil)))) (.seq (.ret (.bl false))
 .skip) .skip)
 (.seq (.ite (.cmp .ne (.dcall 39 (.cons (.var 0) (.cons (.tup (.cons (.int 5) (.cons (.int 5) .nil))) (.cons (.int 0) .nil)))) (.lst (.cons (.tup (.cons (.int 5) (.cons (.int 5) .nil))) .nil))) (.seq (.ret (.bl false))
 .skip) .skip)
 (.seq (.ite (.cmp .ne (.blt .len (.cons (.dcall 39 (.cons (.var 0) (.cons (.tup (.cons (.int 4) (.cons (.int 5) .nil))) (.cons (.int 9) .nil)))) .nil)) (.int 10)) (.seq (.ret (.bl false))
 .skip) .skip)
 (.seq (.set 1 (.tup (.cons (.str "bay") (.cons (.str "cove") (.cons (.str "deep") (.cons (.str "eddy") (.cons (.str "ford") .nil)))))))
 (.seq (.set 2 (.tup (.cons (.var 1) (.cons (.blt .tuple (.cons (.comp [("to", 3)] (.tup (.cons (.str "bay") (.cons (.var 3) (.cons (.int 1) .nil)))) (.name 3) (.walk (.sl (.var 1) (.part (.int 1)) .nop)) .nop) .nil)) .nil))))
 (.seq (.ite (.cmp .ne (.blt .len (.cons (.dcall 39 (.cons (.var 2) (.cons (.tup (.cons (.int 6) (.cons (.int 0) (.cons (.int 0) (.cons (.int 0) (.cons (.int 0) .nil)))))) (.cons (.int 1) .nil)))) .nil)) (.int 210)) (.seq (.ret (.bl false))
 .skip) .skip)
 (.seq (.ite (.cmp .ne (.told (.dcall 39 (.cons (.var 2) (.cons (.tup (.cons (.int 0) (.cons (.int 7) (.cons (.int 0) (.cons (.int 0) (.cons (.int 0) .nil)))))) (.cons (.int 1) .nil))))) (.tup (.cons (.str "refused") (.cons (.str "Full") .nil)))) (.seq (.ret (.bl false))
 .skip) .skip)
 (.seq (.ret (.bl true))
 .skip)))))))))⟩
abbrev c__law_many_in_a_lot : List Nat := [39, 80]
abbrev k__law_many_in_a_lot : List Str := []
abbrev i__law_pools_refused : Nat := 81
def d__law_pools_refused : Df := ⟨"_law_pools_refused", 5, ["shore", "before", "after", "height", "one", "bad", "made"],
 (.seq (.forr (.name 5) (.walk (.lst (.cons .non (.cons (.int 5) (.cons (.str "zed") (.cons (.tup (.cons (.str "bay") .nil)) .nil)))))) (.seq (.own 6 (.lst (.cons (.told (.dcall 77 (.cons (.var 0) (.cons (.var 1) (.cons (.var 2) (.cons (.var 3) (.cons (.var 5) (.cons .non .nil)))))))) .nil)))
 (.seq (.app 6 (.told (.dcall 77 (.cons (.var 0) (.cons (.var 1) (.cons (.var 2) (.cons (.var 3) (.cons (.var 4) (.cons (.var 5) .nil)))))))))
 (.seq (.ite (.cmp .ne (.pk 6) (.bin .mul (.lst (.cons (.tup (.cons (.str "refused") (.cons (.str "BadPool") .nil))) .nil)) (.int 2))) (.seq (.ret (.bl false))
 .skip) .skip)
 .skip))))
 (.seq (.ret (.bl true))
 .skip))⟩
abbrev c__law_pools_refused : List Nat := [77, 81]
abbrev k__law_pools_refused : List Str := []
abbrev i_is_bound : Nat := 83
def d_is_bound : Df := ⟨"is_bound", 1, ["thing", "one"],
 (.seq (.ite (.orE (.notE (.isi (.var 0) .tuple)) (.orE (.cmp .ne (.blt .len (.cons (.var 0) .nil)) (.int 2)) (.notE (.blt .all (.cons (.comp [("one", 1)] (.dcall 0 (.cons (.var 1) (.cons (.int 0) (.cons (.glob "MOST") .nil)))) (.name 1) (.walk (.var 0)) .nop) .nil))))) (.seq (.ret (.bl false))
 .skip) .skip)
 (.seq (.ret (.cmp .le (.ix (.var 0) (.int 0)) (.ix (.var 0) (.int 1))))
 .skip))⟩
abbrev c_is_bound : List Nat := [0, 83]
abbrev k_is_bound : List Str := ["MOST"]
abbrev i_need_bounds : Nat := 84
def d_need_bounds : Df := ⟨"need_bounds", 2, ["shore", "bounds", "one"],
 (.seq (.ite (.orE (.notE (.isi (.var 1) .tuple)) (.orE (.cmp .ne (.blt .len (.cons (.var 1) .nil)) (.blt .len (.cons (.ix (.var 0) (.int 0)) .nil))) (.notE (.blt .all (.cons (.comp [("one", 2)] (.dcall 83 (.cons (.var 2) .nil)) (.name 2) (.walk (.var 1)) .nop) .nil))))) (.seq (.rais "BadBounds")
 .skip) .skip)
 .skip)⟩
abbrev c_need_bounds : List Nat := [0, 83, 84]
abbrev k_need_bounds : List Str := ["MOST"]
abbrev i_need_two_v1 : Nat := 85
def d_need_two_v1 : Df := ⟨"need_two", 3, ["shore", "before", "after"],
 (.seq (.expr (.dcall 6 (.cons (.var 0) .nil)))
 (.seq (.expr (.dcall 84 (.cons (.var 0) (.cons (.var 1) .nil))))
 (.seq (.expr (.dcall 84 (.cons (.var 0) (.cons (.var 2) .nil))))
 .skip)))⟩
abbrev c_need_two_v1 : List Nat := [0, 1, 2, 3, 4, 5, 6, 83, 84, 85]
abbrev k_need_two_v1 : List Str := ["HIGHEST", "MOST", "SMALL"]
abbrev i_sums_of : Nat := 86
def d_sums_of : Df := ⟨"sums_of", 3, ["shore", "bounds", "lot", "lows", "low", "high"],
 (.seq (.set 3 (.blt .tuple (.cons (.comp [("low", 4), ("high", 5)] (.var 4) (.tcons (.name 4) (.tcons (.name 5) .tnil)) (.walk (.var 1)) .nop) .nil)))
 (.seq (.ret (.tup (.cons (.dcall 17 (.cons (.var 0) (.cons (.var 3) (.cons (.var 2) .nil)))) (.cons (.dcall 17 (.cons (.var 0) (.cons (.blt .tuple (.cons (.comp [("low", 4), ("high", 5)] (.var 5) (.tcons (.name 4) (.tcons (.name 5) .tnil)) (.walk (.var 1)) .nop) .nil)) (.cons (.var 2) .nil)))) .nil))))
 .skip))⟩
abbrev c_sums_of : List Nat := [17, 86]
abbrev k_sums_of : List Str := []
abbrev i_is_barred : Nat := 87
def d_is_barred : Df := ⟨"is_barred", 4, ["shore", "before", "after", "lot", "one", "other"],
 (.seq (.par [(4, false), (5, false)] (.cons (.dcall 86 (.cons (.var 0) (.cons (.var 1) (.cons (.var 3) .nil)))) (.cons (.dcall 86 (.cons (.var 0) (.cons (.var 2) (.cons (.var 3) .nil)))) .nil)))
 (.seq (.ret (.cmp .gt (.blt .max (.cons (.ix (.var 4) (.int 0)) (.cons (.ix (.var 5) (.int 0)) .nil))) (.blt .min (.cons (.ix (.var 4) (.int 1)) (.cons (.ix (.var 5) (.int 1)) .nil)))))
 .skip))⟩
abbrev c_is_barred : List Nat := [17, 86, 87]
abbrev k_is_barred : List Str := []
abbrev i_all_barred : Nat := 88
def d_all_barred : Df := ⟨"all_barred", 4, ["shore", "before", "after", "height", "lot"],
 (.seq (.ret (.comp [("lot", 4)] (.var 4) (.name 4) (.walk (.dcall 8 (.cons (.var 0) (.cons (.var 3) .nil)))) (.part (.dcall 87 (.cons (.var 0) (.cons (.var 1) (.cons (.var 2) (.cons (.var 4) .nil))))))))
 .skip)⟩
abbrev c_all_barred : List Nat := [8, 17, 86, 87, 88]
abbrev k_all_barred : List Str := []
abbrev i_may_follow : Nat := 89
def d_may_follow : Df := ⟨"may_follow", 4, ["shore", "before", "after", "height"],
 (.seq (.expr (.dcall 85 (.cons (.var 0) (.cons (.var 1) (.cons (.var 2) .nil)))))
 (.seq (.expr (.dcall 7 (.cons (.var 3) .nil)))
 (.seq (.ret (.cmp .eq (.dcall 88 (.cons (.var 0) (.cons (.var 1) (.cons (.var 2) (.cons (.var 3) .nil))))) (.lst .nil)))
 .skip)))⟩
abbrev c_may_follow : List Nat := [0, 1, 2, 3, 4, 5, 6, 7, 8, 17, 83, 84, 85, 86, 87, 88, 89]
abbrev k_may_follow : List Str := ["HIGHEST", "MOST", "SMALL"]
abbrev i_least_between : Nat := 90
def d_least_between : Df := ⟨"least_between", 3, ["shore", "before", "after", "some", "height"],
 (.seq (.expr (.dcall 85 (.cons (.var 0) (.cons (.var 1) (.cons (.var 2) .nil)))))
 (.seq (.set 3 (.comp [("height", 4)] (.var 4) (.name 4) (.rng (.cons (.bin .add (.glob "HIGHEST") (.int 1)) .nil)) (.part (.cmp .eq (.dcall 88 (.cons (.var 0) (.cons (.var 1) (.cons (.var 2) (.cons (.var 4) .nil))))) (.lst .nil)))))
 (.seq (.ret (.ife (.cmp .ne (.var 3) (.lst .nil)) (.ix (.var 3) (.int 0)) .non))
 .skip)))⟩
abbrev c_least_between : List Nat := [0, 1, 2, 3, 4, 5, 6, 8, 17, 83, 84, 85, 86, 87, 88, 90]
abbrev k_least_between : List Str := ["HIGHEST", "MOST", "SMALL"]
abbrev i_barring_lot : Nat := 91
def d_barring_lot : Df := ⟨"barring_lot", 4, ["shore", "before", "after", "height", "some"],
 (.seq (.expr (.dcall 85 (.cons (.var 0) (.cons (.var 1) (.cons (.var 2) .nil)))))
 (.seq (.expr (.dcall 7 (.cons (.var 3) .nil)))
 (.seq (.set 4 (.dcall 88 (.cons (.var 0) (.cons (.var 1) (.cons (.var 2) (.cons (.var 3) .nil))))))
 (.seq (.ret (.ife (.cmp .ne (.var 4) (.lst .nil)) (.ix (.var 4) (.int 0)) .non))
 .skip))))⟩
abbrev c_barring_lot : List Nat := [0, 1, 2, 3, 4, 5, 6, 7, 8, 17, 83, 84, 85, 86, 87, 88, 91]
abbrev k_barring_lot : List Str := ["HIGHEST", "MOST", "SMALL"]
abbrev i__law_all_keeping : Nat := 92
def d__law_all_keeping : Df := ⟨"_law_all_keeping", 1, ["bounds", "found", "low", "high", "longer", "row", "many"],
 (.seq (.set 1 (.lst (.cons (.tup .nil) .nil)))
 (.seq (.forr (.tcons (.name 2) (.tcons (.name 3) .tnil)) (.walk (.var 0)) (.seq (.set 4 (.lst .nil))
 (.seq (.forr (.name 5) (.walk (.var 1)) (.seq (.set 4 (.bin .add (.var 4) (.comp [("many", 6)] (.bin .add (.var 5) (.tup (.cons (.var 6) .nil))) (.name 6) (.rng (.cons (.var 2) (.cons (.bin .add (.var 3) (.int 1)) .nil))) .nop)))
 .skip))
 (.seq (.set 1 (.var 4))
 .skip))))
 (.seq (.ret (.var 1))
 .skip)))⟩
abbrev c__law_all_keeping : List Nat := [92]
abbrev k__law_all_keeping : List Str := []
abbrev i__law_sums : Nat := 93
def d__law_sums : Df := ⟨"_law_sums", 3, ["shore", "rows", "height", "row", "lot"],
 (.seq (.ret (.sset (.comp [("row", 3)] (.blt .tuple (.cons (.comp [("lot", 4)] (.dcall 59 (.cons (.var 0) (.cons (.var 3) (.cons (.var 4) .nil)))) (.name 4) (.walk (.dcall 48 (.cons (.var 0) (.cons (.var 2) .nil)))) .nop) .nil)) (.name 3) (.walk (.var 1)) .nop)))
 .skip)⟩
abbrev c__law_sums : List Nat := [47, 48, 59, 93]
abbrev k__law_sums : List Str := []
abbrev i__law_bounds_refused : Nat := 94
def d__law_bounds_refused : Df := ⟨"_law_bounds_refused", 3, ["shore", "before", "after", "cases", "bad", "made"],
 (.seq (.set 3 (.lst (.cons .non (.cons (.int 5) (.cons (.tup .nil) (.cons (.blt .list (.cons (.var 1) .nil)) (.cons (.sl (.var 1) (.part (.int 1)) .nop) (.cons (.bin .mul (.tup (.cons .non .nil)) (.blt .len (.cons (.var 1) .nil))) .nil))))))))
 (.seq (.set 3 (.bin .add (.var 3) (.lst (.cons (.bin .mul (.tup (.cons (.tup (.cons (.int 2) (.cons (.int 1) .nil))) .nil)) (.blt .len (.cons (.var 1) .nil))) (.cons (.bin .mul (.tup (.cons (.tup (.cons (.int 0) (.cons (.int 10) .nil))) .nil)) (.blt .len (.cons (.var 1) .nil))) (.cons (.bin .mul (.tup (.cons (.tup (.cons (.int 0) .nil)) .nil)) (.blt .len (.cons (.var 1) .nil))) .nil))))))
 (.seq (.set 3 (.bin .add (.var 3) (.lst (.cons (.bin .mul (.tup (.cons (.lst (.cons (.int 0) (.cons (.int 1) .nil))) .nil)) (.blt .len (.cons (.var 1) .nil))) .nil))))
 (.seq (.forr (.name 4) (.walk (.var 3)) (.seq (.own 5 (.lst (.cons (.told (.dcall 89 (.cons (.var 0) (.cons (.var 4) (.cons .non (.cons .non .nil)))))) .nil)))
 (.seq (.app 5 (.told (.dcall 90 (.cons (.var 0) (.cons (.var 1) (.cons (.var 4) .nil))))))
 (.seq (.ite (.cmp .ne (.bin .add (.pk 5) (.lst (.cons (.told (.dcall 91 (.cons (.var 0) (.cons (.var 4) (.cons (.var 2) (.cons .non .nil)))))) .nil))) (.bin .mul (.lst (.cons (.tup (.cons (.str "refused") (.cons (.str "BadBounds") .nil))) .nil)) (.int 3))) (.seq (.ret (.bl false))
 .skip) .skip)
 .skip))))
 (.seq (.ret (.bl true))
 .skip)))))⟩
abbrev c__law_bounds_refused : List Nat := [0, 1, 2, 3, 4, 5, 6, 7, 8, 17, 83, 84, 85, 86, 87, 88, 89, 90, 91, 94]
abbrev k__law_bounds_refused : List Str := ["HIGHEST", "MOST", "SMALL"]
abbrev i_is_day : Nat := 96
def d_is_day : Df := ⟨"is_day", 2, ["shore", "thing", "one"],
 (.seq (.ite (.orE (.notE (.isi (.var 1) .tuple)) (.cmp .ne (.blt .len (.cons (.var 1) .nil)) (.blt .len (.cons (.ix (.var 0) (.int 0)) .nil)))) (.seq (.ret (.bl false))
 .skip) .skip)
 (.seq (.ret (.blt .all (.cons (.comp [("one", 2)] (.orE (.cmp .iss (.var 2) .non) (.dcall 0 (.cons (.var 2) (.cons (.int 0) (.cons (.glob "MOST") .nil))))) (.name 2) (.walk (.var 1)) .nop) .nil)))
 .skip))⟩
abbrev c_is_day : List Nat := [0, 96]
abbrev k_is_day : List Str := ["MOST"]
abbrev i_need_days : Nat := 97
def d_need_days : Df := ⟨"need_days", 2, ["shore", "days", "one"],
 (.seq (.expr (.dcall 6 (.cons (.var 0) .nil)))
 (.seq (.ite (.orE (.notE (.isi (.var 1) .list)) (.orE (.notE (.chain .le .le (.int 2) (.blt .len (.cons (.var 1) .nil)) (.int 4))) (.notE (.blt .all (.cons (.comp [("one", 2)] (.dcall 96 (.cons (.var 0) (.cons (.var 2) .nil))) (.name 2) (.walk (.var 1)) .nop) .nil))))) (.seq (.rais "BadDays")
 .skip) .skip)
 .skip))⟩
abbrev c_need_days : List Nat := [0, 1, 2, 3, 4, 5, 6, 96, 97]
abbrev k_need_days : List Str := ["HIGHEST", "MOST", "SMALL"]
abbrev i_need_heights : Nat := 98
def d_need_heights : Df := ⟨"need_heights", 2, ["days", "heights", "one"],
 (.seq (.ite (.orE (.notE (.isi (.var 1) .tuple)) (.cmp .ne (.blt .len (.cons (.var 1) .nil)) (.bin .sub (.blt .len (.cons (.var 0) .nil)) (.int 1)))) (.seq (.rais "BadHeight")
 .skip) .skip)
 (.seq (.ite (.notE (.blt .all (.cons (.comp [("one", 2)] (.dcall 0 (.cons (.var 2) (.cons (.int 0) (.cons (.glob "HIGHEST") .nil)))) (.name 2) (.walk (.var 1)) .nop) .nil))) (.seq (.rais "BadHeight")
 .skip) .skip)
 .skip))⟩
abbrev c_need_heights : List Nat := [0, 98]
abbrev k_need_heights : List Str := ["HIGHEST"]
abbrev i_arcs_of : Nat := 100
def d_arcs_of : Df := ⟨"arcs_of", 3, ["shore", "days", "heights", "found", "day", "row", "pool", "many", "low", "high"],
 (.seq (.own 3 (.lst .nil))
 (.seq (.forr (.tcons (.name 4) (.tcons (.name 5) .tnil)) (.enum (.var 1)) (.seq (.forr (.tcons (.name 6) (.tcons (.name 7) .tnil)) (.zip (.ix (.var 0) (.int 0)) (.var 5)) (.seq (.unp (.tcons (.name 8) (.tcons (.name 9) .tnil)) (.ife (.cmp .iss (.var 7) .non) (.tup (.cons (.int 0) (.cons (.glob "MOST_UNCOUNTED") .nil))) (.tup (.cons (.var 7) (.cons (.var 7) .nil)))))
 (.seq (.app 3 (.tup (.cons (.dcall 99 (.cons (.var 0) (.cons (.var 2) (.cons (.bin .sub (.var 4) (.int 1)) (.cons (.var 6) .nil))))) (.cons (.dcall 99 (.cons (.var 0) (.cons (.var 2) (.cons (.var 4) (.cons (.var 6) .nil))))) (.cons (.var 8) (.cons (.var 9) .nil))))))
 .skip)))
 .skip))
 (.seq (.frz 3)
 (.seq (.ret (.var 3))
 .skip))))⟩
abbrev c_arcs_of : List Nat := [99, 100]
abbrev k_arcs_of : List Str := ["MOST_UNCOUNTED"]
abbrev i_can_be : Nat := 102
def d_can_be : Df := ⟨"can_be", 3, ["shore", "days", "heights"],
 (.seq (.expr (.dcall 97 (.cons (.var 0) (.cons (.var 1) .nil))))
 (.seq (.expr (.dcall 98 (.cons (.var 1) (.cons (.var 2) .nil))))
 (.seq (.ret (.dcall 101 (.cons (.var 0) (.cons (.var 1) (.cons (.var 2) .nil)))))
 .skip)))⟩
abbrev c_can_be : List Nat := [0, 1, 2, 3, 4, 5, 6, 96, 97, 98, 101, 102]
abbrev k_can_be : List Str := ["HIGHEST", "MOST", "SMALL"]
abbrev i_all_heights : Nat := 103
def d_all_heights : Df := ⟨"all_heights", 2, ["shore", "nights", "some", "one", "other", "high", "found", "night", "longer", "row", "height", "total"],
 (.seq (.set 2 (.sset (.bin .add (.lst (.cons (.int 0) .nil)) (.comp [("one", 3), ("other", 4), ("high", 5)] (.var 5) (.tcons (.name 3) (.tcons (.name 4) (.tcons (.name 5) .tnil))) (.walk (.ix (.var 0) (.int 1))) .nop))))
 (.seq (.set 6 (.lst (.cons (.tup .nil) .nil)))
 (.seq (.forr (.name 7) (.rng (.cons (.var 1) .nil)) (.seq (.set 8 (.lst .nil))
 (.seq (.forr (.name 9) (.walk (.var 6)) (.seq (.set 8 (.bin .add (.var 8) (.comp [("height", 10)] (.bin .add (.var 9) (.tup (.cons (.var 10) .nil))) (.name 10) (.walk (.var 2)) .nop)))
 .skip))
 (.seq (.set 6 (.var 8))
 .skip))))
 (.seq (.ret (.comp [("total", 11), ("row", 9)] (.var 9) (.tcons (.name 11) (.tcons (.name 9) .tnil)) (.walk (.blt .sorted (.cons (.comp [("row", 9)] (.tup (.cons (.blt .sum (.cons (.var 9) .nil)) (.cons (.var 9) .nil))) (.name 9) (.walk (.var 6)) .nop) .nil))) .nop))
 .skip))))⟩
abbrev c_all_heights : List Nat := [103]
abbrev k_all_heights : List Str := []
abbrev i_no_higher : Nat := 104
def d_no_higher : Df := ⟨"no_higher", 2, ["one", "other", "first", "second"],
 (.seq (.ret (.blt .all (.cons (.comp [("first", 2), ("second", 3)] (.cmp .le (.var 2) (.var 3)) (.tcons (.name 2) (.tcons (.name 3) .tnil)) (.zip (.var 0) (.var 1)) .nop) .nil)))
 .skip)⟩
abbrev c_no_higher : List Nat := [104]
abbrev k_no_higher : List Str := []
abbrev i_least_of : Nat := 106
def d_least_of : Df := ⟨"least_of", 3, ["shore", "days", "night", "nights", "height", "heights", "at"],
 (.seq (.expr (.dcall 97 (.cons (.var 0) (.cons (.var 1) .nil))))
 (.seq (.set 3 (.bin .sub (.blt .len (.cons (.var 1) .nil)) (.int 1)))
 (.seq (.ite (.notE (.dcall 0 (.cons (.var 2) (.cons (.int 0) (.cons (.bin .sub (.var 3) (.int 1)) .nil))))) (.seq (.rais "BadHeight")
 .skip) .skip)
 (.seq (.forr (.name 4) (.rng (.cons (.bin .add (.glob "HIGHEST") (.int 1)) .nil)) (.seq (.set 5 (.blt .tuple (.cons (.comp [("at", 6)] (.ife (.cmp .eq (.var 6) (.var 2)) (.var 4) (.glob "HIGHEST")) (.name 6) (.rng (.cons (.var 3) .nil)) .nop) .nil)))
 (.seq (.ite (.dcall 101 (.cons (.var 0) (.cons (.var 1) (.cons (.var 5) .nil)))) (.seq (.ret (.var 4))
 .skip) .skip)
 .skip)))
 (.seq (.ret .non)
 .skip)))))⟩
abbrev c_least_of : List Nat := [0, 1, 2, 3, 4, 5, 6, 96, 97, 101, 106]
abbrev k_least_of : List Str := ["HIGHEST", "MOST", "SMALL"]
abbrev i_need_asked : Nat := 107
def d_need_asked : Df := ⟨"need_asked", 4, ["shore", "days", "heights", "seen", "row", "day"],
 (.seq (.expr (.dcall 97 (.cons (.var 0) (.cons (.var 1) .nil))))
 (.seq (.ite (.blt .any (.cons (.comp [("row", 4)] (.cmp .inn .non (.var 4)) (.name 4) (.walk (.var 1)) .nop) .nil)) (.seq (.rais "BadDays")
 .skip) .skip)
 (.seq (.expr (.dcall 98 (.cons (.var 1) (.cons (.var 2) .nil))))
 (.seq (.ite (.notE (.dcall 101 (.cons (.var 0) (.cons (.var 1) (.cons (.var 2) .nil))))) (.seq (.rais "Nothing")
 .skip) .skip)
 (.seq (.ite (.orE (.notE (.isi (.var 3) .dict)) (.notE (.blt .all (.cons (.comp [("day", 5)] (.dcall 0 (.cons (.var 5) (.cons (.int 0) (.cons (.bin .sub (.blt .len (.cons (.var 1) .nil)) (.int 1)) .nil)))) (.name 5) (.walk (.var 3)) .nop) .nil)))) (.seq (.rais "BadSeen")
 .skip) .skip)
 (.seq (.ite (.notE (.blt .all (.cons (.comp [("day", 5)] (.dcall 3 (.cons (.ix (.var 0) (.int 0)) (.cons (.ix (.var 3) (.var 5)) .nil))) (.name 5) (.walk (.var 3)) .nop) .nil))) (.seq (.rais "BadSeen")
 .skip) .skip)
 .skip))))))⟩
abbrev c_need_asked : List Nat := [0, 1, 2, 3, 4, 5, 6, 96, 97, 98, 101, 107]
abbrev k_need_asked : List Str := ["HIGHEST", "MOST", "SMALL"]
abbrev i_all_goings : Nat := 109
def d_all_goings : Df := ⟨"all_goings", 4, ["shore", "days", "heights", "seen", "found", "pool", "night", "height", "longer", "row", "some"],
 (.seq (.set 4 (.comp [("pool", 5)] (.tup (.cons (.var 5) .nil)) (.name 5) (.walk (.dcall 108 (.cons (.var 0) (.cons (.var 1) (.cons (.var 3) (.cons (.int 0) .nil)))))) .nop))
 (.seq (.forr (.tcons (.name 6) (.tcons (.name 7) .tnil)) (.enum (.var 2)) (.seq (.set 8 (.lst .nil))
 (.seq (.forr (.name 9) (.walk (.var 4)) (.seq (.set 10 (.dcall 108 (.cons (.var 0) (.cons (.var 1) (.cons (.var 3) (.cons (.bin .add (.var 6) (.int 1)) .nil))))))
 (.seq (.set 8 (.bin .add (.var 8) (.comp [("pool", 5)] (.bin .add (.var 9) (.tup (.cons (.var 5) .nil))) (.name 5) (.walk (.var 10)) (.part (.dcall 10 (.cons (.var 0) (.cons (.var 7) (.cons (.ix (.var 9) (.neg (.int 1))) (.cons (.var 5) .nil)))))))))
 .skip)))
 (.seq (.set 4 (.var 8))
 .skip))))
 (.seq (.ret (.var 4))
 .skip)))⟩
abbrev c_all_goings : List Nat := [8, 10, 108, 109]
abbrev k_all_goings : List Str := []
abbrev i_goings : Nat := 110
def d_goings : Df := ⟨"goings", 4, ["shore", "days", "heights", "seen", "found"],
 (.seq (.expr (.dcall 107 (.cons (.var 0) (.cons (.var 1) (.cons (.var 2) (.cons (.var 3) .nil))))))
 (.seq (.set 4 (.dcall 109 (.cons (.var 0) (.cons (.var 1) (.cons (.var 2) (.cons (.var 3) .nil))))))
 (.seq (.ite (.cmp .gt (.blt .len (.cons (.var 4) .nil)) (.glob "MOST_GOINGS")) (.seq (.rais "Full")
 .skip) .skip)
 (.seq (.ret (.var 4))
 .skip))))⟩
abbrev c_goings : List Nat := [0, 1, 2, 3, 4, 5, 6, 8, 10, 96, 97, 98, 101, 107, 108, 109, 110]
abbrev k_goings : List Str := ["HIGHEST", "MOST", "MOST_GOINGS", "SMALL"]
abbrev i__law_let : Nat := 112
def d__law_let : Df := ⟨"_law_let", 3, ["shore", "days", "heights", "sums", "row", "many", "most"],
 (.seq (.set 3 (.comp [("row", 4)] (.blt .sum (.cons (.comp [("many", 5)] (.var 5) (.name 5) (.walk (.var 4)) (.part (.cmp .isn (.var 5) .non))) .nil)) (.name 4) (.walk (.var 1)) .nop))
 (.seq (.forr (.name 6) (.rng (.cons (.blt .max (.cons (.var 3) .nil)) (.cons (.bin .add (.blt .sum (.cons (.var 3) .nil)) (.int 1)) .nil))) (.seq (.ite (.dcall 113 (.cons (.var 0) (.cons (.var 1) (.cons (.var 2) (.cons (.var 6) .nil))))) (.seq (.ret (.bl true))
 .skip) .skip)
 .skip))
 (.seq (.ret (.bl false))
 .skip)))⟩
abbrev c__law_let : List Nat := [112, 113]
abbrev k__law_let : List Str := []
abbrev i__law_days_refused : Nat := 114
def d__law_days_refused : Df := ⟨"_law_days_refused", 2, ["shore", "days", "row", "cases", "bad", "made", "many"],
 (.seq (.set 2 (.ix (.var 1) (.int 0)))
 (.seq (.set 3 (.lst (.cons .non (.cons (.int 5) (.cons (.tup .nil) (.cons (.lst .nil) (.cons (.lst (.cons (.var 2) .nil)) (.cons (.bin .mul (.lst (.cons (.var 2) .nil)) (.int 5)) (.cons (.blt .tuple (.cons (.var 1) .nil)) (.cons (.lst (.cons (.var 2) (.cons (.sl (.var 2) (.part (.int 1)) .nop) .nil))) (.cons (.lst (.cons (.var 2) (.cons (.blt .list (.cons (.var 2) .nil)) .nil))) .nil)))))))))))
 (.seq (.set 3 (.bin .add (.var 3) (.lst (.cons (.lst (.cons (.var 2) (.cons (.bin .mul (.tup (.cons (.int 10) .nil)) (.blt .len (.cons (.var 2) .nil))) .nil))) (.cons (.lst (.cons (.var 2) (.cons (.bin .mul (.tup (.cons (.bl true) .nil)) (.blt .len (.cons (.var 2) .nil))) .nil))) .nil)))))
 (.seq (.forr (.name 4) (.walk (.var 3)) (.seq (.own 5 (.lst (.cons (.told (.dcall 102 (.cons (.var 0) (.cons (.var 4) (.cons .non .nil))))) .nil)))
 (.seq (.app 5 (.told (.dcall 105 (.cons (.var 0) (.cons (.var 4) .nil)))))
 (.seq (.app 5 (.told (.dcall 106 (.cons (.var 0) (.cons (.var 4) (.cons .non .nil))))))
 (.seq (.ite (.cmp .ne (.bin .add (.pk 5) (.lst (.cons (.told (.dcall 110 (.cons (.var 0) (.cons (.var 4) (.cons .non (.cons .non .nil)))))) .nil))) (.bin .mul (.lst (.cons (.tup (.cons (.str "refused") (.cons (.str "BadDays") .nil))) .nil)) (.int 4))) (.seq (.ret (.bl false))
 .skip) .skip)
 .skip)))))
 (.seq (.set 6 (.bin .sub (.blt .len (.cons (.var 1) .nil)) (.int 1)))
 (.seq (.forr (.name 4) (.walk (.lst (.cons .non (.cons (.int 5) (.cons (.lst .nil) (.cons (.bin .mul (.tup (.cons (.int 0) .nil)) (.bin .add (.var 6) (.int 1))) (.cons (.bin .mul (.lst (.cons (.int 0) .nil)) (.var 6)) (.cons (.bin .mul (.tup (.cons (.int 10) .nil)) (.var 6)) (.cons (.bin .mul (.tup (.cons (.neg (.int 1)) .nil)) (.var 6)) (.cons (.bin .mul (.tup (.cons (.bl true) .nil)) (.var 6)) .nil)))))))))) (.seq (.ite (.cmp .ne (.told (.dcall 102 (.cons (.var 0) (.cons (.var 1) (.cons (.var 4) .nil))))) (.tup (.cons (.str "refused") (.cons (.str "BadHeight") .nil)))) (.seq (.ret (.bl false))
 .skip) .skip)
 .skip))
 (.seq (.forr (.name 4) (.walk (.lst (.cons (.neg (.int 1)) (.cons (.var 6) (.cons (.bl true) (.cons .non .nil)))))) (.seq (.ite (.cmp .ne (.told (.dcall 106 (.cons (.var 0) (.cons (.var 1) (.cons (.var 4) .nil))))) (.tup (.cons (.str "refused") (.cons (.str "BadHeight") .nil)))) (.seq (.ret (.bl false))
 .skip) .skip)
 .skip))
 (.seq (.ret (.bl true))
 .skip))))))))⟩
abbrev c__law_days_refused : List Nat := [0, 1, 2, 3, 4, 5, 6, 8, 10, 96, 97, 98, 101, 102, 105, 106, 107, 108, 109, 110, 114]
abbrev k__law_days_refused : List Str := ["HIGHEST", "MOST", "MOST_GOINGS", "SMALL"]
abbrev i__law_each_night_right : Nat := 116
def d__law_each_night_right : Df := ⟨"_law_each_night_right", 3, ["shore", "days", "some", "many", "night", "rest", "own", "height"],
 (.seq (.set 3 (.bin .sub (.blt .len (.cons (.var 1) .nil)) (.int 1)))
 (.seq (.forr (.name 4) (.rng (.cons (.var 3) .nil)) (.seq (.set 5 (.bin .mul (.tup (.cons (.int 9) .nil)) (.bin .sub (.bin .sub (.var 3) (.int 1)) (.var 4))))
 (.seq (.set 6 (.comp [("height", 7)] (.var 7) (.name 7) (.walk (.var 2)) (.part (.dcall 112 (.cons (.var 0) (.cons (.var 1) (.cons (.bin .add (.bin .add (.bin .mul (.tup (.cons (.int 9) .nil)) (.var 4)) (.tup (.cons (.var 7) .nil))) (.var 5)) .nil)))))))
 (.seq (.ite (.cmp .ne (.dcall 106 (.cons (.var 0) (.cons (.var 1) (.cons (.var 4) .nil)))) (.ife (.cmp .ne (.var 6) (.lst .nil)) (.ix (.var 6) (.int 0)) .non)) (.seq (.ret (.bl false))
 .skip) .skip)
 .skip))))
 (.seq (.ret (.bl true))
 .skip)))⟩
abbrev c__law_each_night_right : List Nat := [0, 1, 2, 3, 4, 5, 6, 96, 97, 101, 106, 112, 113, 116]
abbrev k__law_each_night_right : List Str := ["HIGHEST", "MOST", "SMALL"]
abbrev i_law_k06 : Nat := 117
def d_law_k06 : Df := ⟨"law", 1, ["script", "dice", "before", "turn", "many", "heights", "some", "rows", "night", "row", "holes", "shore", "days", "longer", "good", "due", "others_good", "lower", "one", "height", "other", "high", "first", "second"],
 (.seq (.forr (.name 1) (.walk (.dcall 43 (.cons (.var 0) (.cons (.int 2) .nil)))) (.seq (.par [(11, false), (12, true)] (.cons (.dcall 45 (.cons (.var 1) (.cons (.int 3) (.cons (.int 3) .nil)))) (.cons (.lst .nil) .nil)))
 (.seq (.set 2 (.dcall 46 (.cons (.var 1) (.cons (.var 11) (.cons (.int 2) .nil)))))
 (.seq (.forr (.name 3) (.rng (.cons (.bin .add (.int 2) (.dcall 42 (.cons (.var 1) (.cons (.int 2) .nil)))) .nil)) (.seq (.app 12 (.blt .tuple (.cons (.comp [("many", 4)] (.ife (.cmp .eq (.dcall 42 (.cons (.var 1) (.cons (.int 3) .nil))) (.int 0)) .non (.var 4)) (.name 4) (.walk (.var 2)) .nop) .nil)))
 (.seq (.set 2 (.dcall 58 (.cons (.var 1) (.cons (.var 11) (.cons (.var 2) .nil)))))
 .skip)))
 (.seq (.set 4 (.bin .sub (.blt .len (.cons (.pk 12) .nil)) (.int 1)))
 (.seq (.set 5 (.blt .tuple (.cons (.comp [("night", 8)] (.dcall 42 (.cons (.var 1) (.cons (.int 10) .nil))) (.name 8) (.rng (.cons (.var 4) .nil)) .nop) .nil)))
 (.seq (.frz 12)
 (.seq (.ite (.cmp .ne (.dcall 102 (.cons (.var 11) (.cons (.var 12) (.cons (.var 5) .nil)))) (.dcall 112 (.cons (.var 11) (.cons (.var 12) (.cons (.var 5) .nil))))) (.seq (.ret (.bl false))
 .skip) .skip)
 (.seq (.set 6 (.sset (.bin .add (.lst (.cons (.int 0) .nil)) (.comp [("one", 18), ("other", 20), ("high", 21)] (.var 21) (.tcons (.name 18) (.tcons (.name 20) (.tcons (.name 21) .tnil))) (.walk (.ix (.var 11) (.int 1))) .nop))))
 (.seq (.set 7 (.lst (.cons (.tup .nil) .nil)))
 (.seq (.forr (.name 8) (.rng (.cons (.var 4) .nil)) (.seq (.set 13 (.lst .nil))
 (.seq (.forr (.name 9) (.walk (.var 7)) (.seq (.set 13 (.bin .add (.var 13) (.comp [("height", 19)] (.bin .add (.var 9) (.tup (.cons (.var 19) .nil))) (.name 19) (.walk (.var 6)) .nop)))
 .skip))
 (.seq (.set 7 (.var 13))
 .skip))))
 (.seq (.par [(14, false), (15, false)] (.cons (.comp [("row", 9)] (.var 9) (.name 9) (.walk (.var 7)) (.part (.dcall 112 (.cons (.var 11) (.cons (.var 12) (.cons (.var 9) .nil)))))) (.cons (.lst .nil) .nil)))
 (.seq (.forr (.name 9) (.walk (.var 14)) (.seq (.set 16 (.comp [("one", 18)] (.var 18) (.name 18) (.walk (.var 14)) (.part (.cmp .ne (.var 18) (.var 9)))))
 (.seq (.set 17 (.comp [("one", 18)] (.var 18) (.name 18) (.walk (.var 16)) (.part (.cmp .le (.blt .max (.cons (.comp [("first", 22), ("second", 23)] (.bin .sub (.var 22) (.var 23)) (.tcons (.name 22) (.tcons (.name 23) .tnil)) (.zip (.var 18) (.var 9)) .nop) .nil)) (.int 0)))))
 (.seq (.set 15 (.bin .add (.var 15) (.bin .mul (.lst (.cons (.var 9) .nil)) (.blt .int (.cons (.cmp .eq (.var 17) (.lst .nil)) .nil)))))
 .skip))))
 (.seq (.ite (.cmp .ne (.dcall 105 (.cons (.var 11) (.cons (.var 12) .nil))) (.var 15)) (.seq (.ret (.bl false))
 .skip) .skip)
 (.seq (.ite (.notE (.dcall 116 (.cons (.var 11) (.cons (.var 12) (.cons (.var 6) .nil))))) (.seq (.ret (.bl false))
 .skip) .skip)
 (.seq (.set 10 (.comp [("row", 9)] (.var 9) (.name 9) (.walk (.var 12)) (.part (.cmp .inn .non (.var 9)))))
 (.seq (.ite (.andE (.cmp .eq (.var 10) (.lst .nil)) (.cmp .ne (.var 15) (.lst .nil))) (.seq (.ite (.cmp .ne (.var 15) (.lst (.cons (.blt .tuple (.cons (.comp [("night", 8)] (.dcall 24 (.cons (.var 11) (.cons (.ix (.var 12) (.var 8)) (.cons (.ix (.var 12) (.bin .add (.var 8) (.int 1))) .nil)))) (.name 8) (.rng (.cons (.var 4) .nil)) .nop) .nil)) .nil))) (.seq (.ret (.bl false))
 .skip) .skip)
 .skip) .skip)
 (.seq (.ite (.notE (.dcall 115 (.cons (.var 1) (.cons (.var 11) (.cons (.var 12) .nil))))) (.seq (.ret (.bl false))
 .skip) .skip)
 (.seq (.ite (.notE (.dcall 114 (.cons (.var 11) (.cons (.var 12) .nil)))) (.seq (.ret (.bl false))
 .skip) .skip)
 .skip)))))))))))))))))))
 (.seq (.ret (.bl true))
 .skip))⟩
abbrev c_law_k06 : List Nat := [0, 1, 2, 3, 4, 5, 6, 8, 10, 14, 16, 17, 18, 19, 20, 21, 23, 24, 40, 41, 42, 43, 44, 45, 46, 58, 96, 97, 98, 101, 102, 105, 106, 107, 108, 109, 110, 112, 113, 114, 115, 116, 117]
abbrev k_law_k06 : List Str := ["HIGHEST", "MOST", "MOST_GOINGS", "SMALL"]
abbrev i_where : Nat := 118
def d_where : Df := ⟨"where", 5, ["shore", "days", "heights", "seen", "day", "row"],
 (.seq (.expr (.dcall 107 (.cons (.var 0) (.cons (.var 1) (.cons (.var 2) (.cons (.var 3) .nil))))))
 (.seq (.ite (.notE (.dcall 0 (.cons (.var 4) (.cons (.int 0) (.cons (.bin .sub (.blt .len (.cons (.var 1) .nil)) (.int 1)) .nil))))) (.seq (.rais "BadHeight")
 .skip) .skip)
 (.seq (.ret (.sset (.comp [("row", 5)] (.ix (.var 5) (.var 4)) (.name 5) (.walk (.dcall 109 (.cons (.var 0) (.cons (.var 1) (.cons (.var 2) (.cons (.var 3) .nil)))))) .nop)))
 .skip)))⟩
abbrev c_where : List Nat := [0, 1, 2, 3, 4, 5, 6, 8, 10, 96, 97, 98, 101, 107, 108, 109, 118]
abbrev k_where : List Str := ["HIGHEST", "MOST", "SMALL"]
abbrev i_need_ridge : Nat := 122
def d_need_ridge : Df := ⟨"need_ridge", 2, ["shore", "number"],
 (.seq (.ite (.notE (.dcall 0 (.cons (.var 1) (.cons (.int 0) (.cons (.bin .sub (.blt .len (.cons (.ix (.var 0) (.int 1)) .nil)) (.int 1)) .nil))))) (.seq (.rais "BadLot")
 .skip) .skip)
 .skip)⟩
abbrev c_need_ridge : List Nat := [0, 122]
abbrev k_need_ridge : List Str := []
abbrev i_without_ridge : Nat := 123
def d_without_ridge : Df := ⟨"without_ridge", 2, ["shore", "number"],
 (.seq (.ret (.tup (.cons (.ix (.var 0) (.int 0)) (.cons (.bin .add (.sl (.ix (.var 0) (.int 1)) .nop (.part (.var 1))) (.sl (.ix (.var 0) (.int 1)) (.part (.bin .add (.var 1) (.int 1))) .nop)) .nil))))
 .skip)⟩
abbrev c_without_ridge : List Nat := [123]
abbrev k_without_ridge : List Str := []
abbrev i_most_of_ridge : Nat := 124
def d_most_of_ridge : Df := ⟨"most_of_ridge", 5, ["shore", "before", "after", "height", "number"],
 (.seq (.expr (.dcall 25 (.cons (.var 0) (.cons (.var 1) (.cons (.var 2) (.cons (.var 3) .nil))))))
 (.seq (.expr (.dcall 122 (.cons (.var 0) (.cons (.var 4) .nil))))
 (.seq (.ite (.dcall 21 (.cons (.dcall 123 (.cons (.var 0) (.cons (.var 4) .nil))) (.cons (.var 1) (.cons (.var 2) (.cons (.var 3) .nil))))) (.seq (.ret (.glob "HIGHEST"))
 .skip) .skip)
 (.seq (.ret (.ife (.dcall 21 (.cons (.dcall 26 (.cons (.var 0) (.cons (.lst (.cons (.var 4) .nil)) .nil))) (.cons (.var 1) (.cons (.var 2) (.cons (.var 3) .nil))))) (.var 3) .non))
 .skip))))⟩
abbrev c_most_of_ridge : List Nat := [0, 1, 2, 3, 4, 5, 6, 7, 8, 14, 16, 17, 18, 19, 20, 21, 25, 26, 122, 123, 124]
abbrev k_most_of_ridge : List Str := ["HIGHEST", "MOST", "SMALL"]
abbrev i_must_be_low : Nat := 125
def d_must_be_low : Df := ⟨"must_be_low", 5, ["shore", "before", "after", "height", "number"],
 (.seq (.expr (.dcall 25 (.cons (.var 0) (.cons (.var 1) (.cons (.var 2) (.cons (.var 3) .nil))))))
 (.seq (.expr (.dcall 122 (.cons (.var 0) (.cons (.var 4) .nil))))
 (.seq (.ite (.dcall 21 (.cons (.dcall 123 (.cons (.var 0) (.cons (.var 4) .nil))) (.cons (.var 1) (.cons (.var 2) (.cons (.var 3) .nil))))) (.seq (.ret (.bl false))
 .skip) .skip)
 (.seq (.ret (.dcall 21 (.cons (.dcall 26 (.cons (.var 0) (.cons (.lst (.cons (.var 4) .nil)) .nil))) (.cons (.var 1) (.cons (.var 2) (.cons (.var 3) .nil))))))
 .skip))))⟩
abbrev c_must_be_low : List Nat := [0, 1, 2, 3, 4, 5, 6, 7, 8, 14, 16, 17, 18, 19, 20, 21, 25, 26, 122, 123, 125]
abbrev k_must_be_low : List Str := ["HIGHEST", "MOST", "SMALL"]
abbrev i__law_at : Nat := 127
def d__law_at : Df := ⟨"_law_at", 3, ["shore", "number", "high", "ridges"],
 (.seq (.set 3 (.bin .add (.sl (.ix (.var 0) (.int 1)) .nop (.part (.var 1))) (.sl (.ix (.var 0) (.int 1)) (.part (.bin .add (.var 1) (.int 1))) .nop)))
 (.seq (.ite (.cmp .isn (.var 2) .non) (.seq (.set 3 (.blt .tuple (.cons (.blt .sorted (.cons (.bin .add (.var 3) (.tup (.cons (.bin .add (.sl (.ix (.ix (.var 0) (.int 1)) (.var 1)) .nop (.part (.int 2))) (.tup (.cons (.var 2) .nil))) .nil))) .nil)) .nil)))
 .skip) .skip)
 (.seq (.ret (.tup (.cons (.ix (.var 0) (.int 0)) (.cons (.var 3) .nil))))
 .skip)))⟩
abbrev c__law_at : List Nat := [127]
abbrev k__law_at : List Str := []
abbrev i__law_opened_right : Nat := 128
def d__law_opened_right : Df := ⟨"_law_opened_right", 4, ["shore", "before", "after", "height", "lists", "number", "ridge", "row", "good", "due", "numbers", "ridges", "at", "others_good", "lesser", "one", "size"],
 (.seq (.set 4 (.lst (.cons (.lst .nil) .nil)))
 (.seq (.forr (.tcons (.name 5) (.tcons (.name 6) .tnil)) (.enum (.ix (.var 0) (.int 1))) (.seq (.set 4 (.bin .add (.var 4) (.comp [("row", 7)] (.bin .add (.var 7) (.lst (.cons (.var 5) .nil))) (.name 7) (.walk (.var 4)) (.part (.cmp .gt (.ix (.var 6) (.int 2)) (.var 3))))))
 .skip))
 (.seq (.par [(8, true), (9, false)] (.cons (.lst .nil) (.cons (.lst .nil) .nil)))
 (.seq (.forr (.name 10) (.walk (.var 4)) (.seq (.set 11 (.comp [("at", 12), ("ridge", 6)] (.bin .add (.sl (.var 6) .nop (.part (.int 2))) (.tup (.cons (.ife (.cmp .inn (.var 12) (.var 10)) (.int 0) (.ix (.var 6) (.int 2))) .nil))) (.tcons (.name 12) (.tcons (.name 6) .tnil)) (.enum (.ix (.var 0) (.int 1))) .nop))
 (.seq (.ite (.dcall 71 (.cons (.tup (.cons (.ix (.var 0) (.int 0)) (.cons (.blt .tuple (.cons (.var 11) .nil)) .nil))) (.cons (.var 1) (.cons (.var 2) (.cons (.var 3) .nil))))) (.seq (.app 8 (.var 10))
 .skip) .skip)
 .skip)))
 (.seq (.frz 8)
 (.seq (.forr (.name 10) (.walk (.var 8)) (.seq (.set 13 (.comp [("one", 15)] (.var 15) (.name 15) (.walk (.var 8)) (.part (.cmp .ne (.var 15) (.var 10)))))
 (.seq (.set 14 (.comp [("one", 15)] (.var 15) (.name 15) (.walk (.var 13)) (.part (.cmp .eq (.comp [("number", 5)] (.var 5) (.name 5) (.walk (.var 15)) (.part (.cmp .nin (.var 5) (.var 10)))) (.lst .nil)))))
 (.seq (.set 9 (.bin .add (.var 9) (.bin .mul (.lst (.cons (.tup (.cons (.blt .len (.cons (.var 10) .nil)) (.cons (.var 10) .nil))) .nil)) (.blt .int (.cons (.cmp .eq (.var 14) (.lst .nil)) .nil)))))
 .skip))))
 (.seq (.ite (.cmp .ne (.dcall 126 (.cons (.var 0) (.cons (.var 1) (.cons (.var 2) (.cons (.var 3) .nil))))) (.comp [("size", 16), ("numbers", 10)] (.var 10) (.tcons (.name 16) (.tcons (.name 10) .tnil)) (.walk (.blt .sorted (.cons (.var 9) .nil))) .nop)) (.seq (.ret (.bl false))
 .skip) .skip)
 (.seq (.ite (.cmp .ne (.cmp .inn (.lst .nil) (.dcall 126 (.cons (.var 0) (.cons (.var 1) (.cons (.var 2) (.cons (.var 3) .nil)))))) (.dcall 22 (.cons (.var 0) (.cons (.var 1) (.cons (.var 2) (.cons (.var 3) .nil)))))) (.seq (.ret (.bl false))
 .skip) .skip)
 (.seq (.ret (.bl true))
 .skip)))))))))⟩
abbrev c__law_opened_right : List Nat := [0, 1, 2, 3, 4, 5, 6, 7, 8, 14, 16, 17, 18, 19, 20, 21, 22, 47, 48, 59, 71, 126, 128]
abbrev k__law_opened_right : List Str := ["HIGHEST", "MOST", "SMALL"]
abbrev i_law_k08 : Nat := 129
def d_law_k08 : Df := ⟨"law", 1, ["script", "dice", "before", "after", "number", "bad", "shore", "height", "marks", "most", "without_it", "high_one", "made", "high"],
 (.seq (.forr (.name 1) (.walk (.dcall 43 (.cons (.var 0) (.cons (.int 3) .nil)))) (.seq (.par [(6, false), (7, false)] (.cons (.dcall 45 (.cons (.var 1) (.cons (.int 5) (.cons (.int 6) .nil)))) (.cons (.dcall 42 (.cons (.var 1) (.cons (.int 10) .nil))) .nil)))
 (.seq (.set 2 (.dcall 46 (.cons (.var 1) (.cons (.var 6) (.cons (.int 3) .nil)))))
 (.seq (.set 3 (.dcall 58 (.cons (.var 1) (.cons (.var 6) (.cons (.var 2) .nil)))))
 (.seq (.forr (.name 4) (.rng (.cons (.blt .len (.cons (.ix (.var 6) (.int 1)) .nil)) .nil)) (.seq (.set 8 (.comp [("high", 13)] (.dcall 71 (.cons (.dcall 127 (.cons (.var 6) (.cons (.var 4) (.cons (.var 13) .nil)))) (.cons (.var 2) (.cons (.var 3) (.cons (.var 7) .nil))))) (.name 13) (.rng (.cons (.int 10) .nil)) .nop))
 (.seq (.set 9 (.ife (.cmp .inn (.bl true) (.var 8)) (.blt .max (.cons (.comp [("high", 13)] (.var 13) (.name 13) (.rng (.cons (.int 10) .nil)) (.part (.ix (.var 8) (.var 13)))) .nil)) .non))
 (.seq (.ite (.cmp .ne (.dcall 124 (.cons (.var 6) (.cons (.var 2) (.cons (.var 3) (.cons (.var 7) (.cons (.var 4) .nil)))))) (.var 9)) (.seq (.ret (.bl false))
 .skip) .skip)
 (.seq (.set 10 (.dcall 71 (.cons (.dcall 127 (.cons (.var 6) (.cons (.var 4) (.cons .non .nil)))) (.cons (.var 2) (.cons (.var 3) (.cons (.var 7) .nil))))))
 (.seq (.ite (.cmp .ne (.dcall 125 (.cons (.var 6) (.cons (.var 2) (.cons (.var 3) (.cons (.var 7) (.cons (.var 4) .nil)))))) (.andE (.cmp .isn (.var 9) .non) (.notE (.var 10)))) (.seq (.ret (.bl false))
 .skip) .skip)
 (.seq (.set 11 (.dcall 127 (.cons (.var 6) (.cons (.var 4) (.cons (.var 9) .nil)))))
 (.seq (.ite (.andE (.cmp .isn (.var 9) .non) (.andE (.cmp .gt (.var 9) (.int 0)) (.cmp .isn (.dcall 22 (.cons (.var 11) (.cons (.var 2) (.cons (.var 3) (.cons (.var 7) .nil))))) (.bl true)))) (.seq (.ret (.bl false))
 .skip) .skip)
 .skip))))))))
 (.seq (.ite (.notE (.dcall 128 (.cons (.var 6) (.cons (.var 2) (.cons (.var 3) (.cons (.var 7) .nil)))))) (.seq (.ret (.bl false))
 .skip) .skip)
 (.seq (.forr (.name 5) (.walk (.lst (.cons (.neg (.int 1)) (.cons (.blt .len (.cons (.ix (.var 6) (.int 1)) .nil)) (.cons (.bl true) (.cons .non .nil)))))) (.seq (.own 12 (.lst (.cons (.told (.dcall 124 (.cons (.var 6) (.cons (.var 2) (.cons (.var 3) (.cons (.var 7) (.cons (.var 5) .nil))))))) .nil)))
 (.seq (.app 12 (.told (.dcall 125 (.cons (.var 6) (.cons (.var 2) (.cons (.var 3) (.cons (.var 7) (.cons (.var 5) .nil))))))))
 (.seq (.ite (.cmp .ne (.pk 12) (.bin .mul (.lst (.cons (.tup (.cons (.str "refused") (.cons (.str "BadLot") .nil))) .nil)) (.int 2))) (.seq (.ret (.bl false))
 .skip) .skip)
 .skip))))
 .skip)))))))
 (.seq (.ret (.bl true))
 .skip))⟩
abbrev c_law_k08 : List Nat := [0, 1, 2, 3, 4, 5, 6, 7, 8, 14, 16, 17, 18, 19, 20, 21, 22, 25, 26, 40, 41, 42, 43, 44, 45, 46, 47, 48, 58, 59, 71, 122, 123, 124, 125, 126, 127, 128, 129]
abbrev k_law_k08 : List Str := ["HIGHEST", "MOST", "SMALL"]
abbrev i_parting_counts : Nat := 130
def d_parting_counts : Df := ⟨"parting_counts", 2, ["one", "other", "pair", "heights", "shore", "before", "pool", "after", "height"],
 (.seq (.expr (.dcall 29 (.cons (.var 0) (.cons (.var 1) .nil))))
 (.seq (.set 2 (.dcall 30 (.cons (.var 0) (.cons (.var 1) .nil))))
 (.seq (.ite (.cmp .iss (.var 2) .non) (.seq (.ret .non)
 .skip) .skip)
 (.seq (.set 3 (.comp [("shore", 4)] (.dcall 11 (.cons (.var 4) (.cons (.ix (.var 2) (.int 0)) (.cons (.ix (.var 2) (.int 1)) .nil)))) (.name 4) (.walk (.tup (.cons (.var 0) (.cons (.var 1) .nil)))) .nop))
 (.seq (.set 5 (.blt .tuple (.cons (.comp [("pool", 6)] (.blt .int (.cons (.cmp .eq (.var 6) (.ix (.var 2) (.int 0))) .nil)) (.name 6) (.walk (.ix (.var 0) (.int 0))) .nop) .nil)))
 (.seq (.set 7 (.blt .tuple (.cons (.comp [("pool", 6)] (.blt .int (.cons (.cmp .eq (.var 6) (.ix (.var 2) (.int 1))) .nil)) (.name 6) (.walk (.ix (.var 0) (.int 0))) .nop) .nil)))
 (.seq (.ret (.tup (.cons (.var 5) (.cons (.var 7) (.cons (.blt .min (.cons (.comp [("height", 8)] (.var 8) (.name 8) (.walk (.var 3)) (.part (.cmp .isn (.var 8) .non))) .nil)) .nil)))))
 .skip)))))))⟩
abbrev c_parting_counts : List Nat := [0, 1, 2, 3, 4, 5, 8, 10, 11, 29, 30, 130]
abbrev k_parting_counts : List Str := ["HIGHEST", "SMALL"]
abbrev i__law_from : Nat := 131
def d__law_from : Df := ⟨"_law_from", 3, ["shore", "one", "other", "some", "height"],
 (.seq (.set 3 (.comp [("height", 4)] (.var 4) (.name 4) (.rng (.cons (.int 10) .nil)) (.part (.cmp .inn (.var 2) (.dcall 47 (.cons (.var 0) (.cons (.var 4) (.cons (.var 1) .nil))))))))
 (.seq (.ret (.ife (.cmp .ne (.var 3) (.lst .nil)) (.ix (.var 3) (.int 0)) (.int 10)))
 .skip))⟩
abbrev c__law_from : List Nat := [47, 131]
abbrev k__law_from : List Str := []
abbrev i__law_pairs_refused : Nat := 132
def d__law_pairs_refused : Df := ⟨"_law_pairs_refused", 1, ["one", "strange", "bad", "made"],
 (.seq (.set 1 (.tup (.cons (.tup (.cons (.str "ape") (.cons (.str "bee") .nil))) (.cons (.tup .nil) .nil))))
 (.seq (.forr (.name 2) (.walk (.lst (.cons .non (.cons (.int 5) (.cons (.tup .nil) (.cons (.var 1) (.cons (.tup (.cons (.sl (.ix (.var 0) (.int 0)) .nop (.part (.int 1))) (.cons (.tup .nil) .nil))) .nil))))))) (.seq (.own 3 (.lst (.cons (.told (.dcall 31 (.cons (.var 0) (.cons (.var 2) .nil)))) .nil)))
 (.seq (.app 3 (.told (.dcall 130 (.cons (.var 2) (.cons (.var 0) .nil)))))
 (.seq (.ite (.cmp .ne (.pk 3) (.bin .mul (.lst (.cons (.tup (.cons (.str "refused") (.cons (.str "BadShore") .nil))) .nil)) (.int 2))) (.seq (.ret (.bl false))
 .skip) .skip)
 .skip))))
 (.seq (.ret (.bl true))
 .skip)))⟩
abbrev c__law_pairs_refused : List Nat := [0, 1, 2, 3, 4, 5, 8, 10, 11, 29, 30, 31, 130, 132]
abbrev k__law_pairs_refused : List Str := ["HIGHEST", "SMALL"]
abbrev i_law_k09 : Nat := 133
def d_law_k09 : Df := ⟨"law", 1, ["script", "dice", "one", "other", "due", "told_counts", "at", "bent", "first", "second", "turn", "apart", "before", "after", "height"],
 (.seq (.forr (.name 1) (.walk (.dcall 43 (.cons (.var 0) (.cons (.int 3) .nil)))) (.seq (.set 2 (.dcall 45 (.cons (.var 1) (.cons (.int 6) (.cons (.int 10) .nil)))))
 (.seq (.set 3 (.tup (.cons (.ix (.var 2) (.int 0)) (.cons (.dcall 44 (.cons (.var 1) (.cons (.ix (.var 2) (.int 0)) (.cons (.int 10) .nil)))) .nil))))
 (.seq (.ite (.andE (.cmp .eq (.dcall 42 (.cons (.var 1) (.cons (.int 2) .nil))) (.int 0)) (.cmp .ne (.ix (.var 2) (.int 1)) (.tup .nil))) (.seq (.set 6 (.dcall 42 (.cons (.var 1) (.cons (.blt .len (.cons (.ix (.var 2) (.int 1)) .nil)) .nil))))
 (.seq (.set 7 (.bin .add (.sl (.ix (.ix (.var 2) (.int 1)) (.var 6)) .nop (.part (.int 2))) (.tup (.cons (.bin .add (.int 1) (.dcall 42 (.cons (.var 1) (.cons (.int 9) .nil)))) .nil))))
 (.seq (.set 3 (.tup (.cons (.ix (.var 2) (.int 0)) (.cons (.bin .add (.bin .add (.sl (.ix (.var 2) (.int 1)) .nop (.part (.var 6))) (.tup (.cons (.var 7) .nil))) (.sl (.ix (.var 2) (.int 1)) (.part (.bin .add (.var 6) (.int 1))) .nop)) .nil))))
 .skip))) .skip)
 (.seq (.set 4 .non)
 (.seq (.forr (.tcons (.name 6) (.tcons (.name 8) .tnil)) (.enum (.ix (.var 2) (.int 0))) (.seq (.forr (.name 9) (.walk (.sl (.ix (.var 2) (.int 0)) (.part (.bin .add (.var 6) (.int 1))) .nop)) (.seq (.set 11 (.cmp .ne (.dcall 131 (.cons (.var 2) (.cons (.var 8) (.cons (.var 9) .nil)))) (.dcall 131 (.cons (.var 3) (.cons (.var 8) (.cons (.var 9) .nil))))))
 (.seq (.ite (.andE (.cmp .iss (.var 4) .non) (.var 11)) (.seq (.set 4 (.tup (.cons (.var 8) (.cons (.var 9) .nil))))
 .skip) .skip)
 .skip)))
 .skip))
 (.seq (.set 5 (.dcall 130 (.cons (.var 2) (.cons (.var 3) .nil))))
 (.seq (.ite (.orE (.cmp .ne (.dcall 31 (.cons (.var 2) (.cons (.var 3) .nil))) (.var 4)) (.cmp .ne (.dcall 31 (.cons (.var 3) (.cons (.var 2) .nil))) (.var 4))) (.seq (.ret (.bl false))
 .skip) .skip)
 (.seq (.ite (.cmp .ne (.cmp .iss (.var 5) .non) (.cmp .iss (.var 4) .non)) (.seq (.ret (.bl false))
 .skip) .skip)
 (.seq (.ite (.cmp .isn (.var 4) .non) (.seq (.unp (.tcons (.name 12) (.tcons (.name 13) (.tcons (.name 14) .tnil))) (.var 5))
 (.seq (.ite (.cmp .eq (.dcall 22 (.cons (.var 2) (.cons (.var 12) (.cons (.var 13) (.cons (.var 14) .nil))))) (.dcall 22 (.cons (.var 3) (.cons (.var 12) (.cons (.var 13) (.cons (.var 14) .nil)))))) (.seq (.ret (.bl false))
 .skip) .skip)
 (.seq (.ite (.orE (.cmp .isn (.dcall 15 (.cons (.var 2) (.cons (.var 12) .nil))) (.bl true)) (.cmp .isn (.dcall 15 (.cons (.var 2) (.cons (.var 13) .nil))) (.bl true))) (.seq (.ret (.bl false))
 .skip) .skip)
 .skip))) (.seq (.forr (.name 10) (.rng (.cons (.int 6) .nil)) (.seq (.par [(12, false), (14, false)] (.cons (.dcall 46 (.cons (.var 1) (.cons (.var 2) (.cons (.int 4) .nil)))) (.cons (.dcall 42 (.cons (.var 1) (.cons (.int 10) .nil))) .nil)))
 (.seq (.set 13 (.dcall 58 (.cons (.var 1) (.cons (.var 2) (.cons (.var 12) .nil)))))
 (.seq (.ite (.cmp .ne (.dcall 22 (.cons (.var 2) (.cons (.var 12) (.cons (.var 13) (.cons (.var 14) .nil))))) (.dcall 22 (.cons (.var 3) (.cons (.var 12) (.cons (.var 13) (.cons (.var 14) .nil)))))) (.seq (.ret (.bl false))
 .skip) .skip)
 .skip))))
 .skip))
 (.seq (.ite (.orE (.cmp .isn (.dcall 31 (.cons (.var 2) (.cons (.var 2) .nil))) .non) (.cmp .isn (.dcall 130 (.cons (.var 3) (.cons (.var 3) .nil))) .non)) (.seq (.ret (.bl false))
 .skip) .skip)
 (.seq (.ite (.notE (.dcall 132 (.cons (.var 2) .nil))) (.seq (.ret (.bl false))
 .skip) .skip)
 .skip))))))))))))
 (.seq (.ret (.bl true))
 .skip))⟩
abbrev c_law_k09 : List Nat := [0, 1, 2, 3, 4, 5, 6, 7, 8, 10, 11, 14, 15, 16, 17, 18, 19, 20, 21, 22, 29, 30, 31, 40, 41, 42, 43, 44, 45, 46, 47, 58, 130, 131, 132, 133]
abbrev k_law_k09 : List Str := ["HIGHEST", "MOST", "SMALL"]
abbrev i_figure_in : Nat := 135
def d_figure_in : Df := ⟨"figure_in", 1, ["text"],
 (.seq (.ite (.orE (.cmp .ne (.blt .len (.cons (.var 0) .nil)) (.int 1)) (.cmp .nin (.var 0) (.glob "FIGURES"))) (.seq (.rais "BadText")
 .skip) .skip)
 (.seq (.ret (.blt .int (.cons (.var 0) .nil)))
 .skip))⟩
abbrev c_figure_in : List Nat := [135]
abbrev k_figure_in : List Str := ["FIGURES"]
abbrev i_need_text : Nat := 137
def d_need_text : Df := ⟨"need_text", 1, ["text"],
 (.seq (.ite (.notE (.isi (.var 0) .str)) (.seq (.rais "BadText")
 .skip) .skip)
 .skip)⟩
abbrev c_need_text : List Nat := [137]
abbrev k_need_text : List Str := []
abbrev i_read_counts : Nat := 140
def d_read_counts : Df := ⟨"read_counts", 2, ["shore", "text"],
 (.seq (.expr (.dcall 6 (.cons (.var 0) .nil)))
 (.seq (.expr (.dcall 137 (.cons (.var 1) .nil)))
 (.seq (.ret (.dcall 139 (.cons (.var 0) (.cons (.var 1) .nil))))
 .skip)))⟩
abbrev c_read_counts : List Nat := [0, 1, 2, 3, 4, 5, 6, 137, 139, 140]
abbrev k_read_counts : List Str := ["HIGHEST", "SMALL"]
abbrev i__law_spoilt : Nat := 141
def d__law_spoilt : Df := ⟨"_law_spoilt", 3, ["dice", "text", "signs", "at", "act", "sign"],
 (.seq (.par [(3, false), (4, false)] (.cons (.dcall 42 (.cons (.var 0) (.cons (.bin .add (.blt .len (.cons (.var 1) .nil)) (.int 1)) .nil))) (.cons (.dcall 42 (.cons (.var 0) (.cons (.int 3) .nil))) .nil)))
 (.seq (.set 5 (.ife (.cmp .lt (.var 4) (.int 2)) (.ix (.var 2) (.dcall 42 (.cons (.var 0) (.cons (.blt .len (.cons (.var 2) .nil)) .nil)))) (.str "")))
 (.seq (.ret (.bin .add (.bin .add (.sl (.var 1) .nop (.part (.var 3))) (.var 5)) (.sl (.var 1) (.part (.bin .add (.var 3) (.blt .int (.cons (.cmp .gt (.var 4) (.int 0)) .nil)))) .nop)))
 .skip)))⟩
abbrev c__law_spoilt : List Nat := [41, 42, 141]
abbrev k__law_spoilt : List Str := []
abbrev i__law_asked : Nat := 149
def d__law_asked : Df := ⟨"_law_asked", 5, ["shore", "before", "after", "days", "seen_there", "found"],
 (.seq (.set 5 (.lst (.cons (.dcall 9 (.cons (.var 0) (.cons (.int 3) .nil))) (.cons (.lst (.cons (.dcall 24 (.cons (.var 0) (.cons (.var 1) (.cons (.var 2) .nil)))) (.cons (.dcall 53 (.cons (.var 0) (.cons (.var 1) (.cons (.var 2) (.cons (.int 2) .nil))))) .nil))) .nil))))
 (.seq (.set 5 (.bin .add (.var 5) (.lst (.cons (.dcall 105 (.cons (.var 0) (.cons (.var 3) .nil))) (.cons (.dcall 28 (.cons (.var 0) (.cons (.var 1) (.cons (.var 2) (.cons (.int 1) .nil))))) .nil)))))
 (.seq (.set 5 (.bin .add (.var 5) (.lst (.cons (.lst (.cons (.dcall 102 (.cons (.var 0) (.cons (.var 3) (.cons (.tup (.cons (.int 9) .nil)) .nil)))) (.cons (.dcall 106 (.cons (.var 0) (.cons (.var 3) (.cons (.int 0) .nil)))) .nil))) .nil))))
 (.seq (.ite (.dcall 102 (.cons (.var 0) (.cons (.var 3) (.cons (.tup (.cons (.int 9) .nil)) .nil)))) (.seq (.set 5 (.bin .add (.var 5) (.lst (.cons (.dcall 110 (.cons (.var 0) (.cons (.var 3) (.cons (.tup (.cons (.int 9) .nil)) (.cons (.var 4) .nil))))) (.cons (.dcall 118 (.cons (.var 0) (.cons (.var 3) (.cons (.tup (.cons (.int 9) .nil)) (.cons (.var 4) (.cons (.int 1) .nil)))))) .nil)))))
 .skip) .skip)
 (.seq (.ret (.bin .add (.var 5) (.lst (.cons (.lst (.cons (.dcall 36 (.cons (.var 0) (.cons (.var 1) (.cons (.var 2) (.cons (.int 4) .nil))))) (.cons (.dcall 130 (.cons (.var 0) (.cons (.tup (.cons (.ix (.var 0) (.int 0)) (.cons (.tup .nil) .nil))) .nil))) .nil))) .nil))))
 .skip)))))⟩
abbrev c__law_asked : List Nat := [0, 1, 2, 3, 4, 5, 6, 7, 8, 9, 10, 11, 14, 16, 17, 18, 19, 20, 21, 23, 24, 28, 29, 30, 36, 53, 96, 97, 98, 101, 102, 105, 106, 107, 108, 109, 110, 118, 130, 149]
abbrev k__law_asked : List Str := ["HIGHEST", "MOST", "MOST_GOINGS", "SMALL"]
abbrev i__law_higher_right : Nat := 154
def d__law_higher_right : Df := ⟨"_law_higher_right", 4, ["shore", "first", "second", "one", "pools", "higher", "ridge", "lifted", "at", "some", "rest", "pool"],
 (.seq (.set 4 (.ix (.var 0) (.int 0)))
 (.seq (.set 5 (.tup (.cons (.var 4) (.cons (.blt .tuple (.cons (.comp [("ridge", 6)] (.bin .add (.sl (.var 6) .nop (.part (.int 2))) (.tup (.cons (.bin .add (.ix (.var 6) (.int 2)) (.int 1)) .nil))) (.name 6) (.walk (.ix (.var 0) (.int 1))) (.part (.cmp .lt (.ix (.var 6) (.int 2)) (.int 9)))) .nil)) .nil))))
 (.seq (.set 7 (.dcall 24 (.cons (.var 5) (.cons (.var 1) (.cons (.var 2) .nil)))))
 (.seq (.ite (.andE (.cmp .isn (.var 3) .non) (.andE (.cmp .lt (.var 3) (.int 9)) (.cmp .ne (.var 7) (.ife (.cmp .gt (.var 3) (.int 0)) (.bin .add (.var 3) (.int 1)) (.int 0))))) (.seq (.ret (.bl false))
 .skip) .skip)
 (.seq (.forr (.name 8) (.rng (.cons (.int 3) .nil)) (.seq (.set 9 (.comp [("pool", 11)] (.dcall 13 (.cons (.var 0) (.cons (.ix (.var 4) (.bin .mod (.var 8) (.blt .len (.cons (.var 4) .nil)))) (.cons (.var 11) .nil)))) (.name 11) (.walk (.tup (.cons (.ix (.var 4) (.int 0)) (.cons (.ix (.var 4) (.int 1)) (.cons (.ix (.var 4) (.neg (.int 1))) .nil))))) .nop))
 (.seq (.set 10 (.dcall 13 (.cons (.var 0) (.cons (.ix (.var 4) (.int 0)) (.cons (.ix (.var 4) (.neg (.int 1))) .nil)))))
 (.seq (.ite (.andE (.cmp .isn (.ix (.var 9) (.int 0)) .non) (.andE (.cmp .isn (.ix (.var 9) (.int 2)) .non) (.orE (.cmp .iss (.var 10) .non) (.cmp .gt (.var 10) (.blt .max (.cons (.ix (.var 9) (.int 0)) (.cons (.ix (.var 9) (.int 2)) .nil))))))) (.seq (.ret (.bl false))
 .skip) .skip)
 .skip))))
 (.seq (.ret (.bl true))
 .skip))))))⟩
abbrev c__law_higher_right : List Nat := [0, 1, 2, 3, 4, 5, 6, 8, 10, 11, 12, 13, 14, 16, 17, 18, 19, 20, 21, 23, 24, 154]
abbrev k__law_higher_right : List Str := ["HIGHEST", "MOST", "SMALL"]
abbrev i_law_k15 : Nat := 155
def d_law_k15 : Df := ⟨"law", 1, ["script", "dice", "shore", "first", "second", "third", "both", "pools", "ends", "fresh", "pair", "one", "other", "wider", "more", "ridge", "pool"],
 (.seq (.forr (.name 1) (.walk (.dcall 43 (.cons (.var 0) (.cons (.int 3) .nil)))) (.seq (.set 2 (.dcall 45 (.cons (.var 1) (.cons (.int 6) (.cons (.int 9) .nil)))))
 (.seq (.set 3 (.dcall 46 (.cons (.var 1) (.cons (.var 2) (.cons (.int 3) .nil)))))
 (.seq (.set 4 (.dcall 58 (.cons (.var 1) (.cons (.var 2) (.cons (.var 3) .nil)))))
 (.seq (.set 5 (.dcall 58 (.cons (.var 1) (.cons (.var 2) (.cons (.var 4) .nil)))))
 (.seq (.par [(11, false), (12, false)] (.cons (.dcall 24 (.cons (.var 2) (.cons (.var 3) (.cons (.var 4) .nil)))) (.cons (.dcall 24 (.cons (.var 2) (.cons (.var 4) (.cons (.var 5) .nil)))) .nil)))
 (.seq (.ite (.orE (.cmp .ne (.dcall 24 (.cons (.var 2) (.cons (.var 4) (.cons (.var 3) .nil)))) (.var 11)) (.cmp .ne (.dcall 24 (.cons (.var 2) (.cons (.var 5) (.cons (.var 4) .nil)))) (.var 12))) (.seq (.ret (.bl false))
 .skip) .skip)
 (.seq (.set 6 (.dcall 24 (.cons (.var 2) (.cons (.var 3) (.cons (.var 5) .nil)))))
 (.seq (.ite (.andE (.cmp .isn (.var 11) .non) (.andE (.cmp .isn (.var 12) .non) (.orE (.cmp .iss (.var 6) .non) (.cmp .gt (.var 6) (.blt .max (.cons (.var 11) (.cons (.var 12) .nil))))))) (.seq (.ret (.bl false))
 .skip) .skip)
 (.seq (.ite (.andE (.cmp .isn (.var 11) .non) (.cmp .isn (.var 12) .non)) (.seq (.ite (.cmp .ne (.dcall 105 (.cons (.var 2) (.cons (.lst (.cons (.var 3) (.cons (.var 4) (.cons (.var 5) .nil)))) .nil))) (.lst (.cons (.tup (.cons (.var 11) (.cons (.var 12) .nil))) .nil))) (.seq (.ret (.bl false))
 .skip) .skip)
 (.seq (.ite (.cmp .isn (.dcall 102 (.cons (.var 2) (.cons (.lst (.cons (.var 3) (.cons (.var 4) (.cons (.var 5) .nil)))) (.cons (.tup (.cons (.var 11) (.cons (.var 12) .nil))) .nil)))) (.bl true)) (.seq (.ret (.bl false))
 .skip) .skip)
 .skip)) .skip)
 (.seq (.set 7 (.ix (.var 2) (.int 0)))
 (.seq (.set 8 (.comp [("ridge", 15)] (.sl (.var 15) .nop (.part (.int 2))) (.name 15) (.walk (.ix (.var 2) (.int 1))) .nop))
 (.seq (.set 9 (.comp [("pool", 16)] (.tup (.cons (.ix (.var 7) (.int 0)) (.cons (.var 16) .nil))) (.name 16) (.walk (.sl (.var 7) (.part (.int 1)) .nop)) (.part (.cmp .nin (.tup (.cons (.ix (.var 7) (.int 0)) (.cons (.var 16) .nil))) (.var 8)))))
 (.seq (.forr (.name 10) (.walk (.sl (.var 9) .nop (.part (.int 1)))) (.seq (.set 13 (.tup (.cons (.var 7) (.cons (.blt .tuple (.cons (.blt .sorted (.cons (.bin .add (.ix (.var 2) (.int 1)) (.tup (.cons (.bin .add (.var 10) (.tup (.cons (.bin .add (.int 1) (.dcall 42 (.cons (.var 1) (.cons (.int 9) .nil)))) .nil))) .nil))) .nil)) .nil)) .nil))))
 (.seq (.set 14 (.dcall 24 (.cons (.var 13) (.cons (.var 3) (.cons (.var 4) .nil)))))
 (.seq (.ite (.andE (.cmp .isn (.var 11) .non) (.orE (.cmp .iss (.var 14) .non) (.cmp .gt (.var 14) (.var 11)))) (.seq (.ret (.bl false))
 .skip) .skip)
 .skip))))
 (.seq (.ite (.notE (.dcall 154 (.cons (.var 2) (.cons (.var 3) (.cons (.var 4) (.cons (.var 11) .nil)))))) (.seq (.ret (.bl false))
 .skip) .skip)
 (.seq (.ite (.orE (.cmp .isn (.dcall 22 (.cons (.var 2) (.cons (.var 3) (.cons (.var 3) (.cons (.int 0) .nil))))) (.bl true)) (.cmp .ne (.dcall 24 (.cons (.var 2) (.cons (.var 3) (.cons (.var 3) .nil)))) (.int 0))) (.seq (.ret (.bl false))
 .skip) .skip)
 .skip))))))))))))))))
 (.seq (.ret (.bl true))
 .skip))⟩
abbrev c_law_k15 : List Nat := [0, 1, 2, 3, 4, 5, 6, 7, 8, 10, 11, 12, 13, 14, 16, 17, 18, 19, 20, 21, 22, 23, 24, 40, 41, 42, 43, 44, 45, 46, 58, 96, 97, 98, 101, 102, 105, 154, 155]
abbrev k_law_k15 : List Str := ["HIGHEST", "MOST", "SMALL"]
abbrev i__law_holes_right : Nat := 159
def d__law_holes_right : Df := ⟨"_law_holes_right", 3, ["dice", "shore", "counts", "many", "hole", "days", "heights", "night", "greatest"],
 (.seq (.set 3 (.blt .len (.cons (.ix (.var 1) (.int 0)) .nil)))
 (.seq (.set 4 (.bin .mul (.tup (.cons .non .nil)) (.var 3)))
 (.seq (.set 5 (.lst (.cons (.var 2) (.cons (.var 4) (.cons (.var 4) (.cons (.dcall 46 (.cons (.var 0) (.cons (.var 1) (.cons (.int 3) .nil)))) .nil))))))
 (.seq (.set 6 (.blt .tuple (.cons (.comp [("night", 7)] (.dcall 42 (.cons (.var 0) (.cons (.int 10) .nil))) (.name 7) (.rng (.cons (.int 3) .nil)) .nop) .nil)))
 (.seq (.set 8 (.bin .mul (.tup (.cons (.blt .max (.cons (.var 6) .nil)) .nil)) (.int 3)))
 (.seq (.ite (.andE (.cmp .isn (.dcall 102 (.cons (.var 1) (.cons (.var 5) (.cons (.var 8) .nil)))) (.bl true)) (.dcall 102 (.cons (.var 1) (.cons (.var 5) (.cons (.var 6) .nil))))) (.seq (.ret (.bl false))
 .skip) .skip)
 (.seq (.ite (.cmp .isn (.dcall 102 (.cons (.var 1) (.cons (.lst (.cons (.var 4) (.cons (.var 2) (.cons (.var 4) .nil)))) (.cons (.sl (.var 6) .nop (.part (.int 2))) .nil)))) (.bl true)) (.seq (.ret (.bl false))
 .skip) .skip)
 (.seq (.ite (.cmp .isn (.dcall 102 (.cons (.var 1) (.cons (.bin .mul (.lst (.cons (.var 4) .nil)) (.int 4)) (.cons (.var 6) .nil)))) (.bl true)) (.seq (.ret (.bl false))
 .skip) .skip)
 (.seq (.ite (.andE (.dcall 22 (.cons (.var 1) (.cons (.var 2) (.cons (.ix (.var 5) (.int 3)) (.cons (.ix (.var 6) (.int 1)) .nil))))) (.notE (.dcall 102 (.cons (.var 1) (.cons (.var 5) (.cons (.var 6) .nil)))))) (.seq (.ret (.bl false))
 .skip) .skip)
 (.seq (.ret (.bl true))
 .skip))))))))))⟩
abbrev c__law_holes_right : List Nat := [0, 1, 2, 3, 4, 5, 6, 7, 8, 14, 16, 17, 18, 19, 20, 21, 22, 41, 42, 46, 96, 97, 98, 101, 102, 159]
abbrev k__law_holes_right : List Str := ["HIGHEST", "MOST", "SMALL"]
abbrev i_law_k16 : Nat := 160
def d_law_k16 : Df := ⟨"law", 1, ["script", "dice", "shore", "bad", "cases", "counts", "many", "wide", "lone", "made"],
 (.seq (.forr (.name 1) (.walk (.dcall 43 (.cons (.var 0) (.cons (.int 4) .nil)))) (.seq (.set 2 (.dcall 45 (.cons (.var 1) (.cons (.int 6) (.cons (.int 10) .nil)))))
 (.seq (.par [(5, false), (6, false)] (.cons (.dcall 46 (.cons (.var 1) (.cons (.var 2) (.cons (.int 3) .nil)))) (.cons (.blt .len (.cons (.ix (.var 2) (.int 0)) .nil)) .nil)))
 (.seq (.par [(7, false), (8, false)] (.cons (.blt .tuple (.cons (.bin .mul (.lst (.cons (.tup (.cons (.int 0) (.cons (.int 9) .nil))) .nil)) (.var 6)) .nil)) (.cons (.ix (.ix (.var 2) (.int 0)) (.int 0)) .nil)))
 (.seq (.forr (.name 3) (.walk (.lst (.cons (.neg (.int 1)) (.cons (.bin .add (.int 10) (.dcall 42 (.cons (.var 1) (.cons (.int 5) .nil)))) (.cons (.bl true) (.cons .non (.cons (.str "1") .nil))))))) (.seq (.own 9 (.lst (.cons (.told (.dcall 53 (.cons (.var 2) (.cons (.var 5) (.cons (.var 5) (.cons (.var 3) .nil)))))) .nil)))
 (.seq (.app 9 (.told (.dcall 158 (.cons (.var 2) (.cons (.var 5) (.cons (.var 5) (.cons (.var 3) (.cons (.var 8) (.cons (.var 8) .nil)))))))))
 (.seq (.app 9 (.told (.dcall 89 (.cons (.var 2) (.cons (.var 7) (.cons (.var 7) (.cons (.var 3) .nil)))))))
 (.seq (.app 9 (.told (.dcall 91 (.cons (.var 2) (.cons (.var 7) (.cons (.var 7) (.cons (.var 3) .nil)))))))
 (.seq (.app 9 (.told (.dcall 156 (.cons (.var 2) (.cons (.var 5) (.cons (.var 5) (.cons (.var 3) (.cons .non .nil))))))))
 (.seq (.app 9 (.told (.dcall 157 (.cons (.var 2) (.cons (.var 5) (.cons (.var 5) (.cons (.var 3) (.cons .non .nil))))))))
 (.seq (.ite (.cmp .ne (.pk 9) (.bin .mul (.lst (.cons (.tup (.cons (.str "refused") (.cons (.str "BadHeight") .nil))) .nil)) (.int 6))) (.seq (.ret (.bl false))
 .skip) .skip)
 .skip))))))))
 (.seq (.set 4 (.lst (.cons .non (.cons (.int 5) (.cons (.tup .nil) (.cons (.blt .list (.cons (.var 5) .nil)) (.cons (.bin .add (.var 5) (.tup (.cons (.int 0) .nil))) (.cons (.bin .mul (.tup (.cons (.int 10) .nil)) (.var 6)) (.cons (.bin .mul (.tup (.cons (.neg (.int 1)) .nil)) (.var 6)) (.cons (.bin .mul (.tup (.cons (.bl true) .nil)) (.var 6)) .nil))))))))))
 (.seq (.forr (.name 3) (.walk (.var 4)) (.seq (.own 9 (.lst (.cons (.told (.dcall 53 (.cons (.var 2) (.cons (.var 5) (.cons (.var 3) (.cons .non .nil)))))) .nil)))
 (.seq (.app 9 (.told (.dcall 56 (.cons (.var 2) (.cons (.var 3) (.cons (.var 5) (.cons .non .nil)))))))
 (.seq (.app 9 (.told (.dcall 57 (.cons (.var 2) (.cons (.var 5) (.cons (.var 3) .nil))))))
 (.seq (.app 9 (.told (.dcall 158 (.cons (.var 2) (.cons (.var 3) (.cons (.var 5) (.cons .non (.cons .non (.cons .non .nil)))))))))
 (.seq (.app 9 (.told (.dcall 39 (.cons (.var 2) (.cons (.var 3) (.cons .non .nil))))))
 (.seq (.app 9 (.told (.dcall 156 (.cons (.var 2) (.cons (.var 3) (.cons (.var 5) (.cons .non (.cons .non .nil))))))))
 (.seq (.app 9 (.told (.dcall 157 (.cons (.var 2) (.cons (.var 5) (.cons (.var 3) (.cons .non (.cons .non .nil))))))))
 (.seq (.app 9 (.told (.dcall 28 (.cons (.var 2) (.cons (.var 3) (.cons (.var 5) (.cons .non .nil)))))))
 (.seq (.ite (.cmp .ne (.pk 9) (.bin .mul (.lst (.cons (.tup (.cons (.str "refused") (.cons (.str "BadCounts") .nil))) .nil)) (.int 8))) (.seq (.ret (.bl false))
 .skip) .skip)
 .skip))))))))))
 (.seq (.ite (.notE (.dcall 159 (.cons (.var 1) (.cons (.var 2) (.cons (.var 5) .nil))))) (.seq (.ret (.bl false))
 .skip) .skip)
 .skip))))))))
 (.seq (.ret (.bl true))
 .skip))⟩
abbrev c_law_k16 : List Nat := [0, 1, 2, 3, 4, 5, 6, 7, 8, 14, 16, 17, 18, 19, 20, 21, 22, 23, 28, 39, 40, 41, 42, 43, 44, 45, 46, 53, 54, 55, 56, 57, 83, 84, 85, 86, 87, 88, 89, 91, 96, 97, 98, 101, 102, 156, 157, 158, 159, 160]
abbrev k_law_k16 : List Str := ["HIGHEST", "MOST", "SMALL"]
abbrev i_all_calm : Nat := 161
def d_all_calm : Df := ⟨"all_calm", 2, ["nights", "step", "found", "height", "night", "longer", "row", "low", "high", "total"],
 (.seq (.set 2 (.comp [("height", 3)] (.tup (.cons (.var 3) .nil)) (.name 3) (.rng (.cons (.bin .add (.glob "HIGHEST") (.int 1)) .nil)) .nop))
 (.seq (.forr (.name 4) (.rng (.cons (.bin .sub (.var 0) (.int 1)) .nil)) (.seq (.set 5 (.lst .nil))
 (.seq (.forr (.name 6) (.walk (.var 2)) (.seq (.par [(7, false), (8, false)] (.cons (.blt .max (.cons (.int 0) (.cons (.bin .sub (.ix (.var 6) (.neg (.int 1))) (.var 1)) .nil))) (.cons (.blt .min (.cons (.glob "HIGHEST") (.cons (.bin .add (.ix (.var 6) (.neg (.int 1))) (.var 1)) .nil))) .nil)))
 (.seq (.set 5 (.bin .add (.var 5) (.comp [("height", 3)] (.bin .add (.var 6) (.tup (.cons (.var 3) .nil))) (.name 3) (.rng (.cons (.var 7) (.cons (.bin .add (.var 8) (.int 1)) .nil))) .nop)))
 .skip)))
 (.seq (.set 2 (.var 5))
 .skip))))
 (.seq (.ret (.comp [("total", 9), ("row", 6)] (.var 6) (.tcons (.name 9) (.tcons (.name 6) .tnil)) (.walk (.blt .sorted (.cons (.comp [("row", 6)] (.tup (.cons (.blt .sum (.cons (.var 6) .nil)) (.cons (.var 6) .nil))) (.name 6) (.walk (.var 2)) .nop) .nil))) .nop))
 .skip)))⟩
abbrev c_all_calm : List Nat := [161]
abbrev k_all_calm : List Str := ["HIGHEST"]
abbrev i_first_calm : Nat := 162
def d_first_calm : Df := ⟨"first_calm", 3, ["shore", "days", "step", "row"],
 (.seq (.ite (.notE (.dcall 101 (.cons (.var 0) (.cons (.var 1) (.cons (.bin .mul (.tup (.cons (.glob "HIGHEST") .nil)) (.bin .sub (.blt .len (.cons (.var 1) .nil)) (.int 1))) .nil))))) (.seq (.ret .non)
 .skip) .skip)
 (.seq (.forr (.name 3) (.walk (.dcall 161 (.cons (.bin .sub (.blt .len (.cons (.var 1) .nil)) (.int 1)) (.cons (.var 2) .nil)))) (.seq (.ite (.dcall 101 (.cons (.var 0) (.cons (.var 1) (.cons (.var 3) .nil)))) (.seq (.ret (.var 3))
 .skip) .skip)
 .skip))
 (.seq (.ret .non)
 .skip)))⟩
abbrev c_first_calm : List Nat := [101, 161, 162]
abbrev k_first_calm : List Str := ["HIGHEST"]
abbrev i_calm_heights : Nat := 163
def d_calm_heights : Df := ⟨"calm_heights", 3, ["shore", "days", "step"],
 (.seq (.expr (.dcall 97 (.cons (.var 0) (.cons (.var 1) .nil))))
 (.seq (.ite (.notE (.dcall 0 (.cons (.var 2) (.cons (.int 0) (.cons (.glob "HIGHEST") .nil))))) (.seq (.rais "BadHeight")
 .skip) .skip)
 (.seq (.ret (.dcall 162 (.cons (.var 0) (.cons (.var 1) (.cons (.var 2) .nil)))))
 .skip)))⟩
abbrev c_calm_heights : List Nat := [0, 1, 2, 3, 4, 5, 6, 96, 97, 101, 161, 162, 163]
abbrev k_calm_heights : List Str := ["HIGHEST", "MOST", "SMALL"]
abbrev i_least_step : Nat := 164
def d_least_step : Df := ⟨"least_step", 3, ["shore", "days", "most", "step", "row"],
 (.seq (.expr (.dcall 97 (.cons (.var 0) (.cons (.var 1) .nil))))
 (.seq (.ite (.notE (.dcall 0 (.cons (.var 2) (.cons (.int 0) (.cons (.glob "MOST_SUM") .nil))))) (.seq (.rais "BadHeight")
 .skip) .skip)
 (.seq (.forr (.name 3) (.rng (.cons (.bin .add (.glob "HIGHEST") (.int 1)) .nil)) (.seq (.set 4 (.dcall 162 (.cons (.var 0) (.cons (.var 1) (.cons (.var 3) .nil)))))
 (.seq (.ite (.andE (.cmp .isn (.var 4) .non) (.cmp .le (.blt .sum (.cons (.var 4) .nil)) (.var 2))) (.seq (.ret (.var 3))
 .skip) .skip)
 .skip)))
 (.seq (.ret .non)
 .skip))))⟩
abbrev c_least_step : List Nat := [0, 1, 2, 3, 4, 5, 6, 96, 97, 101, 161, 162, 164]
abbrev k_least_step : List Str := ["HIGHEST", "MOST", "MOST_SUM", "SMALL"]
abbrev i__law_any_days : Nat := 165
def d__law_any_days : Df := ⟨"_law_any_days", 3, ["dice", "shore", "high", "before", "days", "turn", "many"],
 (.seq (.par [(3, false), (4, true)] (.cons (.dcall 46 (.cons (.var 0) (.cons (.var 1) (.cons (.int 1) .nil)))) (.cons (.lst .nil) .nil)))
 (.seq (.forr (.name 5) (.rng (.cons (.bin .add (.int 2) (.dcall 42 (.cons (.var 0) (.cons (.bin .sub (.var 2) (.int 1)) .nil)))) .nil)) (.seq (.app 4 (.blt .tuple (.cons (.comp [("many", 6)] (.ife (.cmp .eq (.dcall 42 (.cons (.var 0) (.cons (.int 3) .nil))) (.int 0)) .non (.var 6)) (.name 6) (.walk (.var 3)) .nop) .nil)))
 (.seq (.set 3 (.dcall 58 (.cons (.var 0) (.cons (.var 1) (.cons (.var 3) .nil)))))
 .skip)))
 (.seq (.frz 4)
 (.seq (.ret (.var 4))
 .skip))))⟩
abbrev c__law_any_days : List Nat := [41, 42, 46, 58, 165]
abbrev k__law_any_days : List Str := []
abbrev i__law_first : Nat := 167
def d__law_first : Df := ⟨"_law_first", 3, ["shore", "days", "step", "good", "row"],
 (.seq (.set 3 (.comp [("row", 4)] (.tup (.cons (.blt .sum (.cons (.var 4) .nil)) (.cons (.var 4) .nil))) (.name 4) (.walk (.dcall 166 (.cons (.bin .sub (.blt .len (.cons (.var 1) .nil)) (.int 1)) (.cons (.var 2) .nil)))) (.part (.dcall 102 (.cons (.var 0) (.cons (.var 1) (.cons (.var 4) .nil)))))))
 (.seq (.ret (.ife (.cmp .ne (.var 3) (.lst .nil)) (.blt .min (.cons (.var 3) .nil)) .non))
 .skip))⟩
abbrev c__law_first : List Nat := [0, 1, 2, 3, 4, 5, 6, 96, 97, 98, 101, 102, 166, 167]
abbrev k__law_first : List Str := ["HIGHEST", "MOST", "SMALL"]
abbrev i__law_known_tides : Nat := 168
def d__law_known_tides : Df := ⟨"_law_known_tides", 0, ["shore", "days", "made", "most"],
 (.seq (.set 0 (.tup (.cons (.tup (.cons (.str "bay") (.cons (.str "cove") (.cons (.str "den") .nil)))) (.cons (.tup (.cons (.tup (.cons (.str "bay") (.cons (.str "den") (.cons (.int 1) .nil)))) (.cons (.tup (.cons (.str "cove") (.cons (.str "den") (.cons (.int 2) .nil)))) .nil))) .nil))))
 (.seq (.set 1 (.lst (.cons (.tup (.cons (.int 1) (.cons (.int 1) (.cons (.int 0) .nil)))) (.cons (.tup (.cons .non (.cons .non (.cons (.int 1) .nil)))) (.cons (.tup (.cons (.int 1) (.cons (.int 0) (.cons (.int 1) .nil)))) .nil)))))
 (.seq (.ite (.orE (.cmp .ne (.dcall 163 (.cons (.var 0) (.cons (.var 1) (.cons (.int 9) .nil)))) (.tup (.cons (.int 2) (.cons (.int 0) .nil)))) (.cmp .ne (.dcall 163 (.cons (.var 0) (.cons (.var 1) (.cons (.int 2) .nil)))) (.tup (.cons (.int 2) (.cons (.int 0) .nil))))) (.seq (.ret (.bl false))
 .skip) .skip)
 (.seq (.ite (.cmp .ne (.dcall 163 (.cons (.var 0) (.cons (.var 1) (.cons (.int 1) .nil)))) (.tup (.cons (.int 1) (.cons (.int 2) .nil)))) (.seq (.ret (.bl false))
 .skip) .skip)
 (.seq (.set 2 (.comp [("most", 3)] (.dcall 164 (.cons (.var 0) (.cons (.var 1) (.cons (.var 3) .nil)))) (.name 3) (.walk (.tup (.cons (.int 1) (.cons (.int 2) (.cons (.int 3) .nil))))) .nop))
 (.seq (.ret (.andE (.cmp .eq (.var 2) (.lst (.cons .non (.cons (.int 2) (.cons (.int 1) .nil))))) (.cmp .eq (.dcall 163 (.cons (.var 0) (.cons (.var 1) (.cons (.int 0) .nil)))) (.tup (.cons (.int 2) (.cons (.int 2) .nil))))))
 .skip))))))⟩
abbrev c__law_known_tides : List Nat := [0, 1, 2, 3, 4, 5, 6, 96, 97, 101, 161, 162, 163, 164, 168]
abbrev k__law_known_tides : List Str := ["HIGHEST", "MOST", "MOST_SUM", "SMALL"]
abbrev i_law_k17 : Nat := 169
def d_law_k17 : Df := ⟨"law", 1, ["script", "dice", "shore", "due", "rows", "good", "bad", "days", "step", "most", "made", "other"],
 (.seq (.forr (.name 1) (.walk (.dcall 43 (.cons (.var 0) (.cons (.int 2) .nil)))) (.seq (.set 2 (.dcall 45 (.cons (.var 1) (.cons (.int 3) (.cons (.int 3) .nil)))))
 (.seq (.par [(7, false), (8, false), (9, false)] (.cons (.dcall 165 (.cons (.var 1) (.cons (.var 2) (.cons (.int 3) .nil)))) (.cons (.dcall 42 (.cons (.var 1) (.cons (.int 10) .nil))) (.cons (.dcall 42 (.cons (.var 1) (.cons (.int 28) .nil))) .nil))))
 (.seq (.ite (.notE (.dcall 168 .nil)) (.seq (.ret (.bl false))
 .skip) .skip)
 (.seq (.set 3 (.dcall 167 (.cons (.var 2) (.cons (.var 7) (.cons (.var 8) .nil)))))
 (.seq (.ite (.cmp .ne (.dcall 163 (.cons (.var 2) (.cons (.var 7) (.cons (.var 8) .nil)))) (.ife (.cmp .isn (.var 3) .non) (.ix (.var 3) (.int 1)) .non)) (.seq (.ret (.bl false))
 .skip) .skip)
 (.seq (.ite (.andE (.cmp .isn (.var 3) .non) (.notE (.dcall 112 (.cons (.var 2) (.cons (.var 7) (.cons (.ix (.var 3) (.int 1)) .nil)))))) (.seq (.ret (.bl false))
 .skip) .skip)
 (.seq (.set 4 (.comp [("other", 11)] (.dcall 167 (.cons (.var 2) (.cons (.var 7) (.cons (.var 11) .nil)))) (.name 11) (.rng (.cons (.int 10) .nil)) .nop))
 (.seq (.set 5 (.comp [("other", 11)] (.var 11) (.name 11) (.rng (.cons (.int 10) .nil)) (.part (.andE (.cmp .isn (.ix (.var 4) (.var 11)) .non) (.cmp .le (.ix (.ix (.var 4) (.var 11)) (.int 0)) (.var 9))))))
 (.seq (.ite (.cmp .ne (.dcall 164 (.cons (.var 2) (.cons (.var 7) (.cons (.var 9) .nil)))) (.ife (.cmp .ne (.var 5) (.lst .nil)) (.ix (.var 5) (.int 0)) .non)) (.seq (.ret (.bl false))
 .skip) .skip)
 (.seq (.ite (.cmp .ne (.cmp .iss (.var 3) .non) (.cmp .iss (.dcall 163 (.cons (.var 2) (.cons (.var 7) (.cons (.int 0) .nil)))) .non)) (.seq (.ret (.bl false))
 .skip) .skip)
 (.seq (.forr (.name 6) (.walk (.lst (.cons (.neg (.int 1)) (.cons (.int 10) (.cons (.bl true) (.cons .non .nil)))))) (.seq (.ite (.cmp .ne (.told (.dcall 163 (.cons (.var 2) (.cons (.var 7) (.cons (.var 6) .nil))))) (.tup (.cons (.str "refused") (.cons (.str "BadHeight") .nil)))) (.seq (.ret (.bl false))
 .skip) .skip)
 .skip))
 (.seq (.forr (.name 6) (.walk (.lst (.cons (.neg (.int 1)) (.cons (.int 28) (.cons (.bl true) (.cons .non .nil)))))) (.seq (.ite (.cmp .ne (.told (.dcall 164 (.cons (.var 2) (.cons (.var 7) (.cons (.var 6) .nil))))) (.tup (.cons (.str "refused") (.cons (.str "BadHeight") .nil)))) (.seq (.ret (.bl false))
 .skip) .skip)
 .skip))
 (.seq (.forr (.name 6) (.walk (.lst (.cons .non (.cons (.tup .nil) (.cons (.lst (.cons (.ix (.var 7) (.int 0)) .nil)) (.cons (.blt .tuple (.cons (.var 7) .nil)) .nil)))))) (.seq (.own 10 (.lst (.cons (.told (.dcall 163 (.cons (.var 2) (.cons (.var 6) (.cons .non .nil))))) .nil)))
 (.seq (.app 10 (.told (.dcall 164 (.cons (.var 2) (.cons (.var 6) (.cons .non .nil))))))
 (.seq (.ite (.cmp .ne (.pk 10) (.bin .mul (.lst (.cons (.tup (.cons (.str "refused") (.cons (.str "BadDays") .nil))) .nil)) (.int 2))) (.seq (.ret (.bl false))
 .skip) .skip)
 .skip))))
 .skip))))))))))))))
 (.seq (.ret (.bl true))
 .skip))⟩
abbrev c_law_k17 : List Nat := [0, 1, 2, 3, 4, 5, 6, 40, 41, 42, 43, 44, 45, 46, 58, 96, 97, 98, 101, 102, 112, 113, 161, 162, 163, 164, 165, 166, 167, 168, 169]
abbrev k_law_k17 : List Str := ["HIGHEST", "MOST", "MOST_SUM", "SMALL"]
abbrev i_need_let : Nat := 170
def d_need_let : Df := ⟨"need_let", 3, ["shore", "days", "heights"],
 (.seq (.expr (.dcall 97 (.cons (.var 0) (.cons (.var 1) .nil))))
 (.seq (.expr (.dcall 98 (.cons (.var 1) (.cons (.var 2) .nil))))
 (.seq (.ite (.notE (.dcall 101 (.cons (.var 0) (.cons (.var 1) (.cons (.var 2) .nil))))) (.seq (.rais "Nothing")
 .skip) .skip)
 .skip)))⟩
abbrev c_need_let : List Nat := [0, 1, 2, 3, 4, 5, 6, 96, 97, 98, 101, 170]
abbrev k_need_let : List Str := ["HIGHEST", "MOST", "SMALL"]
abbrev i_count_between : Nat := 173
def d_count_between : Df := ⟨"count_between", 5, ["shore", "days", "heights", "day", "pool"],
 (.seq (.expr (.dcall 170 (.cons (.var 0) (.cons (.var 1) (.cons (.var 2) .nil)))))
 (.seq (.ite (.notE (.dcall 0 (.cons (.var 3) (.cons (.int 0) (.cons (.bin .sub (.blt .len (.cons (.var 1) .nil)) (.int 1)) .nil))))) (.seq (.rais "BadHeight")
 .skip) .skip)
 (.seq (.expr (.dcall 12 (.cons (.var 0) (.cons (.var 4) .nil))))
 (.seq (.ret (.dcall 172 (.cons (.var 0) (.cons (.var 1) (.cons (.var 2) (.cons (.var 3) (.cons (.var 4) .nil)))))))
 .skip))))⟩
abbrev c_count_between : List Nat := [0, 1, 2, 3, 4, 5, 6, 12, 96, 97, 98, 101, 170, 172, 173]
abbrev k_count_between : List Str := ["HIGHEST", "MOST", "SMALL"]
abbrev i_best_count : Nat := 174
def d_best_count : Df := ⟨"best_count", 3, ["shore", "days", "heights", "best", "found", "day", "row", "pool", "many", "least", "most"],
 (.seq (.expr (.dcall 170 (.cons (.var 0) (.cons (.var 1) (.cons (.var 2) .nil)))))
 (.seq (.unp (.tcons (.name 3) (.tcons (.name 4) .tnil)) (.tup (.cons (.int 0) (.cons .non .nil))))
 (.seq (.forr (.tcons (.name 5) (.tcons (.name 6) .tnil)) (.enum (.var 1)) (.seq (.forr (.tcons (.name 7) (.tcons (.name 8) .tnil)) (.zip (.ix (.var 0) (.int 0)) (.var 6)) (.seq (.ite (.cmp .iss (.var 8) .non) (.seq (.unp (.tcons (.name 9) (.tcons (.name 10) .tnil)) (.dcall 172 (.cons (.var 0) (.cons (.var 1) (.cons (.var 2) (.cons (.var 5) (.cons (.var 7) .nil)))))))
 (.seq (.ite (.cmp .gt (.bin .sub (.var 10) (.var 9)) (.var 3)) (.seq (.par [(3, false), (4, false)] (.cons (.bin .sub (.var 10) (.var 9)) (.cons (.tup (.cons (.var 5) (.cons (.var 7) .nil))) .nil)))
 .skip) .skip)
 .skip)) .skip)
 .skip))
 .skip))
 (.seq (.ret (.var 4))
 .skip))))⟩
abbrev c_best_count : List Nat := [0, 1, 2, 3, 4, 5, 6, 96, 97, 98, 101, 170, 172, 174]
abbrev k_best_count : List Str := ["HIGHEST", "MOST", "SMALL"]
abbrev i_with_ridges : Nat := 176
def d_with_ridges : Df := ⟨"with_ridges", 2, ["shore", "numbers", "number"],
 (.seq (.ret (.tup (.cons (.ix (.var 0) (.int 0)) (.cons (.blt .tuple (.cons (.comp [("number", 2)] (.ix (.ix (.var 0) (.int 1)) (.var 2)) (.name 2) (.walk (.var 1)) .nop) .nil)) .nil))))
 .skip)⟩
abbrev c_with_ridges : List Nat := [176]
abbrev k_with_ridges : List Str := []
abbrev i_do_tell : Nat := 177
def d_do_tell : Df := ⟨"do_tell", 2, ["shore", "numbers", "other", "height"],
 (.seq (.set 2 (.dcall 176 (.cons (.var 0) (.cons (.var 1) .nil))))
 (.seq (.ret (.blt .all (.cons (.comp [("height", 3)] (.cmp .eq (.dcall 8 (.cons (.var 2) (.cons (.var 3) .nil))) (.dcall 8 (.cons (.var 0) (.cons (.var 3) .nil)))) (.name 3) (.rng (.cons (.bin .add (.glob "HIGHEST") (.int 1)) .nil)) .nop) .nil)))
 .skip))⟩
abbrev c_do_tell : List Nat := [8, 176, 177]
abbrev k_do_tell : List Str := ["HIGHEST"]
abbrev i_tells : Nat := 178
def d_tells : Df := ⟨"tells", 2, ["shore", "numbers", "one", "other"],
 (.seq (.expr (.dcall 6 (.cons (.var 0) .nil)))
 (.seq (.ite (.orE (.notE (.isi (.var 1) .tuple)) (.notE (.blt .all (.cons (.comp [("one", 2)] (.dcall 0 (.cons (.var 2) (.cons (.int 0) (.cons (.bin .sub (.blt .len (.cons (.ix (.var 0) (.int 1)) .nil)) (.int 1)) .nil)))) (.name 2) (.walk (.var 1)) .nop) .nil)))) (.seq (.rais "BadLot")
 .skip) .skip)
 (.seq (.ite (.notE (.blt .all (.cons (.comp [("one", 2), ("other", 3)] (.cmp .lt (.var 2) (.var 3)) (.tcons (.name 2) (.tcons (.name 3) .tnil)) (.zip (.var 1) (.sl (.var 1) (.part (.int 1)) .nop)) .nop) .nil))) (.seq (.rais "BadLot")
 .skip) .skip)
 (.seq (.ret (.dcall 177 (.cons (.var 0) (.cons (.var 1) .nil))))
 .skip))))⟩
abbrev c_tells : List Nat := [0, 1, 2, 3, 4, 5, 6, 8, 176, 177, 178]
abbrev k_tells : List Str := ["HIGHEST", "SMALL"]
abbrev i__law_tells : Nat := 182
def d__law_tells : Df := ⟨"_law_tells", 2, ["shore", "numbers", "other", "number", "height"],
 (.seq (.set 2 (.tup (.cons (.ix (.var 0) (.int 0)) (.cons (.blt .tuple (.cons (.comp [("number", 3)] (.ix (.ix (.var 0) (.int 1)) (.var 3)) (.name 3) (.walk (.var 1)) .nop) .nil)) .nil))))
 (.seq (.forr (.name 4) (.rng (.cons (.int 10) .nil)) (.seq (.ite (.cmp .ne (.dcall 48 (.cons (.var 2) (.cons (.var 4) .nil))) (.dcall 48 (.cons (.var 0) (.cons (.var 4) .nil)))) (.seq (.ret (.bl false))
 .skip) .skip)
 .skip))
 (.seq (.ret (.bl true))
 .skip)))⟩
abbrev c__law_tells : List Nat := [47, 48, 182]
abbrev k__law_tells : List Str := []
abbrev i_way_from : Nat := 184
def d_way_from : Df := ⟨"way_from", 4, ["ridges", "one", "other", "seen", "first", "second", "high", "there", "rest"],
 (.seq (.ite (.cmp .eq (.var 1) (.var 2)) (.seq (.ret (.lst (.cons (.var 1) .nil)))
 .skip) .skip)
 (.seq (.forr (.tcons (.name 4) (.tcons (.name 5) (.tcons (.name 6) .tnil))) (.walk (.var 0)) (.seq (.set 7 (.ife (.cmp .eq (.var 4) (.var 1)) (.var 5) (.ife (.cmp .eq (.var 5) (.var 1)) (.var 4) .non)))
 (.seq (.ite (.andE (.cmp .isn (.var 7) .non) (.cmp .nin (.var 7) (.var 3))) (.seq (.set 8 (.dcall 184 (.cons (.var 0) (.cons (.var 7) (.cons (.var 2) (.cons (.bin .add (.var 3) (.lst (.cons (.var 7) .nil))) .nil))))))
 (.seq (.ite (.cmp .isn (.var 8) .non) (.seq (.ret (.bin .add (.lst (.cons (.var 1) .nil)) (.var 8)))
 .skip) .skip)
 .skip)) .skip)
 .skip)))
 (.seq (.ret .non)
 .skip)))⟩
abbrev c_way_from : List Nat := [184]
abbrev k_way_from : List Str := []
abbrev i_way_in : Nat := 185
def d_way_in : Df := ⟨"way_in", 3, ["shore", "one", "other"],
 (.seq (.expr (.dcall 6 (.cons (.var 0) .nil)))
 (.seq (.expr (.dcall 12 (.cons (.var 0) (.cons (.var 1) .nil))))
 (.seq (.expr (.dcall 12 (.cons (.var 0) (.cons (.var 2) .nil))))
 (.seq (.ret (.dcall 184 (.cons (.ix (.dcall 176 (.cons (.var 0) (.cons (.dcall 179 (.cons (.var 0) .nil)) .nil))) (.int 1)) (.cons (.var 1) (.cons (.var 2) (.cons (.lst (.cons (.var 1) .nil)) .nil))))))
 .skip))))⟩
abbrev c_way_in : List Nat := [0, 1, 2, 3, 4, 5, 6, 12, 176, 179, 184, 185]
abbrev k_way_in : List Str := ["HIGHEST", "SMALL"]
abbrev i_law_k21 : Nat := 187
def d_law_k21 : Df := ⟨"law", 1, ["script", "dice", "shore", "days", "heights", "higher", "sums", "least", "tree", "number", "day", "row", "wider", "rest", "pool", "step", "night", "height", "one", "other"],
 (.seq (.forr (.name 1) (.walk (.dcall 43 (.cons (.var 0) (.cons (.int 1) .nil)))) (.seq (.set 2 (.dcall 45 (.cons (.var 1) (.cons (.int 3) (.cons (.int 3) .nil)))))
 (.seq (.set 3 (.dcall 165 (.cons (.var 1) (.cons (.var 2) (.cons (.int 3) .nil)))))
 (.seq (.set 4 (.blt .tuple (.cons (.comp [("night", 16)] (.dcall 42 (.cons (.var 1) (.cons (.int 10) .nil))) (.name 16) (.rng (.cons (.bin .sub (.blt .len (.cons (.var 3) .nil)) (.int 1)) .nil)) .nop) .nil)))
 (.seq (.set 5 (.blt .tuple (.cons (.comp [("height", 17)] (.blt .min (.cons (.int 9) (.cons (.bin .add (.var 17) (.dcall 42 (.cons (.var 1) (.cons (.int 4) .nil)))) .nil))) (.name 17) (.walk (.var 4)) .nop) .nil)))
 (.seq (.ite (.dcall 102 (.cons (.var 2) (.cons (.var 3) (.cons (.var 4) .nil)))) (.seq (.ite (.cmp .isn (.dcall 102 (.cons (.var 2) (.cons (.var 3) (.cons (.var 5) .nil)))) (.bl true)) (.seq (.ret (.bl false))
 .skip) .skip)
 (.seq (.forr (.name 10) (.rng (.cons (.blt .len (.cons (.var 3) .nil)) .nil)) (.seq (.forr (.name 14) (.walk (.ix (.var 2) (.int 0))) (.seq (.set 18 (.dcall 173 (.cons (.var 2) (.cons (.var 3) (.cons (.var 4) (.cons (.var 10) (.cons (.var 14) .nil)))))))
 (.seq (.set 19 (.dcall 173 (.cons (.var 2) (.cons (.var 3) (.cons (.var 5) (.cons (.var 10) (.cons (.var 14) .nil)))))))
 (.seq (.ite (.orE (.cmp .lt (.ix (.var 18) (.int 0)) (.ix (.var 19) (.int 0))) (.cmp .gt (.ix (.var 18) (.int 1)) (.ix (.var 19) (.int 1)))) (.seq (.ret (.bl false))
 .skip) .skip)
 .skip))))
 .skip))
 .skip)) .skip)
 (.seq (.set 6 (.comp [("step", 15)] (.dcall 163 (.cons (.var 2) (.cons (.var 3) (.cons (.var 15) .nil)))) (.name 15) (.walk (.tup (.cons (.int 0) (.cons (.int 1) (.cons (.int 2) (.cons (.int 4) (.cons (.int 9) .nil))))))) .nop))
 (.seq (.forr (.tcons (.name 11) (.tcons (.name 12) .tnil)) (.zip (.var 6) (.sl (.var 6) (.part (.int 1)) .nop)) (.seq (.ite (.orE (.cmp .ne (.cmp .iss (.var 11) .non) (.cmp .iss (.var 12) .non)) (.andE (.cmp .isn (.var 11) .non) (.cmp .gt (.blt .sum (.cons (.var 12) .nil)) (.blt .sum (.cons (.var 11) .nil))))) (.seq (.ret (.bl false))
 .skip) .skip)
 .skip))
 (.seq (.set 7 (.dcall 105 (.cons (.var 2) (.cons (.var 3) .nil))))
 (.seq (.ite (.andE (.cmp .ne (.var 7) (.lst .nil)) (.cmp .ne (.blt .sum (.cons (.ix (.var 6) (.neg (.int 1))) .nil)) (.blt .min (.cons (.comp [("row", 11)] (.blt .sum (.cons (.var 11) .nil)) (.name 11) (.walk (.var 7)) .nop) .nil)))) (.seq (.ret (.bl false))
 .skip) .skip)
 (.seq (.set 8 (.dcall 180 (.cons (.var 2) .nil)))
 (.seq (.forr (.name 9) (.walk (.var 8)) (.seq (.set 13 (.blt .tuple (.cons (.comp [("one", 18)] (.var 18) (.name 18) (.walk (.var 8)) (.part (.cmp .ne (.var 18) (.var 9)))) .nil)))
 (.seq (.ite (.cmp .isn (.dcall 178 (.cons (.var 2) (.cons (.var 13) .nil))) (.bl false)) (.seq (.ret (.bl false))
 .skip) .skip)
 .skip)))
 .skip))))))))))))
 (.seq (.ret (.bl true))
 .skip))⟩
abbrev c_law_k21 : List Nat := [0, 1, 2, 3, 4, 5, 6, 8, 12, 40, 41, 42, 43, 44, 45, 46, 58, 96, 97, 98, 101, 102, 105, 161, 162, 163, 165, 170, 172, 173, 176, 177, 178, 180, 187]
abbrev k_law_k21 : List Str := ["HIGHEST", "MOST", "SMALL"]
def Gtab0 : List (Nat × Df) := [(0, d_is_whole), (1, d_is_word), (2, d_rise), (3, d_is_pool), (4, d_is_ridge), (5, d_is_shore), (6, d_need_shore), (7, d_need_height), (8, d_all_lots), (9, d_lots), (10, d_are_one), (11, d_least_from), (12, d_need_pool), (13, d_one_from), (14, d_are_good_counts), (15, d_are_counts), (16, d_need_counts), (17, d_in_lot), (18, d_need_both), (19, d_is_changed), (20, d_all_changed), (21, d_does_follow), (22, d_follow), (23, d_least_of_night), (24, d_least_height), (25, d_need_all), (26, d_with_low), (27, d_chosen), (29, d_need_two), (30, d_first_parting)]
def Gtab1 : List (Nat × Df) := [(31, d_parting), (34, d_counts_text), (35, d_choices), (37, d_shared_out), (40, d__law_cell), (41, d__law_drawn), (42, d__law_roll), (43, d__law_rounds), (44, d__law_any_ridges), (45, d__law_any_shore), (46, d__law_any_counts), (47, d__law_with), (48, d__law_lots), (49, d__law_is_own_shore), (51, d__law_many_ridges), (52, d_law_k01), (53, d_changed_lot), (54, d_is_lot), (55, d_rim_of), (56, d_shown_by), (57, d_lot_for), (58, d__law_any_after), (59, d__law_sum), (60, d__law_sets), (61, d__law_rim), (62, d__law_lots_refused), (63, d_law_k02), (64, d_is_kind), (65, d_need_kinds), (66, d_all_follow)]
def Gtab2 : List (Nat × Df) := [(67, d_least_for), (68, d_least_for_kinds), (69, d_is_less), (70, d_binding_kinds), (71, d__law_follows), (72, d__law_least), (73, d__law_for), (74, d_law_k03), (75, d_ways_v1), (76, d_lowest), (78, d__law_all_goings), (79, d__law_low), (80, d__law_many_in_a_lot), (81, d__law_pools_refused), (83, d_is_bound), (84, d_need_bounds), (85, d_need_two_v1), (86, d_sums_of), (87, d_is_barred), (88, d_all_barred), (89, d_may_follow), (90, d_least_between), (91, d_barring_lot), (92, d__law_all_keeping), (93, d__law_sums), (94, d__law_bounds_refused), (96, d_is_day), (97, d_need_days), (98, d_need_heights), (100, d_arcs_of)]
def Gtab3 : List (Nat × Df) := [(102, d_can_be), (103, d_all_heights), (104, d_no_higher), (106, d_least_of), (107, d_need_asked), (109, d_all_goings), (110, d_goings), (112, d__law_let), (114, d__law_days_refused), (116, d__law_each_night_right), (117, d_law_k06), (118, d_where), (122, d_need_ridge), (123, d_without_ridge), (124, d_most_of_ridge), (125, d_must_be_low), (127, d__law_at), (128, d__law_opened_right), (129, d_law_k08), (130, d_parting_counts), (131, d__law_from), (132, d__law_pairs_refused), (133, d_law_k09), (135, d_figure_in), (137, d_need_text), (140, d_read_counts), (141, d__law_spoilt), (149, d__law_asked), (154, d__law_higher_right), (155, d_law_k15)]
def Gtab4 : List (Nat × Df) := [(159, d__law_holes_right), (160, d_law_k16), (161, d_all_calm), (162, d_first_calm), (163, d_calm_heights), (164, d_least_step), (165, d__law_any_days), (167, d__law_first), (168, d__law_known_tides), (169, d_law_k17), (170, d_need_let), (173, d_count_between), (174, d_best_count), (176, d_with_ridges), (177, d_do_tell), (178, d_tells), (182, d__law_tells), (184, d_way_from), (185, d_way_in), (187, d_law_k21)]
def Gtab : List (Nat × Df) := Gtab0 ++ Gtab1 ++ Gtab2 ++ Gtab3 ++ Gtab4
def Gcon : List (Str × D) := [("SMALL", .str "abcdefghijklmnopqrstuvwxyz"), ("HIGHEST", .int 9), ("MOST", .int 9), ("MOST_NIGHTS", .int 7), ("MOST_COUNTS", .int 300), ("DEEPEST", .int 4), ("MOST_UNCOUNTED", .int 99), ("MOST_GOINGS", .int 300), ("FIGURES", .str "0123456789"), ("END", .str "#"), ("MOST_SUM", .int 27)]
end LP
namespace LP.Q
open PySem
/-! ### plain facts of the evaluator -/
section
variable {α β : Type} {S S' : Sto}
@[simp] theorem bind_ok (a : α) (f : α → Sto → Re β) : Re.bind (.ok a S) f = f a S := rfl
@[simp] theorem bind_ex (c : Str) (f : α → Sto → Re β) : Re.bind (.ex c S) f = .ex c S := rfl
@[simp] theorem bind_bad (f : α → Sto → Re β) : Re.bind .bad f = .bad := rfl
@[simp] theorem ou_ok (a : α) (f : α → Sto → Ou) : Re.ou (.ok a S) f = f a S := rfl
@[simp] theorem ou_ex (c : Str) (f : α → Sto → Ou) : Re.ou (.ex c S) f = .ex c S := rfl
@[simp] theorem calm_ok (a : α) : Re.calm (.ok a S) = .ok a S := rfl
@[simp] theorem then_nx (ρ : Fr) (f : Fr → Sto → Ou) : Ou.then (.nx ρ S) f = f ρ S := rfl
@[simp] theorem then_rt (d : D) (f : Fr → Sto → Ou) : Ou.then (.rt d S) f = .rt d S := rfl
@[simp] theorem then_ex (c : Str) (f : Fr → Sto → Ou) : Ou.then (.ex c S) f = .ex c S := rfl
@[simp] theorem ofO_some (a : α) : LP.ofO (some a) S = .ok a S := rfl
@[simp] theorem optU_some (a : α) (f : α → Ou) : optU (some a) f = f a := rfl
end
section
variable (Γ : Gam) {ρ : Fr} {S : Sto}
/-- what is found in a slot -/
def frAt (ρ : Fr) (i : Nat) : Option D := match ρ[i]? with
  | some (some (.fz d)) => some d
  | _ => none
def owAt (ρ : Fr) (i : Nat) : Option (List D) := match ρ[i]? with
  | some (some (.ow d)) => some d
  | _ => none
@[simp] theorem ev_var {i : Nat} : ev Γ (.var i) ρ S = LP.ofO (frAt ρ i) S := by
  rw [ev]; unfold frAt; split <;> simp_all [LP.ofO]
@[simp] theorem ev_pk {i : Nat} : ev Γ (.pk i) ρ S = LP.ofO ((owAt ρ i).map .lst) S := by
  rw [ev]; unfold owAt; split <;> simp_all [LP.ofO]
@[simp] theorem frAt_zero {d : D} {r : Fr} : frAt (some (.fz d) :: r) 0 = some d := rfl
@[simp] theorem frAt_succ {a : Option Sl} {r : Fr} {i : Nat} : frAt (a :: r) (i + 1) = frAt r i := by unfold frAt; simp
@[simp] theorem owAt_zero {d : List D} {r : Fr} : owAt (some (.ow d) :: r) 0 = some d := rfl
@[simp] theorem owAt_succ {a : Option Sl} {r : Fr} {i : Nat} : owAt (a :: r) (i + 1) = owAt r i := by unfold owAt; simp
@[simp] theorem ev_non : ev Γ .non ρ S = .ok .non S := by rw [ev]
@[simp] theorem ev_bl {b : Bool} : ev Γ (.bl b) ρ S = .ok (.bl b) S := by rw [ev]
@[simp] theorem ev_int {b : Int} : ev Γ (.int b) ρ S = .ok (.int b) S := by rw [ev]
@[simp] theorem ev_str {b : Str} : ev Γ (.str b) ρ S = .ok (.str b) S := by rw [ev]
@[simp] theorem ev_glob {x : Str} : ev Γ (.glob x) ρ S = LP.ofO (Γ.con x) S := by rw [ev]
@[simp] theorem ev_bin {o : Bop} {a b : Ex} : ev Γ (.bin o a b) ρ S = (ev Γ a ρ S).bind fun x S => (ev Γ b ρ S).bind fun y S => LP.ofO (bin o x y) S := by rw [ev]
@[simp] theorem ev_neg {a : Ex} : ev Γ (.neg a) ρ S = (ev Γ a ρ S).bind fun x S => LP.ofO ((asInt x).map fun i => .int (-i)) S := by rw [ev]
@[simp] theorem ev_cmp {o : Cop} {a b : Ex} : ev Γ (.cmp o a b) ρ S = (ev Γ a ρ S).bind fun x S => (ev Γ b ρ S).bind fun y S => LP.ofO ((cmpD o x y).map .bl) S := by rw [ev]
def chainR (o : Option Bool) (r : Re D) (S : Sto) : Re D := match o with
  | some true => r
  | some false => .ok (.bl false) S
  | none => .bad
@[simp] theorem chainR_some {b : Bool} {r : Re D} : chainR (some b) r S = if b then r else .ok (.bl false) S := by cases b <;> rfl
@[simp] theorem ev_chain {o p : Cop} {a b c : Ex} : ev Γ (.chain o p a b c) ρ S = (ev Γ a ρ S).bind fun x S => (ev Γ b ρ S).bind fun y S => chainR (cmpD o x y) ((ev Γ c ρ S).bind fun z S => LP.ofO ((cmpD p y z).map .bl) S) S := by
  rw [ev]; try rfl
@[simp] theorem ev_not {a : Ex} : ev Γ (.notE a) ρ S = (ev Γ a ρ S).bind fun x S => LP.ofO ((asBl x).map fun b => .bl (!b)) S := by rw [ev]
/-- and, or over what is a truth -/
def andR (x : D) (r : Re D) (S : Sto) : Re D := match x with
  | .bl true => r
  | .bl false => .ok (.bl false) S
  | _ => .bad
def orR (x : D) (r : Re D) (S : Sto) : Re D := match x with
  | .bl true => .ok (.bl true) S
  | .bl false => r
  | _ => .bad
def ifR {α : Type} (x : D) (r q : Re α) : Re α := match x with
  | .bl true => r
  | .bl false => q
  | _ => .bad
@[simp] theorem ev_and {a b : Ex} : ev Γ (.andE a b) ρ S = (ev Γ a ρ S).bind fun x S => andR x (ev Γ b ρ S) S := by
  rw [ev]; try rfl
@[simp] theorem ev_or {a b : Ex} : ev Γ (.orE a b) ρ S = (ev Γ a ρ S).bind fun x S => orR x (ev Γ b ρ S) S := by
  rw [ev]; try rfl
@[simp] theorem ev_ife {c a b : Ex} : ev Γ (.ife c a b) ρ S = (ev Γ c ρ S).bind fun x S => ifR x (if a.isPk then .bad else ev Γ a ρ S) (if b.isPk then .bad else ev Γ b ρ S) := by
  rw [ev]; try rfl
@[simp] theorem andR_bl {b : Bool} {r : Re D} : andR (.bl b) r S = if b then r else .ok (.bl false) S := by cases b <;> rfl
@[simp] theorem orR_bl {b : Bool} {r : Re D} : orR (.bl b) r S = if b then .ok (.bl true) S else r := by cases b <;> rfl
@[simp] theorem ifR_bl {α : Type} {b : Bool} {r q : Re α} : ifR (.bl b) r q = if b then r else q := by cases b <;> rfl
@[simp] theorem ev_tup {a : Ex} : ev Γ (.tup a) ρ S = (evs Γ false a ρ S).bind fun xs S => if xs.length ≤ lim then .ok (.tup xs) S else .bad := by rw [ev]
@[simp] theorem ev_lst {a : Ex} : ev Γ (.lst a) ρ S = (evs Γ false a ρ S).bind fun xs S => if xs.length ≤ lim then .ok (.lst xs) S else .bad := by rw [ev]
@[simp] theorem ev_cell {a : Ex} : ev Γ (.cell a) ρ S = (evs Γ false a ρ S).bind fun xs S => if xs.length ≤ lim then .ok (.obj S.length) (S ++ [.cell xs]) else .bad := by rw [ev]
@[simp] theorem ev_ix {a i : Ex} : ev Γ (.ix a i) ρ S = (ev Γ a ρ S).bind fun x S => (ev Γ i ρ S).bind fun y S => LP.ofO (ixD x y S) S := by rw [ev]
@[simp] theorem ev_sl {a l h : Ex} : ev Γ (.sl a l h) ρ S = (ev Γ a ρ S).bind fun x S => (evo Γ l ρ S).bind fun l S => (evo Γ h ρ S).bind fun h S => LP.ofO (slD x l h) S := by rw [ev]
@[simp] theorem ev_blt {f : Blt} {a : Ex} : ev Γ (.blt f a) ρ S = (evs Γ true a ρ S).bind fun xs S => LP.ofO (blt f xs S) S := by rw [ev]
@[simp] theorem ev_dcall {f : Nat} {a : Ex} : ev Γ (.dcall f a) ρ S = (evs Γ false a ρ S).bind fun xs S => Γ.fn f xs S := by rw [ev]
@[simp] theorem ev_isi {a : Ex} {t : Ty} : ev Γ (.isi a t) ρ S = (ev Γ a ρ S).bind fun x S => LP.ofO ((isi x t).map .bl) S := by rw [ev]
theorem ev_comp {own : List (Str × Nat)} {elt it cnd : Ex} {tg : Tg} : ev Γ (.comp own elt tg it cnd) ρ S = (evi Γ it ρ S).bind fun xs S =>
      if elt.isPk || decide (lim < xs.length) then .bad else
      (turns (fun d => bindT tg d (wipeF ρ (own.map (·.2)))) (fun ρ S => evc Γ cnd ρ S) (fun ρ S => ev Γ elt ρ S) xs S).bind fun ys S => .ok (.lst ys) S := by rw [ev]
/-- what told makes of it -/
def toldR (r : Re D) : Re D := match r with
  | .ok d S1 => .ok d S1
  | .ex c S1 => LP.ofO (tellD c) S1
  | .bad => .bad
@[simp] theorem ev_told {b : Ex} (h : b.isPk = false) : ev Γ (.told b) ρ S = toldR (ev Γ b ρ S) := by
  rw [ev]; unfold toldR; split <;> simp_all
@[simp] theorem toldR_ok {d : D} : toldR (.ok d S) = .ok d S := rfl
@[simp] theorem evs_nil {b : Bool} : evs Γ b .nil ρ S = .ok [] S := by rw [evs]
@[simp] theorem evs_cons {b : Bool} {a r : Ex} : evs Γ b (.cons a r) ρ S = if a.isPk && !b then .bad else (ev Γ a ρ S).bind fun x S => (evs Γ b r ρ S).bind fun xs S => .ok (x :: xs) S := by rw [evs]
@[simp] theorem evo_nop : evo Γ .nop ρ S = .ok none S := by rw [evo]
@[simp] theorem evo_part {e : Ex} : evo Γ (.part e) ρ S = (ev Γ e ρ S).bind fun x S => LP.ofO ((asInt x).map some) S := by rw [evo]
@[simp] theorem evc_nop : evc Γ .nop ρ S = .ok true S := by rw [evc]
@[simp] theorem evc_part {e : Ex} : evc Γ (.part e) ρ S = (ev Γ e ρ S).bind fun x S => LP.ofO (asBl x) S := by rw [evc]
@[simp] theorem evi_rng {a : Ex} : evi Γ (.rng a) ρ S = (evs Γ false a ρ S).bind fun xs S => LP.ofO (rngD xs) S := by rw [evi]
@[simp] theorem evi_enum {a : Ex} : evi Γ (.enum a) ρ S = if a.isPk then .bad else (ev Γ a ρ S).bind fun x S => LP.ofO ((items x).map enumD) S := by rw [evi]
@[simp] theorem evi_zip {a b : Ex} : evi Γ (.zip a b) ρ S = if a.isPk || b.isPk then .bad else (ev Γ a ρ S).bind fun x S => (ev Γ b ρ S).bind fun y S => LP.ofO (zipD x y) S := by rw [evi]
@[simp] theorem evi_walk {a : Ex} : evi Γ (.walk a) ρ S = if a.isPk then .bad else (ev Γ a ρ S).bind fun x S => LP.ofO (walkD x) S := by rw [evi]
@[simp] theorem evT_eq {e : Ex} : evT Γ e ρ S = (ev Γ e ρ S).bind fun x S => LP.ofO (asBl x) S := rfl
@[simp] theorem ex_skip : exec Γ .skip ρ S = .nx ρ S := by rw [exec]
@[simp] theorem ex_seq {a b : Sm} : exec Γ (.seq a b) ρ S = (exec Γ a ρ S).then fun ρ S => exec Γ b ρ S := by rw [exec]
@[simp] theorem ex_set {i : Nat} {e : Ex} : exec Γ (.set i e) ρ S = if e.isPk then .bad else (ev Γ e ρ S).ou fun d S => optU (setF ρ i (.fz d)) fun ρ => .nx ρ S := by rw [exec]
@[simp] theorem ex_own {i : Nat} {e : Ex} : exec Γ (.own i e) ρ S = if e.fresh then (ev Γ e ρ S).ou fun d S => optU ((ownS d).bind (setF ρ i)) fun ρ => .nx ρ S else .bad := by rw [exec]
@[simp] theorem ex_par {is : List (Nat × Bool)} {as : Ex} : exec Γ (.par is as) ρ S = if freshAll is as then (evs Γ false as ρ S).ou fun ds S => optU (setAll is ds ρ) fun ρ => .nx ρ S else .bad := by rw [exec]
@[simp] theorem ex_unp {t : Tg} {e : Ex} : exec Γ (.unp t e) ρ S = if e.isPk then .bad else (ev Γ e ρ S).ou fun d S => optU (bindT t d ρ) fun ρ => .nx ρ S := by rw [exec]
@[simp] theorem ex_app {i : Nat} {e : Ex} : exec Γ (.app i e) ρ S = if e.isPk then .bad else optU (owAt ρ i) fun xs => (ev Γ e ρ S).ou fun d S => if xs.length < lim then .nx (ρ.set i (some (.ow (xs ++ [d])))) S else .bad := by
  rw [exec]; unfold owAt; split <;> (try rfl); split <;> simp_all [optU]
@[simp] theorem ex_pop {j i : Nat} : exec Γ (.pop j i) ρ S = optU (owAt ρ i) fun xs => optU xs.getLast? fun d => optU (setF (ρ.set i (some (.ow xs.dropLast))) j (.fz d)) fun ρ => .nx ρ S := by
  rw [exec]; unfold owAt; split <;> simp_all [optU]
@[simp] theorem ex_popAt {j i : Nat} {e : Ex} : exec Γ (.popAt j i e) ρ S = optU (owAt ρ i) fun xs => (ev Γ e ρ S).ou fun d S => optU (if xs.length ≤ lim then (asInt d).bind (ixAt xs.length) else none) fun k => optU xs[k]? fun d => optU (setF (ρ.set i (some (.ow (xs.eraseIdx k)))) j (.fz d)) fun ρ => .nx ρ S := by
  rw [exec]; unfold owAt; split <;> simp_all [optU]
@[simp] theorem ex_put {o k e : Ex} : exec Γ (.put o k e) ρ S = if e.isPk then .bad else (ev Γ e ρ S).ou fun v S => (ev Γ o ρ S).ou fun x S => (ev Γ k ρ S).ou fun y S => optU (putD x y v S) fun S => .nx ρ S := by rw [exec]
@[simp] theorem ex_ite {c : Ex} {a b : Sm} : exec Γ (.ite c a b) ρ S = (evT Γ c ρ S).ou fun t S => if t then exec Γ a ρ S else exec Γ b ρ S := by rw [exec]
theorem ex_whil {c : Ex} {b : Sm} : exec Γ (.whil c b) ρ S = wloop (fun ρ S => evT Γ c ρ S) (fun ρ S => exec Γ b ρ S) wmost ρ S := by rw [exec]
theorem ex_forr {t : Tg} {it : Ex} {b : Sm} : exec Γ (.forr t it b) ρ S = (evi Γ it ρ S).ou fun xs S => if xs.length ≤ lim then floop (bindT t) (fun ρ S => exec Γ b ρ S) xs ρ S else .bad := by rw [exec]
@[simp] theorem ex_ret {e : Ex} : exec Γ (.ret e) ρ S = if e.isPk then .bad else (ev Γ e ρ S).ou fun d S => .rt d S := by rw [exec]
@[simp] theorem ex_retN : exec Γ .retN ρ S = .rt .non S := by rw [exec]
@[simp] theorem ex_rais {c : Str} : exec Γ (.rais c) ρ S = .ex c S := by rw [exec]
@[simp] theorem ex_expr {e : Ex} : exec Γ (.expr e) ρ S = (ev Γ e ρ S).ou fun _ S => .nx ρ S := by rw [exec]
def frzF (ρ : Fr) (i : Nat) : Fr := match ρ[i]? with
  | some (some (.ow xs)) => ρ.set i (some (.fz (.lst xs)))
  | _ => ρ
@[simp] theorem ex_frz {i : Nat} : exec Γ (.frz i) ρ S = .nx (frzF ρ i) S := by
  rw [exec]; unfold frzF; split <;> simp_all
end
@[simp] theorem frzF_zero {xs : List D} {r : Fr} : frzF (some (.ow xs) :: r) 0 = some (.fz (.lst xs)) :: r := rfl
@[simp] theorem frzF_zero' {d : D} {r : Fr} : frzF (some (.fz d) :: r) 0 = some (.fz d) :: r := rfl
@[simp] theorem frzF_succ {a : Option Sl} {r : Fr} {i : Nat} : frzF (a :: r) (i + 1) = a :: frzF r i := by
  unfold frzF
  simp only [List.getElem?_cons_succ, id_eq]
  split <;> simp_all
@[simp] theorem isPk_var {i : Nat} : (Ex.var i).isPk = false := rfl
end LP.Q
namespace LP.Q
open PySem
/-! ### which defs a program has -/
structure Has (P : Prg) (js : List Nat) (ks : List Str) : Prop where
  d : ∀ j ∈ js, P.tab.lookup j = Gtab.lookup j
  c : ∀ x ∈ ks, P.con x = Gcon.lookup x
theorem Has.mono {P : Prg} {js is : List Nat} {ks ls : List Str} (h : Has P js ks) (h1 : ∀ j ∈ is, j ∈ js) (h2 : ∀ x ∈ ls, x ∈ ks) : Has P is ls := ⟨fun j hj => h.d j (h1 j hj), fun x hx => h.c x (h2 x hx)⟩
theorem Has.call {P : Prg} {js : List Nat} {ks : List Str} (h : Has P js ks) {j : Nat} {d : Df} (hj : j ∈ js) (hd : Gtab.lookup j = some d) (n : Nat) (ds : List D) (S : Sto) : call P (n + 1) j ds S = runDf ⟨P.con, LP.call P n⟩ d ds S := by
  rw [LP.call, h.d j hj, hd]
theorem lookup_filter {α β : Type} [BEq α] [LawfulBEq α] (p : α → Bool) (j : α) (hj : p j = true) : ∀ l : List (α × β), (l.filter fun q => p q.1).lookup j = l.lookup j
  | [] => rfl
  | (k, v) :: l => by
    rw [List.filter_cons]
    by_cases e : (j == k) = true
    · have e2 := eq_of_beq e
      subst e2
      rw [if_pos (by simpa using hj), List.lookup_cons, List.lookup_cons, e]
    · have e : (j == k) = false := by simpa using e
      have e3 : ((k, v) :: l).lookup j = l.lookup j := by rw [List.lookup_cons, e]
      rw [e3]
      split
      · rw [List.lookup_cons, e]
        exact lookup_filter p j hj l
      · exact lookup_filter p j hj l
theorem hasOf {P : Prg} {js : List Nat} {ks : List Str} (h1 : P.tab = Gtab.filter fun p => js.contains p.1) (h2 : ∀ x, P.con x = (Gcon.filter fun p => ks.contains p.1).lookup x) : Has P js ks :=
  ⟨fun j hj => by rw [h1]; exact lookup_filter _ j (by simpa using hj) _, fun x hx => by rw [h2]; exact lookup_filter (fun z => ks.contains z) x (by simpa using hx) _⟩
/-! ### a def's run -/
def ouR (o : Ou) : Re D := match o with
  | .nx _ S' => .ok .non S'
  | .rt x S' => .ok x S'
  | .ex c S' => .ex c S'
  | .bad => .bad
@[simp] theorem ouR_nx {ρ : Fr} {S : Sto} : ouR (.nx ρ S) = .ok .non S := rfl
@[simp] theorem ouR_rt {d : D} {S : Sto} : ouR (.rt d S) = .ok d S := rfl
@[simp] theorem ouR_ex {c : Str} {S : Sto} : ouR (.ex c S) = .ex c S := rfl
theorem runDf_ou {Γ : Gam} {d : Df} {ds : List D} {S : Sto} (h : ds.length = d.npar) : runDf Γ d ds S = ouR (exec Γ d.body (startF d.nm.length ds) S) := by unfold runDf; rw [if_pos h]; rfl
theorem Has.run {P : Prg} {js : List Nat} {ks : List Str} (h : Has P js ks) {j : Nat} {d : Df} (hj : j ∈ js) (hd : Gtab.lookup j = some d) {n : Nat} {ds : List D} {S : Sto} (hl : ds.length = d.npar) :
    LP.call P (n + 1) j ds S = ouR (exec ⟨P.con, LP.call P n⟩ d.body (startF d.nm.length ds) S) := by rw [h.call hj hd, runDf_ou hl]
theorem Has.con {P : Prg} {js : List Nat} {ks : List Str} (h : Has P js ks) {x : Str} {d : D} (hx : x ∈ ks) (e : Gcon.lookup x = some d) : P.con x = some d := by rw [h.c x hx, e]
/-! ### loops -/
theorem turns_map {α : Type} {bnd : D → Option Fr} {cnd : Fr → Sto → Re Bool} {elt : Fr → Sto → Re D} {S : Sto} (e : α → D) (p : α → Bool) (f : α → D) : ∀ (xs : List α), (∀ x ∈ xs, ∃ ρ, bnd (e x) = some ρ ∧ cnd ρ S = .ok (p x) S ∧ (p x = true → elt ρ S = .ok (f x) S)) →
    turns bnd cnd elt (xs.map e) S = .ok ((xs.filter p).map f) S
  | [], _ => rfl
  | x :: xs, h => by
    obtain ⟨ρ, h1, h2, h3⟩ := h x List.mem_cons_self
    have ih := turns_map e p f xs fun y hy => h y (List.mem_cons_of_mem _ hy)
    rw [List.map_cons, turns, h1]
    simp only [h2, calm_ok, bind_ok]
    cases hp : p x with
    | true => simp [h3 hp, ih, List.filter_cons, hp]
    | false => simp [ih, List.filter_cons, hp]
/-- without a test -/
theorem turns_all {α : Type} {bnd : D → Option Fr} {cnd : Fr → Sto → Re Bool} {elt : Fr → Sto → Re D} {S : Sto} (e : α → D) (f : α → D) (xs : List α) (h : ∀ x ∈ xs, ∃ ρ, bnd (e x) = some ρ ∧ cnd ρ S = .ok true S ∧ elt ρ S = .ok (f x) S) :
    turns bnd cnd elt (xs.map e) S = .ok (xs.map f) S := by
  rw [turns_map e (fun _ => true) f xs fun x hx => let ⟨ρ, h1, h2, h3⟩ := h x hx; ⟨ρ, h1, h2, fun _ => h3⟩]
  rw [List.filter_eq_self.mpr fun _ _ => rfl]
/-- a loop that never leaves: the state s goes by step -/
theorem floop_fold {α σ : Type} {bnd : D → Fr → Option Fr} {b : Fr → Sto → Ou} (e : α → D) (step : σ → α → σ) (I : σ → Fr → Sto → Prop) : ∀ (xs : List α) (s : σ) (ρ : Fr) (S : Sto),
    (∀ s x ρ S, x ∈ xs → I s ρ S → ∃ ρ1 ρ2 S2, bnd (e x) ρ = some ρ1 ∧ b ρ1 S = .nx ρ2 S2 ∧ I (step s x) ρ2 S2) → I s ρ S → ∃ ρ' S', floop bnd b (xs.map e) ρ S = .nx ρ' S' ∧ I (xs.foldl step s) ρ' S'
  | [], s, ρ, S, _, h => ⟨ρ, S, rfl, h⟩
  | x :: xs, s, ρ, S, hs, h => by
    obtain ⟨ρ1, ρ2, S2, h1, h2, h3⟩ := hs s x ρ S List.mem_cons_self h
    obtain ⟨ρ', S', h4, h5⟩ := floop_fold e step I xs (step s x) ρ2 S2 (fun s y ρ S hy => hs s y ρ S (List.mem_cons_of_mem _ hy)) h3
    refine ⟨ρ', S', ?_, h5⟩
    rw [List.map_cons, floop, h1]
    simp [h2, h4]
/-- a loop by a statement about what is left of the items: it may leave -/
theorem floop_rec {α : Type} {bnd : D → Fr → Option Fr} {b : Fr → Sto → Ou} (e : α → D) (I : List α → Fr → Sto → Prop) (R : Ou → Prop) (hstep : ∀ x xs ρ S, I (x :: xs) ρ S → ∃ ρ1, bnd (e x) ρ = some ρ1 ∧ ((∃ ρ2 S2, b ρ1 S = .nx ρ2 S2 ∧ I xs ρ2 S2) ∨ ((∀ ρ2 S2, b ρ1 S ≠ .nx ρ2 S2) ∧ R (b ρ1 S))))
    (hend : ∀ ρ S, I [] ρ S → R (.nx ρ S)) : ∀ (xs : List α) (ρ : Fr) (S : Sto), I xs ρ S → R (floop bnd b (xs.map e) ρ S)
  | [], ρ, S, h => hend ρ S h
  | x :: xs, ρ, S, h => by
    obtain ⟨ρ1, h1, h2⟩ := hstep x xs ρ S h
    rw [List.map_cons, floop, h1]
    rcases h2 with ⟨ρ2, S2, h2, h3⟩ | ⟨h2, h3⟩
    · simp only [optU_some, h2, then_nx]
      exact floop_rec e I R hstep hend xs ρ2 S2 h3
    · simp only [optU_some]
      cases q : b ρ1 S with
      | nx ρ2 S2 => exact absurd q (h2 ρ2 S2)
      | rt d S2 => rw [q] at h3; exact h3
      | ex c S2 => rw [q] at h3; exact h3
      | bad => rw [q] at h3; exact h3
/-- a while loop by a measure that stays below the bound of turns -/
theorem wloop_rec {c : Fr → Sto → Re Bool} {b : Fr → Sto → Ou} (I : Nat → Fr → Sto → Prop) (R : Ou → Prop)
    (hstep : ∀ m ρ S, I m ρ S → ∃ t, c ρ S = .ok t S ∧ (t = false → R (.nx ρ S)) ∧ (t = true → (∃ m' ρ2 S2, b ρ S = .nx ρ2 S2 ∧ m' < m ∧ I m' ρ2 S2) ∨ ((∀ ρ2 S2, b ρ S ≠ .nx ρ2 S2) ∧ R (b ρ S)))) : ∀ (n m : Nat) (ρ : Fr) (S : Sto), m < n → I m ρ S → R (wloop c b n ρ S)
  | 0, m, ρ, S, hm, _ => absurd hm (Nat.not_lt_zero _)
  | n + 1, m, ρ, S, hm, h => by
    obtain ⟨t, h1, h2, h3⟩ := hstep m ρ S h
    rw [wloop, h1]
    simp only [ou_ok]
    cases t with
    | false => exact h2 rfl
    | true =>
      simp only [if_true]
      rcases h3 rfl with ⟨m', ρ2, S2, h4, h5, h6⟩ | ⟨h4, h5⟩
      · rw [h4]
        simp only [then_nx]
        exact wloop_rec I R hstep n m' ρ2 S2 (by omega) h6
      · cases q : b ρ S with
        | nx ρ2 S2 => exact absurd q (h4 ρ2 S2)
        | rt d S2 => rw [q] at h5; exact h5
        | ex c S2 => rw [q] at h5; exact h5
        | bad => rw [q] at h5; exact h5
end LP.Q
namespace LP.Q
open PySem
/-! ### operations on data -/
@[simp] theorem add_int {i j : Int} : bin .add (.int i) (.int j) = some (.int (i + j)) := rfl
@[simp] theorem sub_int {i j : Int} : bin .sub (.int i) (.int j) = some (.int (i - j)) := rfl
theorem add_lst {xs ys : List D} (h : xs.length + ys.length ≤ lim) : bin .add (.lst xs) (.lst ys) = some (.lst (xs ++ ys)) := if_pos h
theorem add_tup {xs ys : List D} (h : xs.length + ys.length ≤ lim) : bin .add (.tup xs) (.tup ys) = some (.tup (xs ++ ys)) := if_pos h
@[simp] theorem lt_int {i j : Int} : cmpD .lt (.int i) (.int j) = some (decide (i < j)) := rfl
@[simp] theorem le_int {i j : Int} : cmpD .le (.int i) (.int j) = some (decide (i ≤ j)) := rfl
@[simp] theorem gt_int {i j : Int} : cmpD .gt (.int i) (.int j) = some (decide (j < i)) := rfl
@[simp] theorem ge_int {i j : Int} : cmpD .ge (.int i) (.int j) = some (decide (j ≤ i)) := rfl
theorem eqD_ok {a b : D} (h : D.eqOk a b = true) : cmpD .eq a b = some (D.eq a b) := by
  show eqD a b = _
  unfold eqD
  rw [if_pos h]
theorem neD_ok {a b : D} (h : D.eqOk a b = true) : cmpD .ne a b = some (!D.eq a b) := by
  show (eqD a b).map (!·) = _
  unfold eqD
  rw [if_pos h]
  rfl
@[simp] theorem eq_int {i j : Int} : cmpD .eq (.int i) (.int j) = some (decide (i = j)) := by
  rw [eqD_ok (by simp [D.eqOk, D.pl, D.dep, D.ns]), D.eq]
  rfl
@[simp] theorem ne_int {i j : Int} : cmpD .ne (.int i) (.int j) = some (!decide (i = j)) := by
  rw [neD_ok (by simp [D.eqOk, D.pl, D.dep, D.ns]), D.eq]
  rfl
@[simp] theorem isi_int {i : Int} {t : Ty} : isi (.int i) t = some (match t with | .int => true | _ => false) := by cases t <;> rfl
@[simp] theorem isi_str {i : Str} {t : Ty} : isi (.str i) t = some (match t with | .str => true | _ => false) := by cases t <;> rfl
@[simp] theorem isi_tup {i : List D} {t : Ty} : isi (.tup i) t = some (match t with | .tuple => true | _ => false) := by cases t <;> rfl
@[simp] theorem isi_lst {i : List D} {t : Ty} : isi (.lst i) t = some (match t with | .list => true | _ => false) := by cases t <;> rfl
@[simp] theorem isi_non {t : Ty} : isi .non t = some false := by cases t <;> rfl
@[simp] theorem isi_bl {b : Bool} {t : Ty} : isi (.bl b) t = some (match t with | .int => true | .bool => true | _ => false) := by cases t <;> rfl
@[simp] theorem asBl_bl {b : Bool} : asBl (.bl b) = some b := rfl
@[simp] theorem asInt_int {b : Int} : asInt (.int b) = some b := rfl
section
variable {α β : Type} {c : Prop} [Decidable c] {S : Sto}
@[simp] theorem bind_ite (a b : Re α) (f : α → Sto → Re β) : Re.bind (if c then a else b) f = if c then a.bind f else b.bind f := by split <;> rfl
@[simp] theorem ou_ite (a b : Re α) (f : α → Sto → Ou) : Re.ou (if c then a else b) f = if c then a.ou f else b.ou f := by split <;> rfl
@[simp] theorem calm_ite (a b : Re α) : Re.calm (if c then a else b) = if c then a.calm else b.calm := by split <;> rfl
@[simp] theorem then_ite (a b : Ou) (f : Fr → Sto → Ou) : Ou.then (if c then a else b) f = if c then a.then f else b.then f := by split <;> rfl
@[simp] theorem ouR_ite (a b : Ou) : ouR (if c then a else b) = if c then ouR a else ouR b := by split <;> rfl
@[simp] theorem toldR_ite (a b : Re D) : toldR (if c then a else b) = if c then toldR a else toldR b := by split <;> rfl
@[simp] theorem ite_ok (a b : α) : (if c then Re.ok a S else Re.ok b S) = Re.ok (if c then a else b) S := by split <;> rfl
@[simp] theorem ite_rt (a b : D) : (if c then Ou.rt a S else Ou.rt b S) = Ou.rt (if c then a else b) S := by split <;> rfl
@[simp] theorem ite_bl (a b : Bool) : (if c then D.bl a else D.bl b) = D.bl (if c then a else b) := by split <;> rfl
end
/-- a test -/
example {P : Prg} (h : Has P c_is_whole k_is_whole) (n : Nat) (i lo hi : Int) (S : Sto) : call P (n + 1) i_is_whole [.int i, .int lo, .int hi] S = .ok (.bl (decide (lo ≤ i ∧ i ≤ hi))) S := by
  rw [h.run (d := d_is_whole) (by decide) rfl rfl]
  simp [d_is_whole, startF, Ex.isPk]
  trace_state
end LP.Q
namespace LP.Q
open PySem
/-! ### strict total orders, sorting -/
structure STO {α : Type} (lt : α → α → Bool) : Prop where
  irr : ∀ a, lt a a = false
  tr : ∀ a b c, lt a b = true → lt b c = true → lt a c = true
  tri : ∀ a b, lt a b = false → lt b a = false → a = b
theorem STO.asym {α : Type} {lt : α → α → Bool} (o : STO lt) {a b : α} (h : lt a b = true) : lt b a = false := by
  cases q : lt b a with
  | false => rfl
  | true => have := o.tr a b a h q; rw [o.irr] at this; cases this
def insL {α : Type} (lt : α → α → Bool) (x : α) : List α → List α
  | [] => [x]
  | y :: ys => if lt x y then x :: y :: ys else y :: insL lt x ys
def srtL {α : Type} (lt : α → α → Bool) : List α → List α
  | [] => []
  | x :: xs => insL lt x (srtL lt xs)
section
variable {α : Type}
variable {lt : α → α → Bool}
theorem insL_perm (x : α) : ∀ ys : List α, (insL lt x ys).Perm (x :: ys)
  | [] => List.Perm.refl _
  | y :: ys => by
    unfold insL
    split
    · exact List.Perm.refl _
    · exact ((insL_perm x ys).cons y).trans (List.Perm.swap x y ys)
theorem srtL_perm : ∀ xs : List α, (srtL lt xs).Perm xs
  | [] => List.Perm.refl _
  | x :: xs => (insL_perm x _).trans ((srtL_perm xs).cons x)
theorem mem_srtL {x : α} {xs : List α} : x ∈ srtL lt xs ↔ x ∈ xs := (srtL_perm xs).mem_iff
theorem len_srtL {xs : List α} : (srtL lt xs).length = xs.length := (srtL_perm xs).length_eq
/-- in order -/
abbrev Ord (lt : α → α → Bool) (xs : List α) : Prop := xs.Pairwise fun a b => lt b a = false
/-- rising -/
abbrev Rises (lt : α → α → Bool) (xs : List α) : Prop := xs.Pairwise fun a b => lt a b = true
theorem insL_ord (o : STO lt) (x : α) : ∀ ys : List α, Ord lt ys → Ord lt (insL lt x ys)
  | [], _ => List.pairwise_singleton _ _
  | y :: ys, h => by
    unfold insL
    have ⟨h1, h2⟩ := List.pairwise_cons.mp h
    split
    · rename_i q
      refine List.pairwise_cons.mpr ⟨fun z hz => ?_, h⟩
      rcases List.mem_cons.mp hz with e | e
      · subst e; exact o.asym q
      · cases q2 : lt z x with
        | false => rfl
        | true =>
          have := o.tr z x y q2 q
          rw [h1 z e] at this
          cases this
    · rename_i q
      refine List.pairwise_cons.mpr ⟨fun z hz => ?_, insL_ord o x ys h2⟩
      rcases List.mem_cons.mp ((insL_perm x ys).mem_iff.mp hz) with e | e
      · subst e; simpa using q
      · exact h1 z e
theorem srtL_ord (o : STO lt) : ∀ xs : List α, Ord lt (srtL lt xs)
  | [] => List.Pairwise.nil
  | x :: xs => insL_ord o x _ (srtL_ord o xs)
theorem ord_unique (o : STO lt) : ∀ {xs ys : List α}, xs.Perm ys → Ord lt xs → Ord lt ys → xs = ys
  | [], ys, p, _, _ => (List.nil_perm.mp p).symm
  | x :: xs, [], p, _, _ => by have := p.length_eq; cases this
  | x :: xs, y :: ys, p, h1, h2 => by
    obtain ⟨a1, a2⟩ := List.pairwise_cons.mp h1
    obtain ⟨b1, b2⟩ := List.pairwise_cons.mp h2
    have e : x = y := by
      by_cases e : x = y
      · exact e
      · have hx : x ∈ ys := by
          have := p.mem_iff.mp (List.mem_cons_self (a := x))
          rcases List.mem_cons.mp this with z | z
          · exact absurd z e
          · exact z
        have hy : y ∈ xs := by
          have := p.symm.mem_iff.mp (List.mem_cons_self (a := y))
          rcases List.mem_cons.mp this with z | z
          · exact absurd z.symm e
          · exact z
        exact o.tri x y (b1 x hx) (a1 y hy)
    subst e
    rw [ord_unique o ((List.perm_cons x).mp p) a2 b2]
theorem srt_perm_eq (o : STO lt) {xs ys : List α} (p : xs.Perm ys) : srtL lt xs = srtL lt ys := ord_unique o (((srtL_perm xs).trans p).trans (srtL_perm ys).symm) (srtL_ord o _) (srtL_ord o _)
theorem srt_of_ord (o : STO lt) {xs : List α} (h : Ord lt xs) : srtL lt xs = xs := ord_unique o (srtL_perm xs) (srtL_ord o _) h
theorem Rises.ord (o : STO lt) {xs : List α} (h : Rises lt xs) : Ord lt xs := h.imp fun q => o.asym q
theorem Rises.nodup (o : STO lt) {xs : List α} (h : Rises lt xs) : xs.Nodup := h.imp fun q e => by subst e; rw [o.irr] at q; cases q
theorem ord_rises (o : STO lt) {xs : List α} (h : Ord lt xs) (n : xs.Nodup) : Rises lt xs := (List.pairwise_and_iff.mpr ⟨h, n⟩).imp fun {a b} ⟨q, ne⟩ => by
  cases z : lt a b with
  | true => rfl
  | false => exact absurd (o.tri a b z q) ne
theorem srt_rises (o : STO lt) {xs : List α} (n : xs.Nodup) : Rises lt (srtL lt xs) := ord_rises o (srtL_ord o xs) ((srtL_perm xs).nodup_iff.mpr n)
/-- what is sorted out of a rising list is a part of it -/
theorem srt_sub [DecidableEq α] (o : STO lt) {xs ps : List α} (hp : Rises lt ps) (n : xs.Nodup) (h : ∀ x ∈ xs, x ∈ ps) : srtL lt xs = ps.filter fun q => decide (q ∈ xs) := by
  refine ord_unique o ?_ (srtL_ord o _) (List.Pairwise.filter _ (hp.ord o))
  refine (srtL_perm xs).trans ?_
  refine (List.perm_ext_iff_of_nodup n (List.Pairwise.filter _ (hp.nodup o))).mpr fun x => ?_
  simp only [List.mem_filter, decide_eq_true_eq]
  exact ⟨fun hx => ⟨h x hx, hx⟩, fun hx => hx.2⟩
end
/-! ### of data -/
theorem ins_map {α : Type} {lt : α → α → Bool} (e : α → D) (x : α) : ∀ ys : List α, (∀ y ∈ ys, D.lt (e x) (e y) = lt x y) → D.ins (e x) (ys.map e) = (insL lt x ys).map e
  | [], _ => rfl
  | y :: ys, h => by
    rw [List.map_cons, D.ins, insL, h y List.mem_cons_self, ins_map e x ys fun z hz => h z (List.mem_cons_of_mem _ hz)]
    split <;> rfl
theorem srt_map {α : Type} {lt : α → α → Bool} (e : α → D) : ∀ xs : List α, (∀ x ∈ xs, ∀ y ∈ xs, D.lt (e x) (e y) = lt x y) → D.srt (xs.map e) = (srtL lt xs).map e
  | [], _ => rfl
  | x :: xs, h => by
    rw [List.map_cons, D.srt, srt_map e xs fun a ha b hb => h a (List.mem_cons_of_mem _ ha) b (List.mem_cons_of_mem _ hb), srtL]
    exact ins_map e x _ fun y hy => h x List.mem_cons_self y (List.mem_cons_of_mem _ (mem_srtL.mp hy))
/-! ### texts -/
theorem sLt_sto : STO sLt := by
  refine ⟨fun a => ?_, fun a b c h1 h2 => ?_, fun a b h1 h2 => ?_⟩
  · unfold sLt
    exact decide_eq_false (List.lt_irrefl _)
  · unfold sLt at *
    exact decide_eq_true (List.lt_trans (of_decide_eq_true h1) (of_decide_eq_true h2))
  · unfold sLt at *
    have e := List.le_antisymm (List.not_lt.mp (of_decide_eq_false h2)) (List.not_lt.mp (of_decide_eq_false h1))
    obtain ⟨⟨x⟩⟩ := a
    obtain ⟨⟨y⟩⟩ := b
    have e : x = y := e
    rw [e]
theorem lt_str {x y : Str} : D.lt (.str x) (.str y) = sLt x y := by rw [D.lt]
theorem eq_str' {x y : Str} : D.eq (.str x) (.str y) = decide (x = y) := by rw [D.eq]; rfl
theorem eq_int' {x y : Int} : D.eq (.int x) (.int y) = decide (x = y) := by rw [D.eq]; rfl
/-! ### lists, the first unlike thing -/
def lexL {α : Type} [DecidableEq α] (lt : α → α → Bool) : List α → List α → Bool
  | [], [] => false
  | [], _ :: _ => true
  | _ :: _, [] => false
  | x :: xs, y :: ys => if x = y then lexL lt xs ys else lt x y
theorem lex_sto {α : Type} [DecidableEq α] {lt : α → α → Bool} (o : STO lt) : STO (lexL lt) := by
  refine ⟨fun a => ?_, fun a => ?_, fun a => ?_⟩
  · induction a with
    | nil => rfl
    | cons x xs ih => rw [lexL, if_pos rfl]; exact ih
  · induction a with
    | nil =>
      intro b c h1 h2
      cases b with
      | nil => cases h1
      | cons y ys =>
        cases c with
        | nil => cases h2
        | cons z zs => rfl
    | cons x xs ih =>
      intro b c h1 h2
      cases b with
      | nil => cases h1
      | cons y ys =>
        cases c with
        | nil => cases h2
        | cons z zs =>
          rw [lexL] at h1 h2 ⊢
          by_cases e1 : x = y
          · rw [if_pos e1] at h1
            subst e1
            by_cases e2 : x = z
            · rw [if_pos e2] at h2 ⊢; exact ih ys zs h1 h2
            · rw [if_neg e2] at h2 ⊢; exact h2
          · rw [if_neg e1] at h1
            by_cases e2 : y = z
            · subst e2; rw [if_neg e1]; exact h1
            · rw [if_neg e2] at h2
              have h3 := o.tr x y z h1 h2
              have : x ≠ z := fun e => by subst e; rw [o.irr] at h3; cases h3
              rw [if_neg this]; exact h3
  · induction a with
    | nil =>
      intro b h1 h2
      cases b with
      | nil => rfl
      | cons y ys => cases h1
    | cons x xs ih =>
      intro b h1 h2
      cases b with
      | nil => cases h2
      | cons y ys =>
        rw [lexL] at h1 h2
        by_cases e1 : x = y
        · rw [if_pos e1] at h1
          rw [if_pos e1.symm] at h2
          rw [e1, ih ys h1 h2]
        · rw [if_neg e1] at h1
          rw [if_neg (Ne.symm e1)] at h2
          exact absurd (o.tri x y h1 h2) e1
theorem lts_map {α : Type} [DecidableEq α] {lt : α → α → Bool} (e : α → D) (h1 : ∀ x y, D.eq (e x) (e y) = decide (x = y)) (h2 : ∀ x y, D.lt (e x) (e y) = lt x y) : ∀ xs ys : List α, D.lts (xs.map e) (ys.map e) = lexL lt xs ys
  | [], [] => by rw [List.map_nil, D.lts]; rfl
  | [], _ :: _ => by rw [List.map_nil, List.map_cons, D.lts]; rfl
  | _ :: _, [] => by rw [List.map_nil, List.map_cons, D.lts]; rfl
  | x :: xs, y :: ys => by
    rw [List.map_cons, List.map_cons, D.lts, lexL, h1, h2, lts_map e h1 h2 xs ys]
    by_cases e : x = y <;> simp [e]
theorem eqs_map {α : Type} [DecidableEq α] (e : α → D) (h1 : ∀ x y, D.eq (e x) (e y) = decide (x = y)) : ∀ xs ys : List α, D.eqs (xs.map e) (ys.map e) = decide (xs = ys)
  | [], [] => by rw [List.map_nil, D.eqs]; rfl
  | [], _ :: _ => by simp [D.eqs]
  | _ :: _, [] => by simp [D.eqs]
  | x :: xs, y :: ys => by
    rw [List.map_cons, List.map_cons, D.eqs, h1, eqs_map e h1 xs ys]
    by_cases e : x = y <;> by_cases e2 : xs = ys <;> simp [e, e2]
end LP.Q
namespace LP.Q
open PySem
open Classical
/-! ### shores -/
abbrev Rid : Type := Str × Str × Int
structure Shr where
  pools : List Str
  ridges : List Rid
/-- a ridge that is covered leads from x to y -/
def Adj (s : Shr) (h : Int) (x y : Str) : Prop := ∃ r ∈ s.ridges, r.2.2 ≤ h ∧ ((r.1 = x ∧ r.2.1 = y) ∨ (r.1 = y ∧ r.2.1 = x))
theorem Adj.symm {s : Shr} {h : Int} {x y : Str} (a : Adj s h x y) : Adj s h y x := let ⟨r, h1, h2, h3⟩ := a; ⟨r, h1, h2, h3.symm⟩
inductive Conn (s : Shr) (h : Int) (x : Str) : Str → Prop
  | refl : Conn s h x x
  | step {y z : Str} : Conn s h x y → Adj s h y z → Conn s h x z
section
variable {s : Shr} {h : Int} {x y z : Str}
theorem Conn.trans (a : Conn s h x y) (b : Conn s h y z) : Conn s h x z := by
  induction b with
  | refl => exact a
  | step _ e ih => exact .step ih e
theorem Conn.one (a : Adj s h x y) : Conn s h x y := .step .refl a
theorem Conn.symm (a : Conn s h x y) : Conn s h y x := by
  induction a with
  | refl => exact .refl
  | step _ e ih => exact (Conn.one e.symm).trans ih
theorem Conn.mono {h' : Int} (hh : h ≤ h') (a : Conn s h x y) : Conn s h' x y := by
  induction a with
  | refl => exact .refl
  | step _ e ih =>
    obtain ⟨r, h1, h2, h3⟩ := e
    exact .step ih ⟨r, h1, Int.le_trans h2 hh, h3⟩
end
structure Good (s : Shr) : Prop where
  rise : Rises sLt s.pools
  ends : ∀ r ∈ s.ridges, r.1 ∈ s.pools ∧ r.2.1 ∈ s.pools
  ok : ∀ p ∈ s.pools, sOk p = true
  np : s.pools.length ≤ 1000
  nr : s.ridges.length ≤ 1000
section
variable {s : Shr} {h : Int} {x y z : Str}
theorem Good.adj (g : Good s) (a : Adj s h x y) : x ∈ s.pools ∧ y ∈ s.pools := by
  obtain ⟨r, h1, h2, h3⟩ := a
  have := g.ends r h1
  rcases h3 with ⟨rfl, rfl⟩ | ⟨rfl, rfl⟩
  · exact this
  · exact this.symm
theorem Good.conn (g : Good s) (a : Conn s h x y) (hx : x ∈ s.pools) : y ∈ s.pools := by
  induction a with
  | refl => exact hx
  | step _ e _ => exact (g.adj e).2
/-- the pools that are one with a pool -/
noncomputable def comp (s : Shr) (h : Int) (p : Str) : List Str := s.pools.filter fun q => decide (Conn s h p q)
theorem mem_comp {p q : Str} : q ∈ comp s h p ↔ q ∈ s.pools ∧ Conn s h p q := by unfold comp; simp
theorem comp_eq {p q : Str} (c : Conn s h p q) : comp s h p = comp s h q := by
  unfold comp
  congr 1
  funext z
  exact decide_eq_decide.mpr ⟨fun a => c.symm.trans a, fun a => c.trans a⟩
theorem comp_inj {p q : Str} (hq : q ∈ s.pools) (e : comp s h p = comp s h q) : Conn s h p q := by
  have : q ∈ comp s h q := mem_comp.mpr ⟨hq, .refl⟩
  rw [← e] at this
  exact (mem_comp.mp this).2
theorem closed_comp (g : Good s) {root : Str} {lot : List Str} (hr : root ∈ s.pools) (n : lot.Nodup) (h1 : root ∈ lot) (h2 : ∀ x ∈ lot, Conn s h root x) (h3 : ∀ x ∈ lot, ∀ y, Adj s h x y → y ∈ lot) : srtL sLt lot = comp s h root := by
  have mem : ∀ x, x ∈ lot ↔ Conn s h root x := fun x => ⟨h2 x, fun c => by
    induction c with
    | refl => exact h1
    | step _ e ih => exact h3 _ ih _ e⟩
  rw [srt_sub sLt_sto g.rise n fun x hx => g.conn (h2 x hx) hr]
  unfold comp
  congr 1
  funext q
  exact decide_eq_decide.mpr (mem q)
end
/-! ### one lot, found by a stack -/
abbrev St2 : Type := List Str × List Str
def add1 (ok : Bool) (st : St2) (x : Str) : St2 := if ok = true ∧ x ∉ st.1 then (st.1 ++ [x], st.2 ++ [x]) else st
def nexts (here : Str) (r : Rid) : List Str := if r.1 = here then [r.2.1] else if r.2.1 = here then [r.1] else []
def vis (h : Int) (here : Str) (st : St2) (r : Rid) : St2 := (nexts here r).foldl (add1 (decide (r.2.2 ≤ h))) st
structure MidInv (s : Shr) (h : Int) (root here : Str) (done : List Rid) (lot work : List Str) : Prop where
  nd : lot.Nodup
  rt : root ∈ lot
  hr : here ∈ lot
  sub : ∀ x ∈ work, x ∈ lot
  con : ∀ x ∈ lot, Conn s h root x
  clo : ∀ x ∈ lot, x ∉ work → x ≠ here → ∀ y, Adj s h x y → y ∈ lot
  did : ∀ r ∈ done, r.2.2 ≤ h → (r.1 = here → r.2.1 ∈ lot) ∧ (r.2.1 = here → r.1 ∈ lot)
section
variable {s : Shr} {h : Int} {root here : Str} {done : List Rid} {lot work : List Str}
theorem mid_add {x : Str} (M : MidInv s h root here done lot work) (hc : Conn s h root x) (hx : x ∉ lot) : MidInv s h root here done (lot ++ [x]) (work ++ [x]) := by
  refine ⟨?_, List.mem_append_left _ M.rt, List.mem_append_left _ M.hr, fun y hy => ?_, fun y hy => ?_, fun y hy hw hh z a => ?_, fun r hr hh => ?_⟩
  · refine List.nodup_append.mpr ⟨M.nd, by simp, fun a ha b hb e => ?_⟩
    simp at hb
    subst hb
    subst e
    exact hx ha
  · rcases List.mem_append.mp hy with q | q
    · exact List.mem_append_left _ (M.sub y q)
    · exact List.mem_append_right _ q
  · rcases List.mem_append.mp hy with q | q
    · exact M.con y q
    · simp at q; subst q; exact hc
  · rcases List.mem_append.mp hy with q | q
    · exact List.mem_append_left _ (M.clo y q (fun z => hw (List.mem_append_left _ z)) hh z a)
    · exact absurd (List.mem_append_right _ q) hw
  · obtain ⟨a, b⟩ := M.did r hr hh
    exact ⟨fun e => List.mem_append_left _ (a e), fun e => List.mem_append_left _ (b e)⟩
theorem mid_vis {r : Rid} (hr : r ∈ s.ridges) (M : MidInv s h root here done lot work) : MidInv s h root here (done ++ [r]) (vis h here (lot, work) r).1 (vis h here (lot, work) r).2 ∧ (vis h here (lot, work) r).2.length + lot.length = (vis h here (lot, work) r).1.length + work.length := by
  have more : ∀ {l w : List Str}, MidInv s h root here done l w → (r.2.2 ≤ h → (r.1 = here → r.2.1 ∈ l) ∧ (r.2.1 = here → r.1 ∈ l)) → MidInv s h root here (done ++ [r]) l w := fun {l w} m q =>
    ⟨m.nd, m.rt, m.hr, m.sub, m.con, m.clo, fun r' hr' => by
      rcases List.mem_append.mp hr' with z | z
      · exact m.did r' z
      · simp at z; subst z; exact q⟩
  unfold vis nexts
  by_cases e1 : r.1 = here
  · rw [if_pos e1]
    simp only [List.foldl_cons, List.foldl_nil]
    unfold add1
    by_cases q : decide (r.2.2 ≤ h) = true ∧ r.2.1 ∉ lot
    · rw [if_pos q]
      have hc : Conn s h root r.2.1 := .step (M.con here M.hr) ⟨r, hr, of_decide_eq_true q.1, .inl ⟨e1, rfl⟩⟩
      refine ⟨more (mid_add M hc q.2) fun _ => ⟨fun _ => by simp, fun e => ?_⟩, by simp only [List.length_append, List.length_singleton]; omega⟩
      rw [e1]
      exact List.mem_append_left _ M.hr
    · rw [if_neg q]
      refine ⟨more M fun hh => ⟨fun _ => ?_, fun _ => by rw [e1]; exact M.hr⟩, Nat.add_comm _ _⟩
      exact Decidable.byContradiction fun z => q ⟨decide_eq_true hh, z⟩
  · rw [if_neg e1]
    by_cases e2 : r.2.1 = here
    · rw [if_pos e2]
      simp only [List.foldl_cons, List.foldl_nil]
      unfold add1
      by_cases q : decide (r.2.2 ≤ h) = true ∧ r.1 ∉ lot
      · rw [if_pos q]
        have hc : Conn s h root r.1 := .step (M.con here M.hr) ⟨r, hr, of_decide_eq_true q.1, .inr ⟨rfl, e2⟩⟩
        exact ⟨more (mid_add M hc q.2) fun _ => ⟨fun e => absurd e e1, fun _ => by simp⟩, by simp only [List.length_append, List.length_singleton]; omega⟩
      · rw [if_neg q]
        exact ⟨more M fun hh => ⟨fun e => absurd e e1, fun _ => Decidable.byContradiction fun z => q ⟨decide_eq_true hh, z⟩⟩, Nat.add_comm _ _⟩
    · rw [if_neg e2]
      exact ⟨more M fun hh => ⟨fun e => absurd e e1, fun e => absurd e e2⟩, Nat.add_comm _ _⟩
theorem mid_fold : ∀ (rs done : List Rid) (lot work : List Str), (∀ r ∈ rs, r ∈ s.ridges) → MidInv s h root here done lot work →
    MidInv s h root here (done ++ rs) (rs.foldl (vis h here) (lot, work)).1 (rs.foldl (vis h here) (lot, work)).2 ∧ (rs.foldl (vis h here) (lot, work)).2.length + lot.length = (rs.foldl (vis h here) (lot, work)).1.length + work.length
  | [], done, lot, work, _, M => by simp only [List.foldl_nil, List.append_nil]; exact ⟨M, by omega⟩
  | r :: rs, done, lot, work, hr, M => by
    obtain ⟨M1, l1⟩ := mid_vis (hr r List.mem_cons_self) M
    rw [List.foldl_cons]
    obtain ⟨M2, l2⟩ := mid_fold rs (done ++ [r]) (vis h here (lot, work) r).1 (vis h here (lot, work) r).2 (fun r' h' => hr r' (List.mem_cons_of_mem _ h')) M1
    rw [List.append_assoc, List.singleton_append] at M2
    exact ⟨M2, by
      have e : (vis h here (lot, work) r) = ((vis h here (lot, work) r).1, (vis h here (lot, work) r).2) := rfl
      rw [← e] at l2
      omega⟩
end
structure LotInv (s : Shr) (h : Int) (root : Str) (lot work : List Str) : Prop where
  nd : lot.Nodup
  rt : root ∈ lot
  sub : ∀ x ∈ work, x ∈ lot
  con : ∀ x ∈ lot, Conn s h root x
  clo : ∀ x ∈ lot, x ∉ work → ∀ y, Adj s h x y → y ∈ lot
section
variable {s : Shr} {h : Int} {root here : Str} {lot work : List Str}
theorem lot_start : LotInv s h root [root] [root] := ⟨by simp, by simp, fun x hx => hx, fun x hx => by simp at hx; subst hx; exact .refl, fun x hx hn => absurd hx hn⟩
/-- one turn: the last of the stack is taken -/
theorem lot_turn (L : LotInv s h root lot (work ++ [here])) : LotInv s h root (s.ridges.foldl (vis h here) (lot, work)).1 (s.ridges.foldl (vis h here) (lot, work)).2 ∧
    (s.ridges.foldl (vis h here) (lot, work)).2.length + lot.length = (s.ridges.foldl (vis h here) (lot, work)).1.length + work.length := by
  have M : MidInv s h root here [] lot work := ⟨L.nd, L.rt, L.sub here (by simp), fun x hx => L.sub x (List.mem_append_left _ hx), L.con, fun x hx hw hh y a => L.clo x hx (fun z => by
    rcases List.mem_append.mp z with q | q
    · exact hw q
    · simp at q; exact hh q) y a, fun r hr => nomatch hr⟩
  obtain ⟨M1, l1⟩ := mid_fold s.ridges [] lot work (fun r hr => hr) M
  refine ⟨⟨M1.nd, M1.rt, M1.sub, M1.con, fun x hx hw y a => ?_⟩, l1⟩
  by_cases e : x = here
  · obtain ⟨r, h1, h2, h3⟩ := a
    obtain ⟨d1, d2⟩ := M1.did r (by simpa using h1) h2
    rcases h3 with ⟨q1, q2⟩ | ⟨q1, q2⟩
    · rw [← q2]; exact d1 (q1.trans e)
    · rw [← q1]; exact d2 (q2.trans e)
  · exact M1.clo x hx hw e y a
theorem LotInv.len (g : Good s) (hr : root ∈ s.pools) (L : LotInv s h root lot work) : lot.length ≤ s.pools.length := by
  have := (List.Nodup.sublist (List.Sublist.refl _) L.nd)
  exact List.Nodup.length_le_of_subset L.nd fun x hx => g.conn (L.con x hx) hr
theorem lot_end (g : Good s) (hr : root ∈ s.pools) (L : LotInv s h root lot []) : srtL sLt lot = comp s h root :=
  closed_comp g hr L.nd L.rt L.con fun x hx y a => L.clo x hx (fun z => nomatch z) y a
end
/-! ### one lot, found by passes -/
def pw (h : Int) (f : List Str) (r : Rid) : List Str := if r.2.2 ≤ h ∧ (decide (r.1 ∈ f) != decide (r.2.1 ∈ f)) = true then f ++ [if r.1 ∈ f then r.2.1 else r.1] else f
structure PwInv (s : Shr) (h : Int) (root : Str) (f : List Str) : Prop where
  nd : f.Nodup
  rt : root ∈ f
  con : ∀ x ∈ f, Conn s h root x
section
variable {s : Shr} {h : Int} {root : Str} {f : List Str}
theorem pw_step {r : Rid} (hr : r ∈ s.ridges) (L : PwInv s h root f) : PwInv s h root (pw h f r) := by
  unfold pw
  split
  · rename_i q
    obtain ⟨q1, q2⟩ := q
    have key : ∀ x, x ∉ f → Conn s h root x → PwInv s h root (f ++ [x]) := fun x hx hc => ⟨by
      refine List.nodup_append.mpr ⟨L.nd, by simp, fun a ha b hb e => ?_⟩
      simp at hb
      subst hb
      subst e
      exact hx ha, List.mem_append_left _ L.rt, fun y hy => by
      rcases List.mem_append.mp hy with z | z
      · exact L.con y z
      · simp at z; subst z; exact hc⟩
    by_cases e : r.1 ∈ f
    · rw [if_pos e]
      have e2 : r.2.1 ∉ f := fun z => by simp [e, z] at q2
      exact key _ e2 (.step (L.con _ e) ⟨r, hr, q1, .inl ⟨rfl, rfl⟩⟩)
    · rw [if_neg e]
      have e2 : r.2.1 ∈ f := Decidable.byContradiction fun z => by simp [e, z] at q2
      exact key _ e (.step (L.con _ e2) ⟨r, hr, q1, .inr ⟨rfl, rfl⟩⟩)
  · exact L
theorem pw_fold : ∀ (rs : List Rid) (f : List Str), (∀ r ∈ rs, r ∈ s.ridges) → PwInv s h root f → PwInv s h root (rs.foldl (pw h) f)
  | [], f, _, L => L
  | r :: rs, f, hr, L => pw_fold rs _ (fun r' h' => hr r' (List.mem_cons_of_mem _ h')) (pw_step (hr r List.mem_cons_self) L)
theorem pw_len (r : Rid) : f.length ≤ (pw h f r).length := by unfold pw; split <;> simp
theorem pw_lens : ∀ (rs : List Rid) (f : List Str), f.length ≤ (rs.foldl (pw h) f).length
  | [], f => Nat.le_refl _
  | r :: rs, f => Nat.le_trans (pw_len r) (pw_lens rs _)
/-- nothing was found: it is shut -/
theorem pw_same : ∀ (rs : List Rid) (f : List Str), (rs.foldl (pw h) f).length ≤ f.length → rs.foldl (pw h) f = f ∧ ∀ r ∈ rs, r.2.2 ≤ h → (r.1 ∈ f ↔ r.2.1 ∈ f)
  | [], f, _ => ⟨rfl, fun r hr => nomatch hr⟩
  | r :: rs, f, hl => by
    rw [List.foldl_cons] at hl ⊢
    have l1 := pw_lens (h := h) rs (pw h f r)
    have l2 := pw_len (h := h) (f := f) r
    have e : pw h f r = f := by
      have l3 : (pw h f r).length ≤ f.length := Nat.le_trans l1 hl
      unfold pw at l3 ⊢
      split
      · rename_i q
        rw [if_pos q, List.length_append, List.length_singleton] at l3
        omega
      · rfl
    have q : ¬ (r.2.2 ≤ h ∧ (decide (r.1 ∈ f) != decide (r.2.1 ∈ f)) = true) := fun q => by
      unfold pw at e
      rw [if_pos q] at e
      have := congrArg List.length e
      simp at this
    rw [e] at hl ⊢
    obtain ⟨a, b⟩ := pw_same rs f hl
    refine ⟨a, fun r' hr' hh => ?_⟩
    rcases List.mem_cons.mp hr' with z | z
    · subst z
      have : ¬ (decide (r'.1 ∈ f) != decide (r'.2.1 ∈ f)) = true := fun w => q ⟨hh, w⟩
      simpa using this
    · exact b r' z hh
theorem pw_shut (rs : List Rid) (f : List Str) (hc : ∀ r ∈ rs, r.2.2 ≤ h → (r.1 ∈ f ↔ r.2.1 ∈ f)) : rs.foldl (pw h) f = f := by
  induction rs with
  | nil => rfl
  | cons r rs ih =>
    rw [List.foldl_cons]
    have : pw h f r = f := by
      unfold pw
      rw [if_neg fun q => ?_]
      have := hc r List.mem_cons_self q.1
      simp [this] at q
    rw [this]
    exact ih fun r' hr' => hc r' (List.mem_cons_of_mem _ hr')
def passes (rs : List Rid) (h : Int) : Nat → List Str → List Str
  | 0, f => f
  | n + 1, f => passes rs h n (rs.foldl (pw h) f)
theorem passes_ok : ∀ (n : Nat) (f : List Str), PwInv s h root f → PwInv s h root (passes s.ridges h n f) ∧ ((∀ r ∈ s.ridges, r.2.2 ≤ h → (r.1 ∈ passes s.ridges h n f ↔ r.2.1 ∈ passes s.ridges h n f)) ∨ f.length + n ≤ (passes s.ridges h n f).length)
  | 0, f, L => ⟨L, .inr (Nat.le_refl _)⟩
  | n + 1, f, L => by
    have L1 := pw_fold s.ridges f (fun r hr => hr) L
    obtain ⟨L2, q⟩ := passes_ok n _ L1
    refine ⟨L2, ?_⟩
    by_cases e : (s.ridges.foldl (pw h) f).length ≤ f.length
    · obtain ⟨a, b⟩ := pw_same _ _ e
      left
      have : ∀ k, passes s.ridges h k f = f := fun k => by
        induction k with
        | zero => rfl
        | succ k ih => unfold passes; rw [a]; exact ih
      show ∀ r ∈ s.ridges, r.2.2 ≤ h → (r.1 ∈ passes s.ridges h n (s.ridges.foldl (pw h) f) ↔ r.2.1 ∈ passes s.ridges h n (s.ridges.foldl (pw h) f))
      rw [a, this n]
      exact b
    · rcases q with q | q
      · exact .inl q
      · right
        show f.length + (n + 1) ≤ (passes s.ridges h n (s.ridges.foldl (pw h) f)).length
        omega
theorem passes_comp (g : Good s) (hr : root ∈ s.pools) : srtL sLt (passes s.ridges h s.pools.length [root]) = comp s h root := by
  obtain ⟨L, q⟩ := passes_ok (s := s) (h := h) (root := root) s.pools.length [root] ⟨by simp, by simp, fun x hx => by simp at hx; subst hx; exact .refl⟩
  have hl : (passes s.ridges h s.pools.length [root]).length ≤ s.pools.length := List.Nodup.length_le_of_subset L.nd fun x hx => g.conn (L.con x hx) hr
  have q : ∀ r ∈ s.ridges, r.2.2 ≤ h → (r.1 ∈ passes s.ridges h s.pools.length [root] ↔ r.2.1 ∈ passes s.ridges h s.pools.length [root]) := by
    rcases q with q | q
    · exact q
    · simp at q; omega
  refine closed_comp g hr L.nd L.rt L.con fun x hx y a => ?_
  obtain ⟨r, h1, h2, h3⟩ := a
  rcases h3 with ⟨e1, e2⟩ | ⟨e1, e2⟩
  · rw [← e2]; exact (q r h1 h2).mp (by rw [e1]; exact hx)
  · rw [← e1]; exact (q r h1 h2).mpr (by rw [e2]; exact hx)
end
end LP.Q
namespace LP.Q
open PySem
/-! ### how things stand in data -/
def eR (r : Rid) : D := .tup [.str r.1, .str r.2.1, .int r.2.2]
def lotD (l : List Str) : D := .tup (l.map .str)
def Shr.d (s : Shr) : D := .tup [.tup (s.pools.map .str), .tup (s.ridges.map eR)]
theorem pls_map {α : Type} {e : α → D} : ∀ {xs : List α}, (∀ x ∈ xs, (e x).pl = true) → D.pls (xs.map e) = true
  | [], _ => by rw [List.map_nil, D.pls]
  | x :: xs, h => by rw [List.map_cons, D.pls, h x List.mem_cons_self, pls_map fun y hy => h y (List.mem_cons_of_mem _ hy)]; rfl
theorem nss_map {α : Type} {e : α → D} : ∀ {xs : List α}, (∀ x ∈ xs, (e x).ns = true) → D.nss (xs.map e) = true
  | [], _ => by rw [List.map_nil, D.nss]
  | x :: xs, h => by rw [List.map_cons, D.nss, h x List.mem_cons_self, nss_map fun y hy => h y (List.mem_cons_of_mem _ hy)]; rfl
theorem deps_map {α : Type} {e : α → D} {n : Nat} : ∀ {xs : List α}, (∀ x ∈ xs, (e x).dep ≤ n) → D.deps (xs.map e) ≤ n
  | [], _ => by rw [List.map_nil, D.deps]; exact Nat.zero_le _
  | x :: xs, h => by
    rw [List.map_cons, D.deps]
    exact Nat.max_le.mpr ⟨h x List.mem_cons_self, deps_map fun y hy => h y (List.mem_cons_of_mem _ hy)⟩
/-- plain, not deep -/
structure Nice (n : Nat) (d : D) : Prop where
  pl : d.pl = true
  ns : d.ns = true
  dep : d.dep ≤ n
theorem Nice.mono {m n : Nat} {d : D} (h : Nice m d) (q : m ≤ n) : Nice n d := ⟨h.pl, h.ns, Nat.le_trans h.dep q⟩
theorem nice_int {i : Int} : Nice 0 (.int i) := ⟨by rw [D.pl], by rw [D.ns] <;> (intros; contradiction), by rw [D.dep]; exact Nat.le_refl _⟩
theorem nice_non : Nice 0 .non := ⟨by rw [D.pl], by rw [D.ns] <;> (intros; contradiction), by rw [D.dep]; exact Nat.le_refl _⟩
theorem nice_bl {b : Bool} : Nice 0 (.bl b) := ⟨by rw [D.pl], by rw [D.ns] <;> (intros; contradiction), by rw [D.dep]; exact Nat.le_refl _⟩
theorem nice_str {x : Str} (h : sOk x = true) : Nice 0 (.str x) := ⟨by rw [D.pl]; exact h, by rw [D.ns] <;> (intros; contradiction), by rw [D.dep]; exact Nat.le_refl _⟩
theorem nice_tup {n : Nat} {xs : List D} (h : ∀ x ∈ xs, Nice n x) : Nice (n + 1) (.tup xs) := by
  have e : xs = xs.map id := by simp
  refine ⟨?_, ?_, ?_⟩
  · rw [D.pl, e]; exact pls_map fun x hx => (h x hx).pl
  · rw [D.ns, e]; exact nss_map fun x hx => (h x hx).ns
  · rw [D.dep, e]; exact Nat.succ_le_succ (deps_map fun x hx => (h x hx).dep)
theorem nice_lst {n : Nat} {xs : List D} (h : ∀ x ∈ xs, Nice n x) : Nice (n + 1) (.lst xs) := by
  have e : xs = xs.map id := by simp
  refine ⟨?_, ?_, ?_⟩
  · rw [D.pl, e]; exact pls_map fun x hx => (h x hx).pl
  · rw [D.ns, e]; exact nss_map fun x hx => (h x hx).ns
  · rw [D.dep, e]; exact Nat.succ_le_succ (deps_map fun x hx => (h x hx).dep)
theorem Nice.eqOk {m n : Nat} {a b : D} (ha : Nice m a) (hb : Nice n b) (hm : m ≤ 60) (hn : n ≤ 60) : D.eqOk a b = true := by
  unfold D.eqOk
  rw [ha.pl, hb.pl, ha.ns, hb.ns, decide_eq_true (Nat.le_trans ha.dep hm), decide_eq_true (Nat.le_trans hb.dep hn)]
  rfl
theorem nice_lot {l : List Str} (h : ∀ x ∈ l, sOk x = true) : Nice 1 (lotD l) := nice_tup fun x hx => by
  have ⟨y, hy, ey⟩ := List.mem_map.mp hx; subst ey
  exact nice_str (h y hy)
theorem eq_lot {k l : List Str} : D.eq (lotD k) (lotD l) = decide (k = l) := by
  unfold lotD
  rw [D.eq]
  exact eqs_map D.str (fun _ _ => eq_str') k l
theorem lt_lot {k l : List Str} : D.lt (lotD k) (lotD l) = lexL sLt k l := by
  unfold lotD
  rw [D.lt]
  exact lts_map D.str (fun _ _ => eq_str') (fun _ _ => lt_str) k l
theorem eq_str {x y : Str} (hx : sOk x = true) (hy : sOk y = true) : cmpD .eq (.str x) (.str y) = some (decide (x = y)) := by
  rw [eqD_ok ((nice_str hx).eqOk (nice_str hy) (by decide) (by decide)), eq_str']
theorem ne_str {x y : Str} (hx : sOk x = true) (hy : sOk y = true) : cmpD .ne (.str x) (.str y) = some (!decide (x = y)) := by
  rw [neD_ok ((nice_str hx).eqOk (nice_str hy) (by decide) (by decide)), eq_str']
theorem eq_nil_lst {xs : List D} : D.eq (.lst xs) (.lst []) = xs.isEmpty := by
  cases xs <;> simp [D.eq, D.eqs]
theorem eq_nil_tup {xs : List D} : D.eq (.tup xs) (.tup []) = xs.isEmpty := by
  cases xs <;> simp [D.eq, D.eqs]
theorem ne_nil {n : Nat} {xs : List D} (h : ∀ x ∈ xs, Nice n x) (hn : n ≤ 50) : cmpD .ne (.lst xs) (.lst []) = some (!xs.isEmpty) := by
  rw [neD_ok ((nice_lst h).eqOk (nice_lst (n := 0) (xs := []) fun _ h => nomatch h) (by omega) (by decide)), eq_nil_lst]
theorem eq_nil {n : Nat} {xs : List D} (h : ∀ x ∈ xs, Nice n x) (hn : n ≤ 50) : cmpD .eq (.lst xs) (.lst []) = some xs.isEmpty := by
  rw [eqD_ok ((nice_lst h).eqOk (nice_lst (n := 0) (xs := []) fun _ h => nomatch h) (by omega) (by decide)), eq_nil_lst]
theorem has_map {α : Type} [DecidableEq α] {e : α → D} (h : ∀ x y, D.eq (e x) (e y) = decide (x = y)) (x : α) (ys : List α) : has (e x) (ys.map e) = decide (x ∈ ys) := by
  unfold has
  rw [List.any_map]
  induction ys with
  | nil => simp
  | cons y ys ih =>
    rw [List.any_cons, ih]
    simp only [Function.comp, h, List.mem_cons]
    by_cases a : x = y
    · subst a; simp
    · have : ¬ y = x := fun e => a e.symm
      simp [a, this]
theorem in_lst {α : Type} [DecidableEq α] {e : α → D} {n : Nat} (h : ∀ x y, D.eq (e x) (e y) = decide (x = y)) (hn : n ≤ 50) {x : α} {ys : List α} (hx : Nice n (e x)) (hy : ∀ y ∈ ys, Nice n (e y)) : inD (e x) (.lst (ys.map e)) = some (decide (x ∈ ys)) := by
  show (if hasOk (e x) (ys.map e) = true then some (has (e x) (ys.map e)) else none) = _
  rw [if_pos, has_map h]
  unfold hasOk
  rw [hx.pl, hx.ns, decide_eq_true (Nat.le_trans hx.dep hn), pls_map fun y hy' => (hy y hy').pl, nss_map fun y hy' => (hy y hy').ns, decide_eq_true (Nat.le_trans (deps_map fun y hy' => (hy y hy').dep) hn)]
  rfl
theorem in_tup {x : Str} {ys : List Str} : inD (.str x) (.tup (ys.map .str)) = some (decide (x ∈ ys)) := by
  show (if (flat (.str x) && (ys.map D.str).all flat) = true then some (has (.str x) (ys.map .str)) else none) = _
  rw [if_pos, has_map (e := D.str) fun _ _ => eq_str']
  rw [List.all_map]
  simp [flat]
theorem inn_str {x : Str} {ys : List Str} (hx : sOk x = true) (hy : ∀ y ∈ ys, sOk y = true) : cmpD .inn (.str x) (.lst (ys.map .str)) = some (decide (x ∈ ys)) := in_lst (e := D.str) (n := 0) (fun _ _ => eq_str') (by decide) (nice_str hx) fun y h => nice_str (hy y h)
theorem nin_str {x : Str} {ys : List Str} (hx : sOk x = true) (hy : ∀ y ∈ ys, sOk y = true) : cmpD .nin (.str x) (.lst (ys.map .str)) = some (!decide (x ∈ ys)) := by
  show (inD _ _).map (!·) = _
  rw [in_lst (e := D.str) (n := 0) (fun _ _ => eq_str') (by decide) (nice_str hx) fun y h => nice_str (hy y h)]
  rfl
theorem inn_tup {x : Str} {ys : List Str} : cmpD .inn (.str x) (.tup (ys.map .str)) = some (decide (x ∈ ys)) := in_tup
theorem nin_tup {x : Str} {ys : List Str} : cmpD .nin (.str x) (.tup (ys.map .str)) = some (!decide (x ∈ ys)) := by
  show (inD _ _).map (!·) = _
  rw [in_tup]
  rfl
/-! ### places -/
@[simp] theorem ix_tup0 {a : D} {r : List D} {S : Sto} : ixD (.tup (a :: r)) (.int 0) S = some a := by
  show getD (a :: r) 0 = _
  unfold getD ixAt
  simp
@[simp] theorem ix_lst0 {a : D} {r : List D} {S : Sto} : ixD (.lst (a :: r)) (.int 0) S = some a := by
  show getD (a :: r) 0 = _
  unfold getD ixAt
  simp
@[simp] theorem ix_tup1 {a b : D} {r : List D} {S : Sto} : ixD (.tup (a :: b :: r)) (.int 1) S = some b := by
  show getD (a :: b :: r) 1 = _
  unfold getD ixAt
  have : (1 : Int) < ((a :: b :: r).length : Nat) := by simp; omega
  rw [if_pos (by decide), if_pos this]
  rfl
@[simp] theorem ix_tup2 {a b c : D} {r : List D} {S : Sto} : ixD (.tup (a :: b :: c :: r)) (.int 2) S = some c := by
  show getD (a :: b :: c :: r) 2 = _
  unfold getD ixAt
  have : (2 : Int) < ((a :: b :: c :: r).length : Nat) := by simp; omega
  rw [if_pos (by decide), if_pos this]
  rfl
@[simp] theorem walk_lst {xs : List D} : walkD (.lst xs) = some xs := rfl
@[simp] theorem walk_tup {xs : List D} : walkD (.tup xs) = some xs := rfl
@[simp] theorem bind_name {i : Nat} {d : D} {ρ : Fr} : bindT (.name i) d ρ = setF ρ i (.fz d) := by
  rw [bindT]; unfold setF; rfl
@[simp] theorem bind_two {a b : Tg} {x y : D} {ρ : Fr} : bindT (.tcons a (.tcons b .tnil)) (.tup [x, y]) ρ = (bindT a x ρ).bind (bindT b y) := by
  rw [bindT, bindTs]
  congr 1
  funext ρ
  rw [bindTs]
  cases bindT b y ρ <;> simp [bindTs]
@[simp] theorem bind_three {a b c : Tg} {x y z : D} {ρ : Fr} : bindT (.tcons a (.tcons b (.tcons c .tnil))) (.tup [x, y, z]) ρ = ((bindT a x ρ).bind (bindT b y)).bind (bindT c z) := by
  rw [bindT, bindTs]
  cases bindT a x ρ with
  | none => rfl
  | some ρ1 =>
    simp only [Option.bind_some]
    rw [bindTs]
    cases bindT b y ρ1 with
    | none => rfl
    | some ρ2 =>
      simp only [Option.bind_some]
      rw [bindTs]
      cases bindT c z ρ2 <;> simp [bindTs]
@[simp] theorem setF_zero {a : Option Sl} {r : Fr} {s : Sl} : setF (a :: r) 0 s = some (some s :: r) := by unfold setF; simp
@[simp] theorem setF_succ {a : Option Sl} {r : Fr} {s : Sl} {i : Nat} : setF (a :: r) (i + 1) s = (setF r i s).map (a :: ·) := by
  unfold setF
  simp only [List.length_cons, Nat.add_lt_add_iff_right, List.set_cons_succ]
  split <;> rfl
theorem small {n : Nat} (h : n ≤ 5000) : n ≤ lim := Nat.le_trans h (by decide)
end LP.Q
namespace LP.Q
open PySem
open Classical
/-! ### all lots -/
/-- each once -/
def ddL {α : Type} [DecidableEq α] : List α → List α
  | [] => []
  | x :: xs => x :: (ddL xs).filter fun y => decide (y ≠ x)
theorem mem_ddL {α : Type} [DecidableEq α] {y : α} : ∀ {xs : List α}, y ∈ ddL xs ↔ y ∈ xs
  | [] => Iff.rfl
  | x :: xs => by
    rw [ddL, List.mem_cons, List.mem_cons, List.mem_filter, mem_ddL (xs := xs)]
    by_cases e : y = x <;> simp [e]
theorem nodup_ddL {α : Type} [DecidableEq α] : ∀ {xs : List α}, (ddL xs).Nodup
  | [] => List.nodup_nil
  | x :: xs => by
    rw [ddL]
    refine List.nodup_cons.mpr ⟨fun h => ?_, List.Pairwise.filter _ nodup_ddL⟩
    have := (List.mem_filter.mp h).2
    simp at this
noncomputable def lots (s : Shr) (h : Int) : List (List Str) := srtL (lexL sLt) (ddL (s.pools.map (comp s h)))
theorem lots_of {s : Shr} {h : Int} {found : List (List Str)} (n : found.Nodup) (m : ∀ l, l ∈ found ↔ ∃ p ∈ s.pools, l = comp s h p) : srtL (lexL sLt) found = lots s h := by
  refine srt_perm_eq (lex_sto sLt_sto) ((List.perm_ext_iff_of_nodup n nodup_ddL).mpr fun l => ?_)
  rw [m, mem_ddL, List.mem_map]
  exact ⟨fun ⟨p, hp, e⟩ => ⟨p, hp, e.symm⟩, fun ⟨p, hp, e⟩ => ⟨p, hp, e.symm⟩⟩
theorem mem_lots {s : Shr} {h : Int} {l : List Str} : l ∈ lots s h ↔ ∃ p ∈ s.pools, l = comp s h p := by
  unfold lots
  rw [mem_srtL, mem_ddL, List.mem_map]
  exact ⟨fun ⟨p, hp, e⟩ => ⟨p, hp, e.symm⟩, fun ⟨p, hp, e⟩ => ⟨p, hp, e.symm⟩⟩
/-! ### sorted -/
theorem srtOk_map {α : Type} {e : α → D} {n : Nat} {xs : List α} (hn : n ≤ 50) (h1 : ∀ x ∈ xs, Nice n (e x) ∧ D.hd (e x) = true) (h2 : ∀ x ∈ xs, ∀ y ∈ xs, D.like (e x) (e y) = true) (hl : xs.length ≤ 5000) : D.srtOk (xs.map e) = true := by
  unfold D.srtOk
  rw [List.all_map]
  rw [Bool.and_eq_true]
  refine ⟨List.all_eq_true.mpr fun x hx => ?_, decide_eq_true (by rw [List.length_map]; omega)⟩
  obtain ⟨q1, q2⟩ := h1 x hx
  simp only [Function.comp]
  rw [q2, q1.pl, q1.ns, decide_eq_true (Nat.le_trans q1.dep hn), List.all_map]
  simp only [Bool.true_and]
  exact List.all_eq_true.mpr fun y hy => h2 x hx y hy
theorem sorted_ok {xs : List D} {S : Sto} (h : D.srtOk xs = true) : blt .sorted [.lst xs] S = some (.lst (D.srt xs)) := by
  show (if D.srtOk xs = true then some (D.lst (D.srt xs)) else none) = _
  rw [if_pos h]
theorem sorted_str {xs : List Str} {S : Sto} (h : ∀ x ∈ xs, sOk x = true) (hl : xs.length ≤ 5000) : blt .sorted [.lst (xs.map .str)] S = some (.lst ((srtL sLt xs).map .str)) := by
  rw [sorted_ok (srtOk_map (n := 0) (by decide) (fun x hx => ⟨nice_str (h x hx), rfl⟩) (fun x hx y hy => by rw [D.like, h x hx, h y hy]; rfl) hl), srt_map (lt := sLt) D.str xs fun _ _ _ _ => lt_str]
theorem likes_str : ∀ {xs ys : List Str}, (∀ x ∈ xs, sOk x = true) → (∀ x ∈ ys, sOk x = true) → D.likes (xs.map .str) (ys.map .str) = true
  | [], _, _, _ => by rw [List.map_nil, D.likes]
  | _ :: _, [], _, _ => by simp [D.likes]
  | x :: xs, y :: ys, h1, h2 => by
    rw [List.map_cons, List.map_cons, D.likes, D.like, h1 x List.mem_cons_self, h2 y List.mem_cons_self, likes_str (fun z hz => h1 z (List.mem_cons_of_mem _ hz)) fun z hz => h2 z (List.mem_cons_of_mem _ hz)]
    rfl
theorem sorted_lots {ls : List (List Str)} {S : Sto} (h : ∀ l ∈ ls, l ≠ [] ∧ ∀ x ∈ l, sOk x = true) (hl : ls.length ≤ 5000) : blt .sorted [.lst (ls.map lotD)] S = some (.lst ((srtL (lexL sLt) ls).map lotD)) := by
  rw [sorted_ok (srtOk_map (n := 1) (by decide) (fun l hx => ⟨nice_lot (h l hx).2, ?_⟩) (fun x hx y hy => ?_) hl), srt_map (lt := lexL sLt) lotD ls fun _ _ _ _ => lt_lot]
  · have := (h l hx).1
    cases l with
    | nil => exact absurd rfl this
    | cons a r => rfl
  · unfold lotD
    rw [D.like]
    exact likes_str (h x hx).2 (h y hy).2
theorem tuple_lst {xs : List D} {S : Sto} : blt .tuple [.lst xs] S = some (.tup xs) := rfl
theorem list_tup {xs : List D} {S : Sto} : blt .list [.tup xs] S = some (.lst xs) := rfl
abbrev frL (sd hd : D) (fo : List D) (le : D) (lot work : List Str) (v6 v7 v8 v9 v10 v11 : Option Sl) : Fr :=
  [some (.fz sd), some (.fz hd), some (.ow fo), some (.fz le), some (.ow (lot.map .str)), some (.ow (work.map .str)), v6, v7, v8, v9, v10, v11]
abbrev tRid : Tg := .tcons (.name 7) (.tcons (.name 8) (.tcons (.name 9) .tnil))
abbrev sNext : Sm := (.seq (.ite (.andE (.cmp .le (.var 9) (.var 1)) (.cmp .nin (.var 10) (.pk 4))) (.seq (.app 4 (.var 10))
 (.seq (.app 5 (.var 10))
 .skip)) .skip)
 .skip)
abbrev eNext : Ex := (.walk (.ife (.cmp .eq (.var 7) (.var 6)) (.lst (.cons (.var 8) .nil)) (.ife (.cmp .eq (.var 8) (.var 6)) (.lst (.cons (.var 7) .nil)) (.lst .nil))))
section
variable {Γ : Gam} {s : Shr} {h : Int} {S : Sto} {fo : List D} {le : D}
theorem next_step {lot work : List Str} {here x : Str} {r : Rid} {v11 : Option Sl} (hx : sOk x = true) (hl : ∀ y ∈ lot, sOk y = true) (hn : lot.length < 5000) (hw : work.length < 5000) :
    exec Γ sNext (frL s.d (.int h) fo le lot work (some (.fz (.str here))) (some (.fz (.str r.1))) (some (.fz (.str r.2.1))) (some (.fz (.int r.2.2))) (some (.fz (.str x))) v11) S =
      .nx (frL s.d (.int h) fo le (add1 (decide (r.2.2 ≤ h)) (lot, work) x).1 (add1 (decide (r.2.2 ≤ h)) (lot, work) x).2 (some (.fz (.str here))) (some (.fz (.str r.1))) (some (.fz (.str r.2.1))) (some (.fz (.int r.2.2))) (some (.fz (.str x))) v11) S := by
  have l1 : lot.length < lim := Nat.lt_of_lt_of_le hn (by decide)
  have l2 : work.length < lim := Nat.lt_of_lt_of_le hw (by decide)
  unfold add1
  by_cases q : r.2.2 ≤ h <;> by_cases q2 : x ∈ lot <;> simp [frL, sNext, Ex.isPk, nin_str hx hl, l1, l2, q, q2]
theorem add1_keep {ok : Bool} {st : St2} {x y : Str} (hy : y ∈ (add1 ok st x).1) : y ∈ st.1 ∨ y = x := by
  unfold add1 at hy
  split at hy
  · rcases List.mem_append.mp hy with z | z
    · exact .inl z
    · simp at z; exact .inr z
  · exact .inl hy
theorem add1_len {ok : Bool} {st : St2} {x : Str} : (add1 ok st x).1.length ≤ st.1.length + 1 ∧ (add1 ok st x).2.length ≤ st.2.length + 1 := by
  unfold add1
  split <;> simp
theorem rid_bind {lot work : List Str} {r : Rid} {v6 v7 v8 v9 v10 v11 : Option Sl} : bindT tRid (eR r) (frL s.d (.int h) fo le lot work v6 v7 v8 v9 v10 v11) = some (frL s.d (.int h) fo le lot work v6 (some (.fz (.str r.1))) (some (.fz (.str r.2.1))) (some (.fz (.int r.2.2))) v10 v11) := by
  simp [eR, tRid, frL]
theorem next_ev {lot work : List Str} {here : Str} {r : Rid} {v10 v11 : Option Sl} (k1 : sOk r.1 = true) (k2 : sOk r.2.1 = true) (hh : sOk here = true) :
    evi Γ eNext (frL s.d (.int h) fo le lot work (some (.fz (.str here))) (some (.fz (.str r.1))) (some (.fz (.str r.2.1))) (some (.fz (.int r.2.2))) v10 v11) S = .ok ((nexts here r).map .str) S := by
  unfold nexts
  by_cases a : r.1 = here
  · simp [frL, eNext, Ex.isPk, eq_str k1 hh, eq_str hh hh, a, lim]
  · by_cases b : r.2.1 = here
    · simp [frL, eNext, Ex.isPk, eq_str k1 hh, eq_str k2 hh, eq_str hh hh, a, b, lim]
    · simp [frL, eNext, Ex.isPk, eq_str k1 hh, eq_str k2 hh, eq_str hh hh, a, b, lim]
/-- one ridge -/
theorem ridge_step (g : Good s) {lot work : List Str} {here : Str} {r : Rid} (hr : r ∈ s.ridges) (hh : sOk here = true) (hl : ∀ y ∈ lot, sOk y = true) (hn : lot.length < 5000) (hw : work.length < 5000) (v10 v11 : Option Sl) :
    ∃ w10, exec Γ (.seq (.forr (.name 10) eNext sNext) .skip) (frL s.d (.int h) fo le lot work (some (.fz (.str here))) (some (.fz (.str r.1))) (some (.fz (.str r.2.1))) (some (.fz (.int r.2.2))) v10 v11) S
      = .nx (frL s.d (.int h) fo le (vis h here (lot, work) r).1 (vis h here (lot, work) r).2 (some (.fz (.str here))) (some (.fz (.str r.1))) (some (.fz (.str r.2.1))) (some (.fz (.int r.2.2))) w10 v11) S := by
  obtain ⟨e1, e2⟩ := g.ends r hr
  have k1 := g.ok _ e1
  have k2 := g.ok _ e2
  have one : ∀ x, sOk x = true → nexts here r = [x] → ∃ w10, exec Γ (.seq (.forr (.name 10) eNext sNext) .skip) (frL s.d (.int h) fo le lot work (some (.fz (.str here))) (some (.fz (.str r.1))) (some (.fz (.str r.2.1))) (some (.fz (.int r.2.2))) v10 v11) S
      = .nx (frL s.d (.int h) fo le (vis h here (lot, work) r).1 (vis h here (lot, work) r).2 (some (.fz (.str here))) (some (.fz (.str r.1))) (some (.fz (.str r.2.1))) (some (.fz (.int r.2.2))) w10 v11) S := fun x kx ex => by
    refine ⟨some (.fz (.str x)), ?_⟩
    have st := next_step (Γ := Γ) (s := s) (h := h) (S := S) (fo := fo) (le := le) (here := here) (r := r) (v11 := v11) kx hl hn hw
    unfold vis
    rw [ex_seq, ex_forr, next_ev k1 k2 hh, ex]
    simp only [List.map_cons, List.map_nil, ou_ok, List.length_singleton, floop, List.foldl_cons, List.foldl_nil]
    rw [if_pos (by decide)]
    have eb : bindT (.name 10) (.str x) (frL s.d (.int h) fo le lot work (some (.fz (.str here))) (some (.fz (.str r.1))) (some (.fz (.str r.2.1))) (some (.fz (.int r.2.2))) v10 v11) = some (frL s.d (.int h) fo le lot work (some (.fz (.str here))) (some (.fz (.str r.1))) (some (.fz (.str r.2.1))) (some (.fz (.int r.2.2))) (some (.fz (.str x))) v11) := by simp [frL]
    rw [eb, optU_some, st]
    simp
  by_cases a : r.1 = here
  · exact one r.2.1 k2 (by unfold nexts; rw [if_pos a])
  · by_cases b : r.2.1 = here
    · exact one r.1 k1 (by unfold nexts; rw [if_neg a, if_pos b])
    · refine ⟨v10, ?_⟩
      have ex : nexts here r = [] := by unfold nexts; rw [if_neg a, if_neg b]
      unfold vis
      rw [ex_seq, ex_forr, next_ev k1 k2 hh, ex]
      simp [floop, lim]
/-- all ridges, from one pool -/
theorem ridges_loop (g : Good s) {here : Str} (hh : sOk here = true) : ∀ (rs : List Rid) (lot work : List Str) (v7 v8 v9 v10 v11 : Option Sl), (∀ r ∈ rs, r ∈ s.ridges) → (∀ y ∈ lot, sOk y = true) → lot.length + rs.length < 5000 → work.length + rs.length < 5000 →
    ∃ w7 w8 w9 w10, floop (bindT tRid) (fun ρ S => exec Γ (.seq (.forr (.name 10) eNext sNext) .skip) ρ S) (rs.map eR) (frL s.d (.int h) fo le lot work (some (.fz (.str here))) v7 v8 v9 v10 v11) S
      = .nx (frL s.d (.int h) fo le (rs.foldl (vis h here) (lot, work)).1 (rs.foldl (vis h here) (lot, work)).2 (some (.fz (.str here))) w7 w8 w9 w10 v11) S
  | [], lot, work, v7, v8, v9, v10, v11, _, _, _, _ => ⟨v7, v8, v9, v10, rfl⟩
  | r :: rs, lot, work, v7, v8, v9, v10, v11, hr, hl, hn, hw => by
    obtain ⟨w10, e1⟩ := ridge_step (Γ := Γ) (S := S) (fo := fo) (le := le) (h := h) (lot := lot) (work := work) g (hr r List.mem_cons_self) hh hl (by rw [List.length_cons] at hn; omega) (by rw [List.length_cons] at hw; omega) v10 v11
    obtain ⟨q1, q2⟩ := g.ends r (hr r List.mem_cons_self)
    have len : (vis h here (lot, work) r).1.length ≤ lot.length + 1 ∧ (vis h here (lot, work) r).2.length ≤ work.length + 1 ∧ ∀ y ∈ (vis h here (lot, work) r).1, sOk y = true := by
      unfold vis nexts
      split
      · simp only [List.foldl_cons, List.foldl_nil]
        exact ⟨add1_len.1, add1_len.2, fun y hy => (add1_keep hy).elim (hl y) fun e => by rw [e]; exact g.ok _ q2⟩
      · split
        · simp only [List.foldl_cons, List.foldl_nil]
          exact ⟨add1_len.1, add1_len.2, fun y hy => (add1_keep hy).elim (hl y) fun e => by rw [e]; exact g.ok _ q1⟩
        · exact ⟨Nat.le_succ _, Nat.le_succ _, hl⟩
    simp at hn hw
    obtain ⟨w7, w8, w9, w10', e2⟩ := ridges_loop g hh rs (vis h here (lot, work) r).1 (vis h here (lot, work) r).2 (some (.fz (.str r.1))) (some (.fz (.str r.2.1))) (some (.fz (.int r.2.2))) w10 v11 (fun r' h' => hr r' (List.mem_cons_of_mem _ h')) len.2.2 (by omega) (by omega)
    refine ⟨w7, w8, w9, w10', ?_⟩
    rw [List.map_cons, floop, rid_bind, optU_some, e1, then_nx, e2]
    rfl
theorem add1_ge {ok : Bool} {st : St2} {x : Str} : st.1.length ≤ (add1 ok st x).1.length := by
  unfold add1
  split <;> simp
theorem vis_ge {here : Str} (r : Rid) (st : St2) : st.1.length ≤ (vis h here st r).1.length := by
  unfold vis nexts
  split
  · exact add1_ge
  · split
    · exact add1_ge
    · exact Nat.le_refl _
theorem viss_ge {here : Str} : ∀ (rs : List Rid) (st : St2), st.1.length ≤ (rs.foldl (vis h here) st).1.length
  | [], st => Nat.le_refl _
  | r :: rs, st => Nat.le_trans (vis_ge r st) (viss_ge rs _)
abbrev sWork : Sm := (.seq (.pop 6 5)
 (.seq (.forr tRid (.walk (.ix (.var 0) (.int 1))) (.seq (.forr (.name 10) eNext sNext)
 .skip))
 .skip))
abbrev cWork : Ex := (.cmp .ne (.pk 5) (.lst .nil))
theorem work_step (g : Good s) {lot work : List Str} {here : Str} (hh : sOk here = true) (hl : ∀ y ∈ lot, sOk y = true) (hn : lot.length ≤ 1000) (hw : work.length ≤ 2000) (v6 v7 v8 v9 v10 v11 : Option Sl) :
    ∃ w7 w8 w9 w10, exec Γ sWork (frL s.d (.int h) fo le lot (work ++ [here]) v6 v7 v8 v9 v10 v11) S = .nx (frL s.d (.int h) fo le (s.ridges.foldl (vis h here) (lot, work)).1 (s.ridges.foldl (vis h here) (lot, work)).2 (some (.fz (.str here))) w7 w8 w9 w10 v11) S := by
  have hr := g.nr
  obtain ⟨w7, w8, w9, w10, e⟩ := ridges_loop (Γ := Γ) (S := S) (fo := fo) (le := le) (h := h) g hh s.ridges lot work v7 v8 v9 v10 v11 (fun r h => h) hl (by omega) (by omega)
  refine ⟨w7, w8, w9, w10, ?_⟩
  have e1 : exec Γ (.pop 6 5) (frL s.d (.int h) fo le lot (work ++ [here]) v6 v7 v8 v9 v10 v11) S = .nx (frL s.d (.int h) fo le lot work (some (.fz (.str here))) v7 v8 v9 v10 v11) S := by
    simp [frL]
  have e2 : evi Γ (.walk (.ix (.var 0) (.int 1))) (frL s.d (.int h) fo le lot work (some (.fz (.str here))) v7 v8 v9 v10 v11) S = .ok (s.ridges.map eR) S := by
    simp [frL, Shr.d, Ex.isPk]
  rw [ex_seq, e1, then_nx, ex_seq, ex_forr, e2, ou_ok, if_pos (by rw [List.length_map]; exact small (by omega)), e]
  simp
/-- the stack is worked off -/
theorem work_loop (g : Good s) {root : Str} (hroot : root ∈ s.pools) (v6 v7 v8 v9 v10 v11 : Option Sl) :
    ∃ lot w6 w7 w8 w9 w10, exec Γ (.whil cWork sWork) (frL s.d (.int h) fo le [root] [root] v6 v7 v8 v9 v10 v11) S = .nx (frL s.d (.int h) fo le lot [] w6 w7 w8 w9 w10 v11) S ∧ LotInv s h root lot [] := by
  rw [ex_whil]
  have hp := g.np
  refine wloop_rec (fun m ρ S' => S' = S ∧ ∃ lot work w6 w7 w8 w9 w10, ρ = frL s.d (.int h) fo le lot work w6 w7 w8 w9 w10 v11 ∧ LotInv s h root lot work ∧ work.length + 2 * (s.pools.length - lot.length) = m ∧ m ≤ 2001)
    (fun o => ∃ lot w6 w7 w8 w9 w10, o = .nx (frL s.d (.int h) fo le lot [] w6 w7 w8 w9 w10 v11) S ∧ LotInv s h root lot []) ?_ wmost (1 + 2 * (s.pools.length - 1)) _ S (by unfold wmost; omega) ⟨rfl, [root], [root], v6, v7, v8, v9, v10, rfl, lot_start, rfl, by omega⟩
  rintro m ρ S' ⟨rfl, lot, work, w6, w7, w8, w9, w10, rfl, L, hm, hm2⟩
  have hl : ∀ y ∈ lot, sOk y = true := fun y hy => g.ok y (g.conn (L.con y hy) hroot)
  have hlen := L.len g hroot
  have hc : evT Γ cWork (frL s.d (.int h) fo le lot work w6 w7 w8 w9 w10 v11) S' = .ok (!work.isEmpty) S' := by
    have := ne_nil (n := 0) (xs := work.map D.str) (fun x hx => by
      have ⟨y, hy, ey⟩ := List.mem_map.mp hx; subst ey
      exact nice_str (hl y (L.sub y hy))) (by decide)
    simp [frL, Ex.isPk, lim, this]
  refine ⟨!work.isEmpty, hc, fun e => ?_, fun e => .inl ?_⟩
  · have e : work = [] := by simpa using e
    subst e
    exact ⟨lot, w6, w7, w8, w9, w10, rfl, L⟩
  · have hne : work ≠ [] := by simpa using e
    obtain ⟨wk, here, rfl⟩ : ∃ wk here, work = wk ++ [here] := ⟨work.dropLast, work.getLast hne, (List.dropLast_concat_getLast hne).symm⟩
    have hh := hl here (L.sub here (by simp))
    have hwl : wk.length ≤ 2000 := by
      rw [List.length_append, List.length_singleton] at hm
      omega
    obtain ⟨L2, hlen2⟩ := lot_turn L
    obtain ⟨x7, x8, x9, x10, ex⟩ := work_step (Γ := Γ) (S := S') (fo := fo) (le := le) (h := h) g hh hl (by omega) hwl w6 w7 w8 w9 w10 v11
    refine ⟨_, _, S', ex, ?_, rfl, _, _, _, x7, x8, x9, x10, rfl, L2, rfl, ?_⟩
    all_goals have l3 := viss_ge (h := h) (here := here) s.ridges (lot, wk)
    all_goals simp only at l3
    all_goals have := L2.len g hroot
    all_goals rw [List.length_append, List.length_singleton] at hm
    all_goals omega
abbrev frO (sd hd : D) (found : List (List Str)) (left : List Str) (v4 v5 v6 v7 v8 v9 v10 v11 : Option Sl) : Fr :=
  [some (.fz sd), some (.fz hd), some (.ow (found.map lotD)), some (.fz (.lst (left.map .str))), v4, v5, v6, v7, v8, v9, v10, v11]
abbrev sOuter : Sm := (.seq (.par [(4, true), (5, true)] (.cons (.lst (.cons (.ix (.var 3) (.int 0)) .nil)) (.cons (.lst (.cons (.ix (.var 3) (.int 0)) .nil)) .nil)))
 (.seq (.whil cWork sWork)
 (.seq (.app 2 (.blt .tuple (.cons (.blt .sorted (.cons (.pk 4) .nil)) .nil)))
 (.seq (.set 3 (.comp [("pool", 11)] (.var 11) (.name 11) (.walk (.var 3)) (.part (.cmp .nin (.var 11) (.pk 4)))))
 .skip))))
abbrev cOuter : Ex := (.cmp .ne (.var 3) (.lst .nil))
theorem outer_step (g : Good s) {found : List (List Str)} {p : Str} {rest : List Str} (hp : ∀ x ∈ p :: rest, x ∈ s.pools) (hl : (p :: rest).length ≤ 1000) (hf : found.length ≤ 1000) (v4 v5 v6 v7 v8 v9 v10 v11 : Option Sl) :
    ∃ w4 w5 w6 w7 w8 w9 w10, exec Γ sOuter (frO s.d (.int h) found (p :: rest) v4 v5 v6 v7 v8 v9 v10 v11) S = .nx (frO s.d (.int h) (found ++ [comp s h p]) ((p :: rest).filter fun x => decide (x ∉ comp s h p)) w4 w5 w6 w7 w8 w9 w10 v11) S := by
  have hpp := hp p List.mem_cons_self
  obtain ⟨lot, w6, w7, w8, w9, w10, e, L⟩ := work_loop (Γ := Γ) (S := S) (fo := found.map lotD) (le := .lst ((p :: rest).map .str)) (h := h) g hpp v6 v7 v8 v9 v10 v11
  have hok : ∀ y ∈ lot, sOk y = true := fun y hy => g.ok y (g.conn (L.con y hy) hpp)
  have hlen := L.len g hpp
  have hnp := g.np
  have e1 : exec Γ (.par [(4, true), (5, true)] (.cons (.lst (.cons (.ix (.var 3) (.int 0)) .nil)) (.cons (.lst (.cons (.ix (.var 3) (.int 0)) .nil)) .nil))) (frO s.d (.int h) found (p :: rest) v4 v5 v6 v7 v8 v9 v10 v11) S = .nx (frL s.d (.int h) (found.map lotD) (.lst ((p :: rest).map .str)) [p] [p] v6 v7 v8 v9 v10 v11) S := by
    simp [frO, frL, freshAll, Ex.fresh, Ex.isPk, lim, setAll, slOf, ownS]
  have cm : ∀ x ∈ s.pools, (x ∈ lot ↔ x ∈ comp s h p) := fun x hx => by
    rw [← lot_end g hpp L, mem_srtL]
  have e3 : exec Γ (.app 2 (.blt .tuple (.cons (.blt .sorted (.cons (.pk 4) .nil)) .nil))) (frL s.d (.int h) (found.map lotD) (.lst ((p :: rest).map .str)) lot [] w6 w7 w8 w9 w10 v11) S = .nx (frL s.d (.int h) ((found ++ [comp s h p]).map lotD) (.lst ((p :: rest).map .str)) lot [] w6 w7 w8 w9 w10 v11) S := by
    have : found.length < lim := Nat.lt_of_le_of_lt hf (by decide)
    simp [frL, Ex.isPk, sorted_str hok (by omega), tuple_lst, lot_end g hpp L, this, lotD]
  have e4 : exec Γ (.set 3 (.comp [("pool", 11)] (.var 11) (.name 11) (.walk (.var 3)) (.part (.cmp .nin (.var 11) (.pk 4))))) (frL s.d (.int h) ((found ++ [comp s h p]).map lotD) (.lst ((p :: rest).map .str)) lot [] w6 w7 w8 w9 w10 v11) S = .nx (frL s.d (.int h) ((found ++ [comp s h p]).map lotD) (.lst (((p :: rest).filter fun x => decide (x ∉ comp s h p)).map .str)) lot [] w6 w7 w8 w9 w10 v11) S := by
    have hlim : ¬ lim < ((p :: rest).map D.str).length := Nat.not_lt.mpr (by rw [List.length_map]; exact small (by omega))
    rw [ex_set, ev_comp, evi_walk]
    simp only [Ex.isPk, frL, ev_var, frAt_succ, frAt_zero, ofO_some, bind_ok, walk_lst, Bool.false_or, decide_eq_true_eq, if_neg hlim, Bool.false_eq_true, if_false]
    rw [turns_map D.str (fun x => !decide (x ∈ lot)) D.str (p :: rest) fun x hx => ⟨[some (.fz s.d), some (.fz (.int h)), some (.ow ((found ++ [comp s h p]).map lotD)), some (.fz (.lst ((p :: rest).map .str))), some (.ow (lot.map .str)), some (.ow []), w6, w7, w8, w9, w10, some (.fz (.str x))], by simp [wipeF], by simp [nin_str (g.ok x (hp x hx)) hok], fun _ => by simp⟩]
    have : (p :: rest).filter (fun x => !decide (x ∈ lot)) = (p :: rest).filter fun x => decide (x ∉ comp s h p) := List.filter_congr fun x hx => by
      rw [← decide_not]
      exact decide_eq_decide.mpr (not_congr (cm x (hp x hx)))
    rw [this]
    simp
  refine ⟨some (.ow (lot.map .str)), some (.ow []), w6, w7, w8, w9, w10, ?_⟩
  rw [ex_seq, e1, then_nx, ex_seq, e, then_nx, ex_seq, e3, then_nx, ex_seq, e4, then_nx, ex_skip]
  rfl
structure OutInv (s : Shr) (h : Int) (found : List (List Str)) (left : List Str) : Prop where
  nd : found.Nodup
  of : ∀ l ∈ found, ∃ p ∈ s.pools, l = comp s h p
  le : left = s.pools.filter fun q => decide (∀ l ∈ found, q ∉ l)
theorem out_step {found : List (List Str)} {p : Str} {rest : List Str} (O : OutInv s h found (p :: rest)) : OutInv s h (found ++ [comp s h p]) ((p :: rest).filter fun x => decide (x ∉ comp s h p)) := by
  have hp : p ∈ s.pools ∧ ∀ l ∈ found, p ∉ l := by
    have : p ∈ p :: rest := List.mem_cons_self
    rw [O.le, List.mem_filter] at this
    exact ⟨this.1, of_decide_eq_true this.2⟩
  refine ⟨List.nodup_append.mpr ⟨O.nd, by simp, fun a ha b hb e => ?_⟩, fun l hl => ?_, ?_⟩
  · simp at hb
    subst hb
    subst e
    exact hp.2 _ ha (mem_comp.mpr ⟨hp.1, .refl⟩)
  · rcases List.mem_append.mp hl with q | q
    · exact O.of l q
    · simp at q
      exact ⟨p, hp.1, q⟩
  · rw [O.le, List.filter_filter]
    refine List.filter_congr fun x hx => ?_
    rw [← Bool.decide_and]
    refine decide_eq_decide.mpr ⟨fun ⟨a, b⟩ l hl => ?_, fun q => ⟨q _ (by simp), fun l hl => q l (List.mem_append_left _ hl)⟩⟩
    rcases List.mem_append.mp hl with z | z
    · exact b l z
    · simp at z; subst z; exact a
theorem out_end {found : List (List Str)} (O : OutInv s h found []) : srtL (lexL sLt) found = lots s h := by
  refine lots_of O.nd fun l => ⟨O.of l, fun ⟨p, hp, e⟩ => ?_⟩
  have : ¬ ∀ l ∈ found, p ∉ l := fun z => by
    have : p ∈ s.pools.filter fun q => decide (∀ l ∈ found, q ∉ l) := List.mem_filter.mpr ⟨hp, decide_eq_true z⟩
    rw [← O.le] at this
    cases this
  obtain ⟨l', hl', hpl⟩ : ∃ l' ∈ found, p ∈ l' := Classical.byContradiction fun z => this fun l hl hp => z ⟨l, hl, hp⟩
  obtain ⟨p', hp', e'⟩ := O.of l' hl'
  subst e'
  rw [e, ← comp_eq (mem_comp.mp hpl).2]
  exact hl'
theorem outer_loop (g : Good s) (v4 v5 v6 v7 v8 v9 v10 v11 : Option Sl) :
    ∃ found w4 w5 w6 w7 w8 w9 w10, exec Γ (.whil cOuter sOuter) (frO s.d (.int h) [] s.pools v4 v5 v6 v7 v8 v9 v10 v11) S = .nx (frO s.d (.int h) found [] w4 w5 w6 w7 w8 w9 w10 v11) S ∧ OutInv s h found [] ∧ found.length ≤ 1000 := by
  rw [ex_whil]
  have hp := g.np
  refine wloop_rec (fun m ρ S' => S' = S ∧ ∃ found left w4 w5 w6 w7 w8 w9 w10, ρ = frO s.d (.int h) found left w4 w5 w6 w7 w8 w9 w10 v11 ∧ OutInv s h found left ∧ left.length = m ∧ found.length + left.length ≤ s.pools.length)
    (fun o => ∃ found w4 w5 w6 w7 w8 w9 w10, o = .nx (frO s.d (.int h) found [] w4 w5 w6 w7 w8 w9 w10 v11) S ∧ OutInv s h found [] ∧ found.length ≤ 1000) ?_ wmost s.pools.length _ S (by unfold wmost; omega) ⟨rfl, [], s.pools, v4, v5, v6, v7, v8, v9, v10, rfl, ⟨List.nodup_nil, (fun _ h => nomatch h), ?_⟩, rfl, by simp⟩
  · rintro m ρ S' ⟨rfl, found, left, w4, w5, w6, w7, w8, w9, w10, rfl, O, hm, hc⟩
    have hl : ∀ y ∈ left, y ∈ s.pools := fun y hy => by rw [O.le] at hy; exact (List.mem_filter.mp hy).1
    have hce : evT Γ cOuter (frO s.d (.int h) found left w4 w5 w6 w7 w8 w9 w10 v11) S' = .ok (!left.isEmpty) S' := by
      have := ne_nil (n := 0) (xs := left.map D.str) (fun x hx => by
        have ⟨y, hy, ey⟩ := List.mem_map.mp hx; subst ey
        exact nice_str (g.ok y (hl y hy))) (by decide)
      simp [frO, Ex.isPk, lim, this]
    refine ⟨!left.isEmpty, hce, fun e => ?_, fun e => .inl ?_⟩
    · have e : left = [] := by simpa using e
      subst e
      exact ⟨found, w4, w5, w6, w7, w8, w9, w10, rfl, O, by simp at hc; omega⟩
    · cases left with
      | nil => cases e
      | cons p rest =>
        obtain ⟨x4, x5, x6, x7, x8, x9, x10, ex⟩ := outer_step (Γ := Γ) (S := S') (h := h) g (found := found) hl (by omega) (by simp at hc; omega) w4 w5 w6 w7 w8 w9 w10 v11
        have hlt : ((p :: rest).filter fun x => decide (x ∉ comp s h p)).length ≤ rest.length := by
          have hpc : p ∈ comp s h p := mem_comp.mpr ⟨hl p List.mem_cons_self, .refl⟩
          rw [List.filter_cons, if_neg (by simp [hpc])]
          exact List.length_filter_le _ _
        refine ⟨_, _, S', ex, ?_, rfl, _, _, x4, x5, x6, x7, x8, x9, x10, rfl, out_step O, rfl, ?_⟩
        · rw [← hm, List.length_cons]; omega
        · rw [List.length_append, List.length_singleton]; rw [List.length_cons] at hc; omega
  · rw [List.filter_eq_self.mpr]
    intro a _
    simp
end
theorem lots_nice {s : Shr} {h : Int} (g : Good s) : ∀ l ∈ lots s h, l ≠ [] ∧ ∀ x ∈ l, sOk x = true := fun l hl => by
  obtain ⟨p, hp, rfl⟩ := mem_lots.mp hl
  refine ⟨fun e => ?_, fun x hx => g.ok x (mem_comp.mp hx).1⟩
  have : p ∈ comp s h p := mem_comp.mpr ⟨hp, .refl⟩
  rw [e] at this
  cases this
theorem all_lots_eq {P : Prg} (H : Has P c_all_lots k_all_lots) {s : Shr} (g : Good s) (n : Nat) (h : Int) (S : Sto) : call P (n + 1) i_all_lots [s.d, .int h] S = .ok (.lst ((lots s h).map lotD)) S := by
  rw [H.run (d := d_all_lots) (by decide) rfl rfl]
  have e0 : startF d_all_lots.nm.length [s.d, .int h] = [some (.fz s.d), some (.fz (.int h)), none, none, none, none, none, none, none, none, none, none] := rfl
  obtain ⟨found, w4, w5, w6, w7, w8, w9, w10, e1, O, hf⟩ := outer_loop (Γ := ⟨P.con, call P n⟩) (S := S) (h := h) g none none none none none none none none
  have e2 : exec ⟨P.con, call P n⟩ (.par [(2, true), (3, false)] (.cons (.lst .nil) (.cons (.blt .list (.cons (.ix (.var 0) (.int 0)) .nil)) .nil))) [some (.fz s.d), some (.fz (.int h)), none, none, none, none, none, none, none, none, none, none] S = .nx (frO s.d (.int h) [] s.pools none none none none none none none none) S := by
    simp [frO, freshAll, Ex.fresh, Ex.isPk, lim, setAll, slOf, ownS, Shr.d, list_tup]
  have hl : ∀ l ∈ found, l ≠ [] ∧ ∀ x ∈ l, sOk x = true := fun l hl => lots_nice (h := h) g l (by rw [← out_end O, mem_srtL]; exact hl)
  have e3 : exec ⟨P.con, call P n⟩ (.ret (.blt .sorted (.cons (.pk 2) .nil))) (frO s.d (.int h) found [] w4 w5 w6 w7 w8 w9 w10 none) S = .rt (.lst ((lots s h).map lotD)) S := by
    simp [frO, Ex.isPk, sorted_lots hl (by omega), out_end O]
  show ouR (exec _ (.seq (.par [(2, true), (3, false)] (.cons (.lst .nil) (.cons (.blt .list (.cons (.ix (.var 0) (.int 0)) .nil)) .nil))) (.seq (.whil cOuter sOuter) (.seq (.ret (.blt .sorted (.cons (.pk 2) .nil))) .skip))) _ S) = _
  rw [e0, ex_seq, e2, then_nx, ex_seq, e1, then_nx, ex_seq, e3, then_rt, ouR_rt]
end LP.Q
namespace LP.Q
open PySem
open Classical
/-! ### comprehensions -/
section
variable {Γ : Gam} {ρ : Fr} {S : Sto} {own : List (Str × Nat)} {elt it cnd : Ex} {tg : Tg}
theorem ev_compF {α : Type} (e : α → D) (p : α → Bool) (f : α → D) (xs : List α) (hi : evi Γ it ρ S = .ok (xs.map e) S) (hk : elt.isPk = false) (hl : xs.length ≤ 5000)
    (h : ∀ x ∈ xs, ∃ ρ', bindT tg (e x) (wipeF ρ (own.map (·.2))) = some ρ' ∧ evc Γ cnd ρ' S = .ok (p x) S ∧ (p x = true → ev Γ elt ρ' S = .ok (f x) S)) : ev Γ (.comp own elt tg it cnd) ρ S = .ok (.lst ((xs.filter p).map f)) S := by
  have hlim : ¬ lim < (xs.map e).length := Nat.not_lt.mpr (by rw [List.length_map]; exact small (by omega))
  rw [ev_comp, hi, bind_ok, hk, turns_map e p f xs h]
  simp [List.length_map] at hlim
  simp [hlim]
theorem ev_compA {α : Type} (e : α → D) (f : α → D) (xs : List α) (hi : evi Γ it ρ S = .ok (xs.map e) S) (hk : elt.isPk = false) (hl : xs.length ≤ 5000)
    (h : ∀ x ∈ xs, ∃ ρ', bindT tg (e x) (wipeF ρ (own.map (·.2))) = some ρ' ∧ evc Γ cnd ρ' S = .ok true S ∧ ev Γ elt ρ' S = .ok (f x) S) : ev Γ (.comp own elt tg it cnd) ρ S = .ok (.lst (xs.map f)) S := by
  have hlim : ¬ lim < (xs.map e).length := Nat.not_lt.mpr (by rw [List.length_map]; exact small (by omega))
  rw [ev_comp, hi, bind_ok, hk, turns_all e f xs h]
  simp [List.length_map] at hlim
  simp [hlim]
end
theorem toBls_map {α : Type} (f : α → Bool) : ∀ xs : List α, toBls (xs.map fun x => D.bl (f x)) = some (xs.map f)
  | [] => rfl
  | x :: xs => by rw [List.map_cons, toBls, toBls_map f xs]; rfl
theorem toInts_map {α : Type} (f : α → Int) : ∀ xs : List α, toInts (xs.map fun x => D.int (f x)) = some (xs.map f)
  | [] => rfl
  | x :: xs => by rw [List.map_cons, toInts, toInts_map f xs]; rfl
theorem any_map {α : Type} {S : Sto} (f : α → Bool) (xs : List α) : blt .any [.lst (xs.map fun x => .bl (f x))] S = some (.bl (xs.any f)) := by
  show (toBls _).map _ = _
  rw [toBls_map]
  simp [List.any_map]
theorem all_map {α : Type} {S : Sto} (f : α → Bool) (xs : List α) : blt .all [.lst (xs.map fun x => .bl (f x))] S = some (.bl (xs.all f)) := by
  show (toBls _).map _ = _
  rw [toBls_map]
  simp [List.all_map]
theorem sum_map {α : Type} {S : Sto} (f : α → Int) (xs : List α) : blt .sum [.lst (xs.map fun x => .int (f x))] S = some (.int (xs.map f).sum) := by
  show (toInts _).map _ = _
  rw [toInts_map]
  rfl
theorem len_tup {xs : List D} {S : Sto} : blt .len [.tup xs] S = some (.int xs.length) := rfl
theorem len_lst {xs : List D} {S : Sto} : blt .len [.lst xs] S = some (.int xs.length) := rfl
/-- heights -/
def tenI : List Int := [0, 1, 2, 3, 4, 5, 6, 7, 8, 9]
theorem rng10 : rngD [.int 10] = some (tenI.map .int) := rfl
def optD : Option Int → D
  | none => .non
  | some i => .int i
section
variable {P : Prg} {s : Shr} {S : Sto} {n : Nat}
theorem lots_len (g : Good s) (h : Int) : (lots s h).length ≤ 1000 := by
  unfold lots
  rw [len_srtL]
  refine Nat.le_trans (List.Nodup.length_le_of_subset nodup_ddL fun x hx => mem_ddL.mp hx) ?_
  rw [List.length_map]
  exact g.np
theorem are_one_eq (H : Has P c_are_one k_are_one) (g : Good s) (h : Int) {a b : Str} (ha : a ∈ s.pools) (hb : b ∈ s.pools) : call P (n + 2) i_are_one [s.d, .int h, .str a, .str b] S = .ok (.bl (decide (Conn s h a b))) S := by
  rw [H.run (d := d_are_one) (by decide) rfl rfl]
  have hl := lots_len g h
  simp [d_are_one, startF, Ex.isPk]
  rw [ev_compA lotD (fun l => .bl (decide (a ∈ l) && decide (b ∈ l))) (lots s h) ?_ rfl (by omega) ?_]
  · simp [any_map]
    refine Bool.eq_iff_iff.mpr ?_
    rw [List.any_eq_true]
    simp only [decide_eq_true_eq, Bool.and_eq_true]
    constructor
    · rintro ⟨l, hl, q1, q2⟩
      obtain ⟨p, hp, rfl⟩ := mem_lots.mp hl
      exact (mem_comp.mp q1).2.symm.trans (mem_comp.mp q2).2
    · exact fun c => ⟨comp s h a, mem_lots.mpr ⟨a, ha, rfl⟩, mem_comp.mpr ⟨ha, .refl⟩, mem_comp.mpr ⟨hb, c⟩⟩
  · simp [Ex.isPk, all_lots_eq (H.mono (by decide) (by decide)) g n h S]
  · intro l hl
    refine ⟨[some (.fz s.d), some (.fz (.int h)), some (.fz (.str a)), some (.fz (.str b)), some (.fz (lotD l))], by simp [wipeF], by simp, ?_⟩
    simp [lotD, inn_tup]
/-- the least height at which two pools are one -/
noncomputable def fromH (s : Shr) (a b : Str) : Option Int := (tenI.filter fun h => decide (Conn s h a b)).head?
theorem ne_ints {xs : List Int} : cmpD .ne (.lst (xs.map .int)) (.lst []) = some (!xs.isEmpty) := by
  rw [ne_nil (n := 0) (xs := xs.map D.int) (fun x hx => by
    have ⟨y, hy, ey⟩ := List.mem_map.mp hx; subst ey
    exact nice_int) (by decide)]
  simp
theorem least_from_eq (H : Has P c_least_from k_least_from) (g : Good s) {a b : Str} (ha : a ∈ s.pools) (hb : b ∈ s.pools) : call P (n + 3) i_least_from [s.d, .str a, .str b] S = .ok (optD (fromH s a b)) S := by
  rw [H.run (d := d_least_from) (by decide) rfl rfl]
  have hh := H.con (x := "HIGHEST") (by decide) rfl
  simp [d_least_from, startF, Ex.isPk]
  rw [ev_compF D.int (fun h => decide (Conn s h a b)) D.int tenI ?_ rfl (by decide) ?_]
  · unfold fromH
    generalize tenI.filter (fun h => decide (Conn s h a b)) = xs
    simp [ne_ints]
    cases xs <;> simp [optD]
  · simp [Ex.isPk, hh, rng10]
  · intro h hh'
    refine ⟨[some (.fz s.d), some (.fz (.str a)), some (.fz (.str b)), none, some (.fz (.int h))], by simp [wipeF], ?_, fun _ => by simp⟩
    simp [Ex.isPk, are_one_eq (n := n) (S := S) (H.mono (by decide) (by decide)) g h ha hb]
end
end LP.Q
namespace LP.Q
open PySem
open Classical
@[simp] theorem ne_bl {a b : Bool} : cmpD .ne (.bl a) (.bl b) = some (a != b) := by
  rw [neD_ok (nice_bl.eqOk nice_bl (by decide) (by decide)), D.eq]
  rfl
@[simp] theorem eq_bl {a b : Bool} : cmpD .eq (.bl a) (.bl b) = some (a == b) := by
  rw [eqD_ok (nice_bl.eqOk nice_bl (by decide) (by decide)), D.eq]
/-! ### the law's own look at one lot -/
theorem passes_fold {rs : List Rid} {h : Int} : ∀ (ps : List Str) (f : List Str), ps.foldl (fun f _ => rs.foldl (pw h) f) f = passes rs h ps.length f
  | [], f => rfl
  | p :: ps, f => by rw [List.foldl_cons, passes_fold ps]; rfl
section
variable {Γ : Gam} {s : Shr} {h : Int} {S : Sto} {root : Str}
abbrev frW (s : Shr) (h : Int) (root : Str) (f : List Str) (v4 v5 v6 v7 : Option Sl) : Fr := [some (.fz s.d), some (.fz (.int h)), some (.fz (.str root)), some (.ow (f.map .str)), v4, v5, v6, v7]
abbrev tRidW : Tg := .tcons (.name 5) (.tcons (.name 6) (.tcons (.name 7) .tnil))
abbrev sWith : Sm := (.seq (.ite (.andE (.cmp .le (.var 7) (.var 1)) (.cmp .ne (.cmp .inn (.var 5) (.pk 3)) (.cmp .inn (.var 6) (.pk 3)))) (.seq (.app 3 (.ife (.cmp .inn (.var 5) (.pk 3)) (.var 6) (.var 5)))
 .skip) .skip)
 .skip)
theorem with_step {f : List Str} {r : Rid} {v4 : Option Sl} (k1 : sOk r.1 = true) (k2 : sOk r.2.1 = true) (hf : ∀ y ∈ f, sOk y = true) (hl : f.length ≤ 1000) :
    exec Γ sWith (frW s h root f v4 (some (.fz (.str r.1))) (some (.fz (.str r.2.1))) (some (.fz (.int r.2.2)))) S = .nx (frW s h root (pw h f r) v4 (some (.fz (.str r.1))) (some (.fz (.str r.2.1))) (some (.fz (.int r.2.2)))) S := by
  have l1 : f.length < lim := Nat.lt_of_le_of_lt hl (by decide)
  unfold pw
  by_cases q1 : r.2.2 ≤ h <;> by_cases q2 : r.1 ∈ f <;> by_cases q3 : r.2.1 ∈ f <;> simp [frW, sWith, Ex.isPk, inn_str k1 hf, inn_str k2 hf, q1, q2, q3, l1]
theorem PwInv.len (g : Good s) {f : List Str} (hr : root ∈ s.pools) (L : PwInv s h root f) : f.length ≤ s.pools.length := List.Nodup.length_le_of_subset L.nd fun x hx => g.conn (L.con x hx) hr
theorem with_pass (g : Good s) (hr : root ∈ s.pools) {f : List Str} (L : PwInv s h root f) (v4 v5 v6 v7 : Option Sl) : ∃ w5 w6 w7, exec Γ (.seq (.forr tRidW (.walk (.ix (.var 0) (.int 1))) sWith) .skip) (frW s h root f v4 v5 v6 v7) S = .nx (frW s h root (s.ridges.foldl (pw h) f) v4 w5 w6 w7) S := by
  have hnp := g.np
  have hnr := g.nr
  obtain ⟨ρ', S', e, rfl, _, w5, w6, w7, rfl⟩ := floop_fold (bnd := bindT tRidW) (b := fun ρ S => exec Γ sWith ρ S) eR (pw h) (fun f ρ S' => S' = S ∧ PwInv s h root f ∧ ∃ w5 w6 w7, ρ = frW s h root f v4 w5 w6 w7) s.ridges f (frW s h root f v4 v5 v6 v7) S
    (fun f r ρ S' hr' ⟨e, L, w5, w6, w7, e2⟩ => by
      subst e e2
      obtain ⟨q1, q2⟩ := g.ends r hr'
      refine ⟨_, _, S', ?_, with_step (g.ok _ q1) (g.ok _ q2) (fun y hy => g.ok y (g.conn (L.con y hy) hr)) (Nat.le_trans (L.len g hr) hnp), rfl, pw_step hr' L, _, _, _, rfl⟩
      simp [frW, tRidW, eR]) ⟨rfl, L, v5, v6, v7, rfl⟩
  refine ⟨w5, w6, w7, ?_⟩
  have e2 : evi Γ (.walk (.ix (.var 0) (.int 1))) (frW s h root f v4 v5 v6 v7) S' = .ok (s.ridges.map eR) S' := by simp [frW, Shr.d, Ex.isPk]
  rw [ex_seq, ex_forr, e2, ou_ok, if_pos (by rw [List.length_map]; exact small (by omega)), e]
  simp
end
section
variable {P : Prg} {s : Shr} {S : Sto} {n : Nat}
theorem law_with_eq (H : Has P c__law_with k__law_with) (g : Good s) (h : Int) {root : Str} (hr : root ∈ s.pools) : call P (n + 1) i__law_with [s.d, .int h, .str root] S = .ok (lotD (comp s h root)) S := by
  rw [H.run (d := d__law_with) (by decide) rfl rfl]
  have hnp := g.np
  have L0 : PwInv s h root [root] := ⟨by simp, by simp, fun x hx => by simp at hx; subst hx; exact .refl⟩
  obtain ⟨ρ', S', e, rfl, L, w4, w5, w6, w7, rfl⟩ := floop_fold (bnd := bindT (.name 4)) (b := fun ρ S => exec ⟨P.con, call P n⟩ (.seq (.forr tRidW (.walk (.ix (.var 0) (.int 1))) sWith) .skip) ρ S) D.str (fun f _ => s.ridges.foldl (pw h) f) (fun f ρ S' => S' = S ∧ PwInv s h root f ∧ ∃ w4 w5 w6 w7, ρ = frW s h root f w4 w5 w6 w7) s.pools [root] (frW s h root [root] none none none none) S
    (fun f p ρ S' hp ⟨e, L, w4, w5, w6, w7, e2⟩ => by
      subst e e2
      obtain ⟨x5, x6, x7, ex⟩ := with_pass (Γ := ⟨P.con, call P n⟩) (S := S') g hr L (some (.fz (.str p))) w5 w6 w7
      exact ⟨frW s h root f (some (.fz (.str p))) w5 w6 w7, _, S', by simp [frW], ex, rfl, pw_fold _ _ (fun r h => h) L, _, x5, x6, x7, rfl⟩) ⟨rfl, L0, none, none, none, none, rfl⟩
  rw [passes_fold] at e L
  have hok : ∀ y ∈ passes s.ridges h s.pools.length [root], sOk y = true := fun y hy => g.ok y (g.conn (L.con y hy) hr)
  have hl := L.len g hr
  have e2 : evi ⟨P.con, call P n⟩ (.walk (.ix (.var 0) (.int 0))) (frW s h root [root] none none none none) S' = .ok (s.pools.map .str) S' := by simp [frW, Shr.d, Ex.isPk]
  show ouR (exec _ (.seq (.own 3 (.lst (.cons (.var 2) .nil))) (.seq (.forr (.name 4) (.walk (.ix (.var 0) (.int 0))) (.seq (.forr tRidW (.walk (.ix (.var 0) (.int 1))) sWith) .skip)) (.seq (.ret (.blt .tuple (.cons (.blt .sorted (.cons (.pk 3) .nil)) .nil))) .skip))) [some (.fz s.d), some (.fz (.int h)), some (.fz (.str root)), none, none, none, none, none] S') = _
  have e1 : exec ⟨P.con, call P n⟩ (.own 3 (.lst (.cons (.var 2) .nil))) [some (.fz s.d), some (.fz (.int h)), some (.fz (.str root)), none, none, none, none, none] S' = .nx (frW s h root [root] none none none none) S' := by
    simp [frW, Ex.fresh, Ex.isPk, lim, ownS]
  rw [ex_seq, e1, then_nx, ex_seq, ex_forr, e2, ou_ok, if_pos (by rw [List.length_map]; exact small (by omega)), e]
  simp [Ex.isPk, sorted_str hok (by omega), tuple_lst, passes_comp g hr, lotD]
theorem law_from_eq (H : Has P c__law_from k__law_from) (g : Good s) {a b : Str} (ha : a ∈ s.pools) (hb : b ∈ s.pools) : call P (n + 2) i__law_from [s.d, .str a, .str b] S = .ok (.int ((fromH s a b).getD 10)) S := by
  rw [H.run (d := d__law_from) (by decide) rfl rfl]
  simp [d__law_from, startF, Ex.isPk]
  rw [ev_compF D.int (fun h => decide (Conn s h a b)) D.int tenI ?_ rfl (by decide) ?_]
  · unfold fromH
    generalize tenI.filter (fun h => decide (Conn s h a b)) = xs
    simp [ne_ints]
    cases xs <;> simp
  · simp [Ex.isPk, rng10]
  · intro h hh'
    refine ⟨[some (.fz s.d), some (.fz (.str a)), some (.fz (.str b)), none, some (.fz (.int h))], by simp [wipeF], ?_, fun _ => by simp⟩
    simp [Ex.isPk, law_with_eq (n := n) (S := S) (H.mono (by decide) (by decide)) g h ha, lotD, inn_tup, mem_comp, hb]
/-! ### counts -/
def cntD (c : List Int) : D := .tup (c.map .int)
def inLot (s : Shr) (c : List Int) (l : List Str) : Int := (((s.pools.zip c).filter fun q => decide (q.1 ∈ l)).map (·.2)).sum
theorem zip_map {α β : Type} (e : α → D) (f : β → D) (xs : List α) (ys : List β) : zipD (.tup (xs.map e)) (.tup (ys.map f)) = some ((xs.zip ys).map fun p => .tup [e p.1, f p.2]) := by
  show some (((xs.map e).zip (ys.map f)).map fun p => D.tup [p.1, p.2]) = _
  rw [List.zip_map, List.map_map]
  rfl
theorem in_lot_eq (H : Has P c_in_lot k_in_lot) (g : Good s) (c : List Int) (l : List Str) : call P (n + 1) i_in_lot [s.d, cntD c, lotD l] S = .ok (.int (inLot s c l)) S := by
  rw [H.run (d := d_in_lot) (by decide) rfl rfl]
  have hnp := g.np
  simp [d_in_lot, startF, Ex.isPk]
  rw [ev_compF (fun p : Str × Int => D.tup [.str p.1, .int p.2]) (fun p => decide (p.1 ∈ l)) (fun p => .int p.2) (s.pools.zip c) ?_ rfl (by simp; omega) ?_]
  · simp [sum_map, inLot]
  · simp [Ex.isPk, Shr.d, cntD, zip_map]
  · intro p hp
    refine ⟨[some (.fz s.d), some (.fz (cntD c)), some (.fz (lotD l)), some (.fz (.str p.1)), some (.fz (.int p.2))], by simp [wipeF], by simp [lotD, inn_tup], fun _ => by simp⟩
theorem is_changed_eq (H : Has P c_is_changed k_is_changed) (g : Good s) (a b : List Int) (l : List Str) : call P (n + 2) i_is_changed [s.d, cntD a, cntD b, lotD l] S = .ok (.bl (!decide (inLot s a l = inLot s b l))) S := by
  rw [H.run (d := d_is_changed) (by decide) rfl rfl]
  simp [d_is_changed, startF, Ex.isPk, in_lot_eq (n := n) (S := S) (H.mono (by decide) (by decide)) g]
noncomputable def changed (s : Shr) (a b : List Int) (h : Int) : List (List Str) := (lots s h).filter fun l => !decide (inLot s a l = inLot s b l)
theorem all_changed_eq (H : Has P c_all_changed k_all_changed) (g : Good s) (a b : List Int) (h : Int) : call P (n + 3) i_all_changed [s.d, cntD a, cntD b, .int h] S = .ok (.lst ((changed s a b h).map lotD)) S := by
  rw [H.run (d := d_all_changed) (by decide) rfl rfl]
  have hl := lots_len g h
  simp [d_all_changed, startF, Ex.isPk]
  rw [ev_compF lotD (fun l => !decide (inLot s a l = inLot s b l)) lotD (lots s h) ?_ rfl (by omega) ?_]
  · simp [changed]
  · simp [Ex.isPk, all_lots_eq (H.mono (by decide) (by decide)) g (n + 1) h S]
  · intro l hl
    refine ⟨[some (.fz s.d), some (.fz (cntD a)), some (.fz (cntD b)), some (.fz (.int h)), some (.fz (lotD l))], by simp [wipeF], ?_, fun _ => by simp⟩
    simp [Ex.isPk, is_changed_eq (n := n) (S := S) (H.mono (by decide) (by decide)) g]
noncomputable def followB (s : Shr) (a b : List Int) (h : Int) : Bool := (changed s a b h).isEmpty
theorem does_follow_eq (H : Has P c_does_follow k_does_follow) (g : Good s) (a b : List Int) (h : Int) : call P (n + 4) i_does_follow [s.d, cntD a, cntD b, .int h] S = .ok (.bl (followB s a b h)) S := by
  rw [H.run (d := d_does_follow) (by decide) rfl rfl]
  have hl := lots_nice (h := h) g
  simp [d_does_follow, startF, Ex.isPk, all_changed_eq (n := n) (S := S) (H.mono (by decide) (by decide)) g, lim]
  rw [eq_nil (n := 1) (fun x hx => ?_) (by decide)]
  · simp [followB]
  · obtain ⟨l, hl', rfl⟩ := List.mem_map.mp hx
    exact nice_lot (hl l (List.mem_filter.mp hl').1).2
end
end LP.Q
namespace LP.Q
open PySem
/-! ### what is a shore -/
def smallS : Str := "abcdefghijklmnopqrstuvwxyz"
def isSmall (c : Nat) : Bool := smallS.cps.toList.contains c
def codes (x : Str) : List Nat := x.cps.toList
def wordB (x : Str) : Bool := decide (1 ≤ x.length) && decide (x.length ≤ 8) && (codes x).all isSmall
theorem word_ok {x : Str} (h : wordB x = true) : sOk x = true := by
  unfold wordB at h
  obtain ⟨_, h⟩ := Bool.and_eq_true_iff.mp h
  unfold sOk
  rw [Array.all_eq_true_iff_forall_mem]
  intro c hc
  have := List.all_eq_true.mp h c (Array.mem_toList_iff.mpr hc)
  unfold isSmall at this
  have key : ∀ c ∈ smallS.cps.toList, c < 0x110000 := by decide +kernel
  exact decide_eq_true (key c (by simpa using this))
def prLt (a b : Str × Str) : Bool := if a.1 = b.1 then sLt a.2 b.2 else sLt a.1 b.1
structure Val (s : Shr) : Prop where
  lo : 2 ≤ s.pools.length
  hi : s.pools.length ≤ 6
  words : ∀ p ∈ s.pools, wordB p = true
  rise : Rises sLt s.pools
  nr : s.ridges.length ≤ 10
  rid : ∀ r ∈ s.ridges, r.1 ∈ s.pools ∧ r.2.1 ∈ s.pools ∧ sLt r.1 r.2.1 = true ∧ 1 ≤ r.2.2 ∧ r.2.2 ≤ 9
  rr : Rises prLt (s.ridges.map fun r => (r.1, r.2.1))
theorem Val.good {s : Shr} (v : Val s) : Good s := ⟨v.rise, fun r hr => ⟨(v.rid r hr).1, (v.rid r hr).2.1⟩, fun p hp => word_ok (v.words p hp), by have := v.hi; omega, by have := v.nr; omega⟩
theorem cut_tail {α : Type} (xs : List α) : cut xs (some 1) none = xs.tail := by
  unfold cut slIx
  cases xs with
  | nil => rfl
  | cons x xs => simp
theorem sl_tail_tup {xs : List D} : slD (.tup xs) (some 1) none = some (.tup xs.tail) := by
  show some (D.tup (cut xs (some 1) none)) = _
  rw [cut_tail]
theorem sl_tail_lst {xs : List D} : slD (.lst xs) (some 1) none = some (.lst xs.tail) := by
  show some (D.lst (cut xs (some 1) none)) = _
  rw [cut_tail]
theorem zip_mapL {α β : Type} (e : α → D) (f : β → D) (xs : List α) (ys : List β) : zipD (.lst (xs.map e)) (.lst (ys.map f)) = some ((xs.zip ys).map fun p => .tup [e p.1, f p.2]) := by
  show some (((xs.map e).zip (ys.map f)).map fun p => D.tup [p.1, p.2]) = _
  rw [List.zip_map, List.map_map]
  rfl
def adjB {α : Type} (lt : α → α → Bool) (xs : List α) : Bool := (xs.zip xs.tail).all fun p => lt p.1 p.2
theorem adj_rises {α : Type} {lt : α → α → Bool} : ∀ {xs : List α}, Rises lt xs → adjB lt xs = true
  | [], _ => rfl
  | [x], _ => rfl
  | x :: y :: xs, h => by
    have ⟨h1, h2⟩ := List.pairwise_cons.mp h
    have := adj_rises h2
    unfold adjB at this ⊢
    simp only [List.tail_cons, List.zip_cons_cons, List.all_cons, Bool.and_eq_true]
    exact ⟨h1 y List.mem_cons_self, this⟩
theorem rises_adj {α : Type} {lt : α → α → Bool} (o : STO lt) : ∀ {xs : List α}, adjB lt xs = true → Rises lt xs
  | [], _ => List.Pairwise.nil
  | [x], _ => List.pairwise_singleton _ _
  | x :: y :: xs, h => by
    unfold adjB at h
    simp only [List.tail_cons, List.zip_cons_cons, List.all_cons, Bool.and_eq_true] at h
    have ih := rises_adj o (xs := y :: xs) (by unfold adjB; exact h.2)
    refine List.pairwise_cons.mpr ⟨fun z hz => ?_, ih⟩
    rcases List.mem_cons.mp hz with e | e
    · subst e; exact h.1
    · exact o.tr x y z h.1 ((List.pairwise_cons.mp ih).1 z e)
section
variable {P : Prg} {s : Shr} {S : Sto} {n : Nat}
theorem is_whole_int (H : Has P c_is_whole k_is_whole) (i lo hi : Int) : call P (n + 1) i_is_whole [.int i, .int lo, .int hi] S = .ok (.bl (decide (lo ≤ i) && decide (i ≤ hi))) S := by
  rw [H.run (d := d_is_whole) (by decide) rfl rfl]
  simp [d_is_whole, startF, Ex.isPk]
theorem rise_tup (H : Has P c_rise k_rise) {α : Type} (e : α → D) (lt : α → α → Bool) (xs : List α) (hlt : ∀ x ∈ xs, ∀ y ∈ xs, cmpD .lt (e x) (e y) = some (lt x y)) (hl : xs.length ≤ 5000) : call P (n + 1) i_rise [.tup (xs.map e)] S = .ok (.bl (adjB lt xs)) S := by
  rw [H.run (d := d_rise) (by decide) rfl rfl]
  simp [d_rise, startF, Ex.isPk]
  rw [ev_compA (fun p : α × α => D.tup [e p.1, e p.2]) (fun p => .bl (lt p.1 p.2)) (xs.zip xs.tail) ?_ rfl (by simp; omega) ?_]
  · simp [all_map, adjB]
  · have : (xs.map e).tail = xs.tail.map e := by cases xs <;> rfl
    have z := zip_map e e xs xs.tail
    rw [← this] at z
    simp only [evi_zip, Ex.isPk, ev_var, frAt_zero, ofO_some, bind_ok, ev_sl, evo_part, evo_nop, ev_int, asInt_int, Option.map_some, sl_tail_tup, z, Bool.or_self, Bool.false_eq_true, if_false]
  · intro p hp
    obtain ⟨h1, h2⟩ := List.of_mem_zip (a := p.1) (b := p.2) hp
    refine ⟨[some (.fz (.tup (xs.map e))), some (.fz (e p.1)), some (.fz (e p.2))], by simp [wipeF], by simp, ?_⟩
    rw [ev_cmp]
    simp only [ev_var, frAt_succ, frAt_zero, ofO_some, bind_ok, hlt p.1 h1 p.2 (List.mem_of_mem_tail h2), Option.map_some]
theorem rise_lst (H : Has P c_rise k_rise) {α : Type} (e : α → D) (lt : α → α → Bool) (xs : List α) (hlt : ∀ x ∈ xs, ∀ y ∈ xs, cmpD .lt (e x) (e y) = some (lt x y)) (hl : xs.length ≤ 5000) : call P (n + 1) i_rise [.lst (xs.map e)] S = .ok (.bl (adjB lt xs)) S := by
  rw [H.run (d := d_rise) (by decide) rfl rfl]
  simp [d_rise, startF, Ex.isPk]
  rw [ev_compA (fun p : α × α => D.tup [e p.1, e p.2]) (fun p => .bl (lt p.1 p.2)) (xs.zip xs.tail) ?_ rfl (by simp; omega) ?_]
  · simp [all_map, adjB]
  · have : (xs.map e).tail = xs.tail.map e := by cases xs <;> rfl
    have z := zip_mapL e e xs xs.tail
    rw [← this] at z
    simp only [evi_zip, Ex.isPk, ev_var, frAt_zero, ofO_some, bind_ok, ev_sl, evo_part, evo_nop, ev_int, asInt_int, Option.map_some, sl_tail_lst, z, Bool.or_self, Bool.false_eq_true, if_false]
  · intro p hp
    obtain ⟨h1, h2⟩ := List.of_mem_zip (a := p.1) (b := p.2) hp
    refine ⟨[some (.fz (.lst (xs.map e))), some (.fz (e p.1)), some (.fz (e p.2))], by simp [wipeF], by simp, ?_⟩
    rw [ev_cmp]
    simp only [ev_var, frAt_succ, frAt_zero, ofO_some, bind_ok, hlt p.1 h1 p.2 (List.mem_of_mem_tail h2), Option.map_some]
theorem walk_str {z : Str} : walkD (.str z) = some ((codes z).map fun c => .str ⟨#[c]⟩) := rfl
theorem len_str {z : Str} (h : z.length ≤ lim) : blt .len [.str z] S = some (.int z.length) := by
  simp [blt, lenD, h]
theorem in_small {c : Nat} : cmpD .inn (.str ⟨#[c]⟩) (.str smallS) = some (isSmall c) := by
  simp [cmpD, inD, Str.length, isSmall]
theorem is_word_eq (H : Has P c_is_word k_is_word) {x : Str} (hx : x.length ≤ 5000) : call P (n + 1) i_is_word [.str x] S = .ok (.bl (wordB x)) S := by
  rw [H.run (d := d_is_word) (by decide) rfl rfl]
  have hh := H.con (x := "SMALL") (d := .str smallS) (by decide) rfl
  have hlen : (codes x).length = x.length := by
    cases x; rfl
  have e' : ev ⟨P.con, call P n⟩ (.comp [("sign", 1)] (.cmp .inn (.var 1) (.glob "SMALL")) (.name 1) (.walk (.var 0)) .nop) [some (.fz (.str x)), none] S = .ok (.lst ((codes x).map fun c => .bl (isSmall c))) S := by
    refine ev_compA (fun c => D.str ⟨#[c]⟩) _ (codes x) (by simp [Ex.isPk, walk_str]) rfl (by omega) fun c hc => ?_
    exact ⟨[some (.fz (.str x)), some (.fz (.str ⟨#[c]⟩))], by simp [wipeF], by simp, by simp [hh, in_small]⟩
  have i1 : decide ((1 : Int) ≤ (x.length : Nat)) = decide (1 ≤ x.length) := decide_eq_decide.mpr (by omega)
  have i2 : decide (((x.length : Nat) : Int) ≤ 8) = decide (x.length ≤ 8) := decide_eq_decide.mpr (by omega)
  simp only [d_is_word, startF, List.map_cons, List.map_nil, List.length_cons, List.length_nil, List.replicate_succ, List.replicate_zero, List.cons_append, List.nil_append, Nat.zero_add, Nat.reduceAdd, Nat.reduceSub]
  unfold wordB
  simp only [ex_seq, ex_ret, Ex.isPk, ev_and, ev_isi, ev_var, frAt_zero, ofO_some, bind_ok, isi_str, Option.map_some, andR_bl, ev_chain, ev_int, ev_blt, evs_cons, evs_nil, len_str (small hx), le_int, chainR_some, i1, i2, e', all_map, Bool.false_eq_true, if_false, if_true, Bool.not_true, Bool.false_and, Bool.and_self]
  by_cases q1 : 1 ≤ x.length <;> by_cases q2 : x.length ≤ 8 <;> simp [q1, q2]
  rw [e']
  simp [all_map]
theorem is_pool_eq (H : Has P c_is_pool k_is_pool) {ps : List Str} {x : Str} : call P (n + 1) i_is_pool [.tup (ps.map .str), .str x] S = .ok (.bl (decide (x ∈ ps))) S := by
  rw [H.run (d := d_is_pool) (by decide) rfl rfl]
  simp [d_is_pool, startF, Ex.isPk, inn_tup]
@[simp] theorem lt_strs {x y : Str} : cmpD .lt (.str x) (.str y) = some (sLt x y) := rfl
def ridB (ps : List Str) (r : Rid) : Bool := (decide (1 ≤ r.2.2) && decide (r.2.2 ≤ 9)) && (decide (r.1 ∈ ps) && (decide (r.2.1 ∈ ps) && sLt r.1 r.2.1))
theorem is_ridge_eq (H : Has P c_is_ridge k_is_ridge) {ps : List Str} {r : Rid} : call P (n + 2) i_is_ridge [.tup (ps.map .str), eR r] S = .ok (.bl (ridB ps r)) S := by
  rw [H.run (d := d_is_ridge) (by decide) rfl rfl]
  have hh := H.con (x := "HIGHEST") (by decide) rfl
  have h1 := fun i lo hi => is_whole_int (n := n) (S := S) (H.mono (by decide) (by decide)) i lo hi
  have h2 := fun x => is_pool_eq (n := n) (S := S) (H.mono (by decide) (by decide)) (ps := ps) (x := x)
  simp [d_is_ridge, startF, Ex.isPk, eR, len_tup, hh, h1, h2, ridB]
  by_cases q : 1 ≤ r.2.2 <;> by_cases q2 : r.2.2 ≤ 9 <;> simp [q, q2]
end
end LP.Q
namespace LP.Q
open PySem
section
variable {P : Prg} {s : Shr} {S : Sto} {n : Nat}
theorem all_true {α : Type} {S : Sto} (f : α → Bool) (xs : List α) (h : ∀ x ∈ xs, f x = true) : blt .all [.lst (xs.map fun x => .bl (f x))] S = some (.bl true) := by
  rw [all_map, List.all_eq_true.mpr h]
theorem lt_pair {a b c d : Str} (h1 : sOk a = true) (h2 : sOk b = true) (h3 : sOk c = true) (h4 : sOk d = true) : cmpD .lt (.tup [.str a, .str b]) (.tup [.str c, .str d]) = some (prLt (a, b) (c, d)) := by
  simp [cmpD, ltD, D.likes, D.like, D.pls, D.pl, D.nss, D.ns, D.deps, D.dep, h1, h2, h3, h4, D.lts, D.eq, D.lt, prLt]
  by_cases q : a = c
  · by_cases q2 : b = d
    · subst q2
      simp [q, sLt_sto.irr b]
    · simp [q, q2]
  · simp [q]
theorem sl_two {a b c : D} : slD (.tup [a, b, c]) none (some 2) = some (.tup [a, b]) := rfl
theorem is_shore_val (H : Has P c_is_shore k_is_shore) (v : Val s) : call P (n + 3) i_is_shore [s.d] S = .ok (.bl true) S := by
  rw [H.run (d := d_is_shore) (by decide) rfl rfl]
  have g := v.good
  have hlo := v.lo
  have hhi := v.hi
  have hnr := v.nr
  have wlen : ∀ p ∈ s.pools, p.length ≤ 5000 := fun p hp => by
    have := v.words p hp
    unfold wordB at this
    simp only [Bool.and_eq_true, decide_eq_true_eq] at this
    omega
  have e1 : ∀ w : Option Sl, ev ⟨P.con, call P (n + 2)⟩ (.comp [("one", 3)] (.dcall 1 (.cons (.var 3) .nil)) (.name 3) (.walk (.var 1)) .nop) [some (.fz (.tup [.tup (s.pools.map .str), .tup (s.ridges.map eR)])), some (.fz (.tup (s.pools.map .str))), some (.fz (.tup (s.ridges.map eR))), w] S = .ok (.lst (s.pools.map fun p => .bl (wordB p))) S := fun w =>
    ev_compA D.str _ s.pools (by simp [Ex.isPk]) rfl (by omega) fun p hp => ⟨[some (.fz (.tup [.tup (s.pools.map .str), .tup (s.ridges.map eR)])), some (.fz (.tup (s.pools.map .str))), some (.fz (.tup (s.ridges.map eR))), some (.fz (.str p))], by simp [wipeF], by simp, by simp [Ex.isPk, is_word_eq (n := n + 1) (S := S) (H.mono (by decide) (by decide)) (wlen p hp)]⟩
  have e2 := rise_tup (n := n + 1) (S := S) (H.mono (by decide) (by decide)) D.str sLt s.pools (fun _ _ _ _ => lt_strs) (by omega)
  rw [adj_rises v.rise] at e2
  have e3 : ∀ w : Option Sl, ev ⟨P.con, call P (n + 2)⟩ (.comp [("one", 3)] (.dcall 4 (.cons (.var 1) (.cons (.var 3) .nil))) (.name 3) (.walk (.var 2)) .nop) [some (.fz (.tup [.tup (s.pools.map .str), .tup (s.ridges.map eR)])), some (.fz (.tup (s.pools.map .str))), some (.fz (.tup (s.ridges.map eR))), w] S = .ok (.lst (s.ridges.map fun r => .bl (ridB s.pools r))) S := fun w =>
    ev_compA eR _ s.ridges (by simp [Ex.isPk]) rfl (by omega) fun r hr => ⟨[some (.fz (.tup [.tup (s.pools.map .str), .tup (s.ridges.map eR)])), some (.fz (.tup (s.pools.map .str))), some (.fz (.tup (s.ridges.map eR))), some (.fz (eR r))], by simp [wipeF], by simp, by simp [Ex.isPk, is_ridge_eq (n := n) (S := S) (H.mono (by decide) (by decide))]⟩
  have e4 : ∀ w : Option Sl, ev ⟨P.con, call P (n + 2)⟩ (.comp [("one", 3)] (.sl (.var 3) .nop (.part (.int 2))) (.name 3) (.walk (.var 2)) .nop) [some (.fz (.tup [.tup (s.pools.map .str), .tup (s.ridges.map eR)])), some (.fz (.tup (s.pools.map .str))), some (.fz (.tup (s.ridges.map eR))), w] S = .ok (.lst (s.ridges.map fun r => .tup [.str r.1, .str r.2.1])) S := fun w =>
    ev_compA eR _ s.ridges (by simp [Ex.isPk]) rfl (by omega) fun r hr => ⟨[some (.fz (.tup [.tup (s.pools.map .str), .tup (s.ridges.map eR)])), some (.fz (.tup (s.pools.map .str))), some (.fz (.tup (s.ridges.map eR))), some (.fz (eR r))], by simp [wipeF], by simp, by simp [eR, sl_two]⟩
  have e5 := rise_lst (n := n + 1) (S := S) (H.mono (by decide) (by decide)) (fun q : Str × Str => D.tup [.str q.1, .str q.2]) prLt (s.ridges.map fun r => (r.1, r.2.1)) (fun x hx y hy => by
    obtain ⟨r, hr, rfl⟩ := List.mem_map.mp hx
    obtain ⟨r', hr', rfl⟩ := List.mem_map.mp hy
    exact lt_pair (g.ok _ (v.rid r hr).1) (g.ok _ (v.rid r hr).2.1) (g.ok _ (v.rid r' hr').1) (g.ok _ (v.rid r' hr').2.1)) (by simp; omega)
  rw [adj_rises v.rr, List.map_map] at e5
  have w1 := all_true (S := S) wordB s.pools v.words
  have w2 := all_true (S := S) (ridB s.pools) s.ridges fun r hr => by
    obtain ⟨q1, q2, q3, q4, q5⟩ := v.rid r hr
    unfold ridB
    simp [q1, q2, q3, q4, q5]
  have i1 : decide ((2 : Int) ≤ (s.pools.length : Nat)) = true := decide_eq_true (by omega)
  have i2 : decide (((s.pools.length : Nat) : Int) ≤ 6) = true := decide_eq_true (by omega)
  have i3 : decide ((10 : Int) < (s.ridges.length : Nat)) = false := decide_eq_false (by omega)
  have hd : s.d = .tup [.tup (s.pools.map .str), .tup (s.ridges.map eR)] := rfl
  have j1 : (2 : Int) ≤ (s.pools.length : Nat) := by omega
  have j2 : ((s.pools.length : Nat) : Int) ≤ 6 := by omega
  have j3 : ¬ (10 : Int) < (s.ridges.length : Nat) := by omega
  rw [hd]
  simp [d_is_shore, startF, Ex.isPk, len_tup, j1, j2, j3]
  rw [e1]
  simp [w1, e2, len_tup, j3]
  rw [e3]
  simp [w2]
  rw [e4]
  simp
  exact congrArg (fun r => ouR (((r.ou fun d S => Ou.rt d S)).then fun ρ S => Ou.nx ρ S)) e5
end
end LP.Q
namespace LP.Q
open PySem
open Classical
/-- good counts -/
structure Cnt (s : Shr) (c : List Int) : Prop where
  len : c.length = s.pools.length
  rng : ∀ z ∈ c, 0 ≤ z ∧ z ≤ 9
section
variable {P : Prg} {s : Shr} {S : Sto} {n : Nat}
theorem need_shore_val (H : Has P c_need_shore k_need_shore) (v : Val s) : call P (n + 4) i_need_shore [s.d] S = .ok .non S := by
  rw [H.run (d := d_need_shore) (by decide) rfl rfl]
  simp [d_need_shore, startF, Ex.isPk, is_shore_val (n := n) (S := S) (H.mono (by decide) (by decide)) v]
theorem need_height_ok (H : Has P c_need_height k_need_height) {h : Int} (h0 : 0 ≤ h) (h9 : h ≤ 9) : call P (n + 2) i_need_height [.int h] S = .ok .non S := by
  rw [H.run (d := d_need_height) (by decide) rfl rfl]
  have hh := H.con (x := "HIGHEST") (by decide) rfl
  simp [d_need_height, startF, Ex.isPk, hh, is_whole_int (n := n) (S := S) (H.mono (by decide) (by decide)), h0, h9]
theorem good_counts_ok (H : Has P c_are_good_counts k_are_good_counts) (v : Val s) {c : List Int} (hc : Cnt s c) : call P (n + 2) i_are_good_counts [s.d, cntD c] S = .ok (.bl true) S := by
  rw [H.run (d := d_are_good_counts) (by decide) rfl rfl]
  have hh := H.con (x := "MOST") (by decide) rfl
  have hl := hc.len
  have hi := v.hi
  have e1 : ev ⟨P.con, call P (n + 1)⟩ (.comp [("one", 2)] (.dcall 0 (.cons (.var 2) (.cons (.int 0) (.cons (.glob "MOST") .nil)))) (.name 2) (.walk (.var 1)) .nop) [some (.fz s.d), some (.fz (cntD c)), none] S = .ok (.lst (c.map fun z => .bl (decide (0 ≤ z) && decide (z ≤ 9)))) S :=
    ev_compA D.int _ c (by simp [Ex.isPk, cntD]) rfl (by omega) fun z hz => ⟨[some (.fz s.d), some (.fz (cntD c)), some (.fz (.int z))], by simp [wipeF], by simp, by simp [Ex.isPk, hh, is_whole_int (n := n) (S := S) (H.mono (by decide) (by decide))]⟩
  have e2 := all_true (S := S) (fun z : Int => decide (0 ≤ z) && decide (z ≤ 9)) c fun z hz => by simp [hc.rng z hz]
  simp [d_are_good_counts, startF, Ex.isPk]
  have e3 : isi (cntD c) .tuple = some true := rfl
  have e4 : blt .len [cntD c] S = some (.int s.pools.length) := by
    show some (D.int ((c.map D.int).length : Nat)) = _
    rw [List.length_map, hl]
  have e5 : ixD s.d (.int 0) S = some (.tup (s.pools.map .str)) := by unfold Shr.d; simp
  simp [e3, e4, e5, len_tup]
  rw [e1]
  simp only [bind_ok, e2, ofO_some, ou_ok, then_rt, ouR_rt]
theorem need_counts_ok (H : Has P c_need_counts k_need_counts) (v : Val s) {c : List Int} (hc : Cnt s c) : call P (n + 3) i_need_counts [s.d, cntD c] S = .ok .non S := by
  rw [H.run (d := d_need_counts) (by decide) rfl rfl]
  simp [d_need_counts, startF, Ex.isPk, good_counts_ok (n := n) (S := S) (H.mono (by decide) (by decide)) v hc]
theorem are_counts_ok (H : Has P c_are_counts k_are_counts) (v : Val s) {c : List Int} (hc : Cnt s c) : call P (n + 5) i_are_counts [s.d, cntD c] S = .ok (.bl true) S := by
  rw [H.run (d := d_are_counts) (by decide) rfl rfl]
  simp [d_are_counts, startF, Ex.isPk, need_shore_val (n := n) (S := S) (H.mono (by decide) (by decide)) v, good_counts_ok (n := n + 2) (S := S) (H.mono (by decide) (by decide)) v hc]
theorem need_both_ok (H : Has P c_need_both k_need_both) (v : Val s) {a b : List Int} (ha : Cnt s a) (hb : Cnt s b) : call P (n + 5) i_need_both [s.d, cntD a, cntD b] S = .ok .non S := by
  rw [H.run (d := d_need_both) (by decide) rfl rfl]
  simp [d_need_both, startF, Ex.isPk, need_shore_val (n := n) (S := S) (H.mono (by decide) (by decide)) v, need_counts_ok (n := n + 1) (S := S) (H.mono (by decide) (by decide)) v ha, need_counts_ok (n := n + 1) (S := S) (H.mono (by decide) (by decide)) v hb]
theorem follow_ok (H : Has P c_follow k_follow) (v : Val s) {a b : List Int} (ha : Cnt s a) (hb : Cnt s b) {h : Int} (h0 : 0 ≤ h) (h9 : h ≤ 9) : call P (n + 6) i_follow [s.d, cntD a, cntD b, .int h] S = .ok (.bl (followB s a b h)) S := by
  rw [H.run (d := d_follow) (by decide) rfl rfl]
  simp [d_follow, startF, Ex.isPk, need_both_ok (n := n) (S := S) (H.mono (by decide) (by decide)) v ha hb, need_height_ok (n := n + 3) (S := S) (H.mono (by decide) (by decide)) h0 h9, does_follow_eq (n := n + 1) (S := S) (H.mono (by decide) (by decide)) v.good]
end
/-! ### two shores -/
def prD : Option (Str × Str) → D
  | none => .non
  | some p => .tup [.str p.1, .str p.2]
theorem enum_map {α : Type} (e : α → D) (xs : List α) : enumD (xs.map e) = ((List.range xs.length).zip xs).map fun p => .tup [.int (p.1 : Nat), e p.2] := by
  unfold enumD
  rw [List.length_map, List.zip_map_right, List.map_map]
  rfl
theorem cut_from {α : Type} (xs : List α) (i : Nat) : cut xs (some ((i : Int) + 1)) none = xs.drop (i + 1) := by
  unfold cut slIx
  have h1 : ¬ ((i : Int) + 1 < 0) := by omega
  have h2 : ((i : Int) + 1).toNat = i + 1 := by omega
  simp only [h1, if_false, h2]
  by_cases q : i + 1 ≤ xs.length
  · rw [Nat.min_eq_left q, List.take_of_length_le (by simp)]
  · rw [Nat.min_eq_right (by omega), List.drop_eq_nil_of_le (Nat.le_refl _), List.drop_eq_nil_of_le (by omega)]
    simp
theorem sl_from {i : Nat} {xs : List D} : slD (.tup xs) (some ((i : Int) + 1)) none = some (.tup (xs.drop (i + 1))) := by
  show some (D.tup (cut xs (some ((i : Int) + 1)) none)) = _
  rw [cut_from]
noncomputable def diff (one other : Shr) (p q : Str) : Bool := !decide (fromH one p q = fromH other p q)
noncomputable def partAt (one other : Shr) (i : Nat) (p : Str) : Option (Str × Str) := ((one.pools.drop (i + 1)).find? fun q => diff one other p q).map fun q => (p, q)
noncomputable def partIn (one other : Shr) (L : List (Nat × Str)) : Option (Str × Str) := L.findSome? fun x => partAt one other x.1 x.2
noncomputable def part (one other : Shr) : Option (Str × Str) := partIn one other ((List.range one.pools.length).zip one.pools)
theorem nice_opt {o : Option Int} : Nice 0 (optD o) := by
  cases o
  · exact nice_non
  · exact nice_int
theorem eq_opt {a b : Option Int} : D.eq (optD a) (optD b) = decide (a = b) := by
  cases a <;> cases b <;> simp [optD, D.eq] <;> rfl
theorem ne_opt {a b : Option Int} : cmpD .ne (optD a) (optD b) = some (!decide (a = b)) := by
  rw [neD_ok (nice_opt.eqOk nice_opt (by decide) (by decide)), eq_opt]
theorem find_cons {α : Type} {p : α → Bool} {x : α} {xs : List α} : (x :: xs).find? p = if p x then some x else xs.find? p := by
  rw [List.find?_cons]
  cases p x <;> rfl
section
variable {P : Prg} {one other : Shr} {S : Sto} {n : Nat}
abbrev sSecond : Sm := (.seq (.ite (.cmp .ne (.dcall 11 (.cons (.var 0) (.cons (.var 4) (.cons (.var 5) .nil)))) (.dcall 11 (.cons (.var 1) (.cons (.var 4) (.cons (.var 5) .nil))))) (.seq (.ret (.tup (.cons (.var 4) (.cons (.var 5) .nil))))
 .skip) .skip)
 .skip)
theorem first_parting_eq (H : Has P c_first_parting k_first_parting) (g1 : Good one) (g2 : Good other) (hp : one.pools = other.pools) : call P (n + 4) i_first_parting [one.d, other.d] S = .ok (prD (part one other)) S := by
  rw [H.run (d := d_first_parting) (by decide) rfl rfl]
  have hnp := g1.np
  have lf1 := fun a b ha hb => least_from_eq (n := n) (S := S) (s := one) (a := a) (b := b) (H.mono (by decide) (by decide)) g1 ha hb
  have lf2 := fun a b ha hb => least_from_eq (n := n) (S := S) (s := other) (a := a) (b := b) (H.mono (by decide) (by decide)) g2 ha hb
  let fr : Option Sl → Option Sl → Option Sl → Fr := fun v3 v4 v5 => [some (.fz one.d), some (.fz other.d), some (.fz (.tup (one.pools.map .str))), v3, v4, v5]
  have inner : ∀ (i : Nat) (p : Str), p ∈ one.pools → ∀ v5, (match partAt one other i p with
      | some q => exec ⟨P.con, call P (n + 3)⟩ (.seq (.forr (.name 5) (.walk (.sl (.var 2) (.part (.bin .add (.var 3) (.int 1))) .nop)) sSecond) .skip) (fr (some (.fz (.int i))) (some (.fz (.str p))) v5) S = .rt (.tup [.str q.1, .str q.2]) S
      | none => ∃ w5, exec ⟨P.con, call P (n + 3)⟩ (.seq (.forr (.name 5) (.walk (.sl (.var 2) (.part (.bin .add (.var 3) (.int 1))) .nop)) sSecond) .skip) (fr (some (.fz (.int i))) (some (.fz (.str p))) v5) S = .nx (fr (some (.fz (.int i))) (some (.fz (.str p))) w5) S) := by
    intro i p hpp v5
    have e0 : evi ⟨P.con, call P (n + 3)⟩ (.walk (.sl (.var 2) (.part (.bin .add (.var 3) (.int 1))) .nop)) (fr (some (.fz (.int i))) (some (.fz (.str p))) v5) S = .ok ((one.pools.drop (i + 1)).map .str) S := by
      simp [fr, Ex.isPk, sl_from]
    have loop : ∀ (qs : List Str), (∀ q ∈ qs, q ∈ one.pools) → ∀ v5, (match (qs.find? fun q => diff one other p q) with
        | some q => floop (bindT (.name 5)) (fun ρ S => exec ⟨P.con, call P (n + 3)⟩ sSecond ρ S) (qs.map .str) (fr (some (.fz (.int i))) (some (.fz (.str p))) v5) S = .rt (.tup [.str p, .str q]) S
        | none => ∃ w5, floop (bindT (.name 5)) (fun ρ S => exec ⟨P.con, call P (n + 3)⟩ sSecond ρ S) (qs.map .str) (fr (some (.fz (.int i))) (some (.fz (.str p))) v5) S = .nx (fr (some (.fz (.int i))) (some (.fz (.str p))) w5) S) := by
      intro qs
      induction qs with
      | nil => intro _ v5; exact ⟨v5, rfl⟩
      | cons q qs ih =>
        intro hq v5
        have hqp := hq q List.mem_cons_self
        have st : exec ⟨P.con, call P (n + 3)⟩ sSecond (fr (some (.fz (.int i))) (some (.fz (.str p))) (some (.fz (.str q)))) S = if diff one other p q then .rt (.tup [.str p, .str q]) S else .nx (fr (some (.fz (.int i))) (some (.fz (.str p))) (some (.fz (.str q)))) S := by
          unfold diff
          by_cases z : fromH one p q = fromH other p q <;> simp [fr, sSecond, Ex.isPk, lf1 p q hpp hqp, lf2 p q (hp ▸ hpp) (hp ▸ hqp), ne_opt, z, lim]
        have eb : bindT (.name 5) (.str q) (fr (some (.fz (.int i))) (some (.fz (.str p))) v5) = some (fr (some (.fz (.int i))) (some (.fz (.str p))) (some (.fz (.str q)))) := by simp [fr]
        rw [find_cons]
        cases hd : diff one other p q with
        | true =>
          simp only [if_true]
          rw [List.map_cons, floop, eb, optU_some, st, hd]
          rfl
        | false =>
          have := ih (fun x hx => hq x (List.mem_cons_of_mem _ hx)) (some (.fz (.str q)))
          simp only [if_false, Bool.false_eq_true]
          rw [List.map_cons, floop, eb, optU_some, st, hd]
          simpa using this
    have := loop (one.pools.drop (i + 1)) (fun q hq => List.mem_of_mem_drop hq) v5
    unfold partAt
    rw [ex_seq, ex_forr, e0, ou_ok, if_pos (by rw [List.length_map, List.length_drop]; exact small (by omega))]
    cases hf : (one.pools.drop (i + 1)).find? fun q => diff one other p q with
    | none =>
      rw [hf] at this
      obtain ⟨w5, ew⟩ := this
      exact ⟨w5, by rw [ew]; simp⟩
    | some q =>
      rw [hf] at this
      simp only at this
      simp only [Option.map_some]
      rw [this]
      rfl
  have outer := floop_rec (bnd := bindT (.tcons (.name 3) (.tcons (.name 4) .tnil))) (b := fun ρ S => exec ⟨P.con, call P (n + 3)⟩ (.seq (.forr (.name 5) (.walk (.sl (.var 2) (.part (.bin .add (.var 3) (.int 1))) .nop)) sSecond) .skip) ρ S) (fun x : Nat × Str => D.tup [.int (x.1 : Nat), .str x.2])
    (fun L ρ S' => S' = S ∧ (∃ v3 v4 v5, ρ = fr v3 v4 v5) ∧ partIn one other L = part one other ∧ ∀ x ∈ L, x.2 ∈ one.pools)
    (fun o => match part one other with
      | some q => o = .rt (.tup [.str q.1, .str q.2]) S
      | none => ∃ v3 v4 v5, o = .nx (fr v3 v4 v5) S) (fun x xs ρ S' ⟨e, ⟨v3, v4, v5, eρ⟩, hpt, hm⟩ => by
        subst e eρ
        refine ⟨fr (some (.fz (.int (x.1 : Nat)))) (some (.fz (.str x.2))) v5, by simp [fr], ?_⟩
        have := inner x.1 x.2 (hm x List.mem_cons_self) v5
        unfold partIn at hpt
        rw [List.findSome?_cons] at hpt
        cases hf : partAt one other x.1 x.2 with
        | none =>
          rw [hf] at this hpt
          obtain ⟨w5, ew⟩ := this
          exact .inl ⟨_, _, ew, rfl, ⟨_, _, w5, rfl⟩, hpt, fun y hy => hm y (List.mem_cons_of_mem _ hy)⟩
        | some q =>
          rw [hf] at this hpt
          simp only at this hpt
          refine .inr ⟨fun ρ2 S2 z => ?_, ?_⟩
          · have z' := this.symm.trans z
            cases z'
          · rw [← hpt]
            exact this)
    (fun ρ S' ⟨e, ⟨v3, v4, v5, eρ⟩, hpt, _⟩ => by
      subst e eρ
      rw [← hpt]
      exact ⟨v3, v4, v5, rfl⟩) ((List.range one.pools.length).zip one.pools) (fr none none none) S ⟨rfl, ⟨none, none, none, rfl⟩, rfl, fun x hx => (List.of_mem_zip (a := x.1) (b := x.2) hx).2⟩
  have e1 : exec ⟨P.con, call P (n + 3)⟩ (.set 2 (.ix (.var 0) (.int 0))) [some (.fz one.d), some (.fz other.d), none, none, none, none] S = .nx (fr none none none) S := by
    simp [fr, Ex.isPk, Shr.d]
  have e2 : evi ⟨P.con, call P (n + 3)⟩ (.enum (.var 2)) (fr none none none) S = .ok (((List.range one.pools.length).zip one.pools).map fun x : Nat × Str => D.tup [.int (x.1 : Nat), .str x.2]) S := by
    simp [fr, Ex.isPk, items, enum_map]
  show ouR (exec _ (.seq (.set 2 (.ix (.var 0) (.int 0))) (.seq (.forr (.tcons (.name 3) (.tcons (.name 4) .tnil)) (.enum (.var 2)) (.seq (.forr (.name 5) (.walk (.sl (.var 2) (.part (.bin .add (.var 3) (.int 1))) .nop)) sSecond) .skip)) (.seq (.ret .non) .skip))) [some (.fz one.d), some (.fz other.d), none, none, none, none] S) = _
  rw [ex_seq, e1, then_nx, ex_seq, ex_forr, e2, ou_ok, if_pos (by simp; exact small (by omega))]
  cases hpt : part one other with
  | none =>
    rw [hpt] at outer
    obtain ⟨v3, v4, v5, eo⟩ := outer
    rw [eo]
    simp [prD, Ex.isPk]
  | some q =>
    rw [hpt] at outer
    simp only at outer
    rw [outer]
    rfl
end
end LP.Q
namespace LP.Q
open PySem
open Classical
def ind (ps : List Str) (a : Str) : List Int := ps.map fun p => if p = a then 1 else 0
def lowOf (a b : Option Int) : Int := match a, b with
  | none, none => 0
  | some i, none => i
  | none, some j => j
  | some i, some j => if j < i then j else i
noncomputable def pcD (one other : Shr) : D := match part one other with
  | none => .non
  | some (a, b) => .tup [cntD (ind one.pools a), cntD (ind one.pools b), .int (lowOf (fromH one a b) (fromH other a b))]
theorem part_mem {one other : Shr} {a b : Str} (h : part one other = some (a, b)) : a ∈ one.pools ∧ b ∈ one.pools ∧ diff one other a b = true := by
  unfold part partIn at h
  obtain ⟨x, hx, e⟩ := List.exists_of_findSome?_eq_some h
  unfold partAt at e
  cases hf : (one.pools.drop (x.1 + 1)).find? fun q => diff one other x.2 q with
  | none => simp [hf] at e
  | some q =>
    rw [hf] at e
    cases e
    exact ⟨(List.of_mem_zip (a := x.1) (b := x.2) hx).2, List.mem_of_mem_drop (List.mem_of_find?_eq_some hf), List.find?_some hf⟩
theorem eq_lots' {k l : List Str} : D.eq (.tup (k.map .str)) (.tup (l.map .str)) = decide (k = l) := eq_lot
section
variable {P : Prg} {one other : Shr} {S : Sto} {n : Nat}
theorem need_two_ok (H : Has P c_need_two k_need_two) (v1 : Val one) (v2 : Val other) (hp : one.pools = other.pools) : call P (n + 4) i_need_two [one.d, other.d] S = .ok .non S := by
  rw [H.run (d := d_need_two) (by decide) rfl rfl]
  have e5 : ∀ s : Shr, ixD s.d (.int 0) S = some (lotD s.pools) := fun s => by unfold Shr.d; simp; rfl
  have q : cmpD .ne (lotD one.pools) (lotD other.pools) = some false := by
    rw [neD_ok ((nice_lot v1.good.ok).eqOk (nice_lot v2.good.ok) (by decide) (by decide)), eq_lot, hp]
    simp
  simp [d_need_two, startF, Ex.isPk, is_shore_val (n := n) (S := S) (H.mono (by decide) (by decide)) v1, is_shore_val (n := n) (S := S) (H.mono (by decide) (by decide)) v2, e5, q]
theorem parting_eq (H : Has P c_parting k_parting) (v1 : Val one) (v2 : Val other) (hp : one.pools = other.pools) : call P (n + 5) i_parting [one.d, other.d] S = .ok (prD (part one other)) S := by
  rw [H.run (d := d_parting) (by decide) rfl rfl]
  simp [d_parting, startF, Ex.isPk, need_two_ok (n := n) (S := S) (H.mono (by decide) (by decide)) v1 v2 hp, first_parting_eq (n := n) (S := S) (H.mono (by decide) (by decide)) v1.good v2.good hp]
@[simp] theorem iss_non : cmpD .iss .non .non = some true := rfl
@[simp] theorem iss_tup {xs : List D} : cmpD .iss (.tup xs) .non = some false := rfl
@[simp] theorem iss_int {i : Int} : cmpD .iss (.int i) .non = some false := rfl
@[simp] theorem isn_non : cmpD .isn .non .non = some false := rfl
@[simp] theorem isn_tup {xs : List D} : cmpD .isn (.tup xs) .non = some true := rfl
@[simp] theorem isn_int {i : Int} : cmpD .isn (.int i) .non = some true := rfl
theorem isn_opt {o : Option Int} : cmpD .isn (optD o) .non = some o.isSome := by cases o <;> rfl
@[simp] theorem int_bl {b : Bool} : blt .int [.bl b] S = some (.int (if b then 1 else 0)) := rfl
theorem parting_counts_eq (H : Has P c_parting_counts k_parting_counts) (v1 : Val one) (v2 : Val other) (hp : one.pools = other.pools) : call P (n + 5) i_parting_counts [one.d, other.d] S = .ok (pcD one other) S := by
  rw [H.run (d := d_parting_counts) (by decide) rfl rfl]
  have g1 := v1.good
  have hi := v1.hi
  have nt := need_two_ok (n := n) (S := S) (H.mono (by decide) (by decide)) v1 v2 hp
  have fp := first_parting_eq (n := n) (S := S) (H.mono (by decide) (by decide)) v1.good v2.good hp
  have e5 : ∀ s : Shr, ixD s.d (.int 0) S = some (.tup (s.pools.map .str)) := fun s => by unfold Shr.d; simp
  unfold pcD
  cases hpt : part one other with
  | none =>
    rw [hpt] at fp
    simp [d_parting_counts, startF, Ex.isPk, nt, fp, prD]
  | some p =>
    obtain ⟨a, b⟩ := p
    obtain ⟨ha, hb, hd⟩ := part_mem hpt
    rw [hpt] at fp
    have lf : ∀ s ∈ [one, other], call P (n + 4) i_least_from [s.d, .str a, .str b] S = .ok (optD (fromH s a b)) S := fun s hs => by
      simp at hs
      rcases hs with e | e
      · subst e; exact least_from_eq (n := n + 1) (S := S) (H.mono (by decide) (by decide)) v1.good ha hb
      · subst e; exact least_from_eq (n := n + 1) (S := S) (H.mono (by decide) (by decide)) v2.good (hp ▸ ha) (hp ▸ hb)
    have c1 : ∀ v3 v4 v5 v6 v7 v8 : Option Sl, ev ⟨P.con, call P (n + 4)⟩ (.comp [("shore", 4)] (.dcall 11 (.cons (.var 4) (.cons (.ix (.var 2) (.int 0)) (.cons (.ix (.var 2) (.int 1)) .nil)))) (.name 4) (.walk (.tup (.cons (.var 0) (.cons (.var 1) .nil)))) .nop) [some (.fz one.d), some (.fz other.d), some (.fz (.tup [.str a, .str b])), v3, v4, v5, v6, v7, v8] S = .ok (.lst ([one, other].map fun s => optD (fromH s a b))) S := fun v3 v4 v5 v6 v7 v8 =>
      ev_compA Shr.d _ [one, other] (by simp [Ex.isPk, lim]) rfl (by simp) fun s hs => ⟨[some (.fz one.d), some (.fz other.d), some (.fz (.tup [.str a, .str b])), v3, some (.fz s.d), v5, v6, v7, v8], by simp [wipeF], by simp, by simp [Ex.isPk, lf s hs]⟩
    have c2 : ∀ x (hx : sOk x = true) (ex : Ex) (v3 v4 v5 v6 v7 v8 : Option Sl), (∀ v6', ev ⟨P.con, call P (n + 4)⟩ ex [some (.fz one.d), some (.fz other.d), some (.fz (.tup [.str a, .str b])), v3, v4, v5, v6', v7, v8] S = .ok (.str x) S) → ev ⟨P.con, call P (n + 4)⟩ (.comp [("pool", 6)] (.blt .int (.cons (.cmp .eq (.var 6) ex) .nil)) (.name 6) (.walk (.ix (.var 0) (.int 0))) .nop) [some (.fz one.d), some (.fz other.d), some (.fz (.tup [.str a, .str b])), v3, v4, v5, v6, v7, v8] S = .ok (.lst ((ind one.pools x).map .int)) S := fun x hx ex v3 v4 v5 v6 v7 v8 he => by
      unfold ind
      rw [List.map_map]
      exact ev_compA D.str _ one.pools (by simp [Ex.isPk, e5]) rfl (by omega) fun p hpp => ⟨[some (.fz one.d), some (.fz other.d), some (.fz (.tup [.str a, .str b])), v3, v4, v5, some (.fz (.str p)), v7, v8], by simp [wipeF], by simp, by simp [Ex.isPk, he, eq_str (g1.ok p hpp) hx]⟩
    have c3 : ∀ v4 v5 v6 v7 v8 : Option Sl, ev ⟨P.con, call P (n + 4)⟩ (.comp [("height", 8)] (.var 8) (.name 8) (.walk (.var 3)) (.part (.cmp .isn (.var 8) .non))) [some (.fz one.d), some (.fz other.d), some (.fz (.tup [.str a, .str b])), some (.fz (.lst ([fromH one a b, fromH other a b].map optD))), v4, v5, v6, v7, v8] S = .ok (.lst (([fromH one a b, fromH other a b].filter Option.isSome).map optD)) S := fun v4 v5 v6 v7 v8 =>
      ev_compF optD Option.isSome optD [fromH one a b, fromH other a b] (by simp [Ex.isPk]) rfl (by simp) fun o ho => ⟨[some (.fz one.d), some (.fz other.d), some (.fz (.tup [.str a, .str b])), some (.fz (.lst ([fromH one a b, fromH other a b].map optD))), v4, v5, v6, v7, some (.fz (optD o))], by simp [wipeF], by simp [isn_opt], fun _ => by simp⟩
    have hmin : blt .min [.lst (([fromH one a b, fromH other a b].filter Option.isSome).map optD)] S = some (.int (lowOf (fromH one a b) (fromH other a b))) := by
      unfold diff at hd
      cases h1 : fromH one a b with
      | none =>
        cases h2 : fromH other a b with
        | none => rw [h1, h2] at hd; simp at hd
        | some j => simp [optD, lowOf]; rfl
      | some i =>
        cases h2 : fromH other a b with
        | none => simp [optD, lowOf]; rfl
        | some j => simp [optD, lowOf]; rfl
    simp only [List.map_cons, List.map_nil] at c3
    simp [d_parting_counts, startF, Ex.isPk, nt, fp, prD]
    rw [c1]
    simp
    rw [c2 a (g1.ok a ha) _ _ _ _ _ _ _ fun _ => by simp]
    simp [tuple_lst]
    rw [c2 b (g1.ok b hb) _ _ _ _ _ _ _ fun _ => by simp]
    simp [tuple_lst]
    rw [c3]
    simp only [bind_ok, hmin, ofO_some]
    simp [lim, cntD]
end
end LP.Q
namespace LP.Q
open PySem
/-! ### dice -/
def DiceAt (S : Sto) (k : Nat) : Prop := ∃ c j : Int, S[k]? = some (.cell [.int c, .int j])
def Rolled (k : Nat) (S S' : Sto) : Prop := S' = S ∨ ∃ c j : Int, S' = S.set k (.cell [.int c, .int j])
theorem Rolled.refl (k : Nat) (S : Sto) : Rolled k S S := .inl rfl
theorem Rolled.trans {k : Nat} {S S1 S2 : Sto} (a : Rolled k S S1) (b : Rolled k S1 S2) : Rolled k S S2 := by
  rcases a with rfl | ⟨c, j, rfl⟩
  · exact b
  · rcases b with rfl | ⟨c', j', rfl⟩
    · exact .inr ⟨c, j, rfl⟩
    · exact .inr ⟨c', j', by rw [List.set_set]⟩
theorem Rolled.dice {k i : Nat} {S S' : Sto} (a : Rolled k S S') (h : DiceAt S i) : DiceAt S' i := by
  rcases a with rfl | ⟨c, j, rfl⟩
  · exact h
  · obtain ⟨c', j', e⟩ := h
    by_cases q : k = i
    · subst q
      exact ⟨c, j, by rw [List.getElem?_set_self (List.getElem?_eq_some_iff.mp e).1]⟩
    · exact ⟨c', j', by rw [List.getElem?_set_ne q]; exact e⟩
theorem DiceAt.cell {S : Sto} {k : Nat} {c j : Int} (e : S[k]? = some (.cell [.int c, .int j])) : cellAt S k = some [.int c, .int j] := by
  unfold cellAt; rw [e]
@[simp] theorem mod_int {i j : Int} (h : 0 < j) : bin .mod (.int i) (.int j) = some (.int (i % j)) := if_pos h
@[simp] theorem fdiv_int {i j : Int} (h : 0 < j) (h2 : j < 2 ^ 200) : bin .fdiv (.int i) (.int j) = some (.int (i / j)) := if_pos ⟨h, Int.lt_of_lt_of_le h2 (by
  have : (2 : Nat) ^ 200 ≤ 2 ^ 600 := Nat.pow_le_pow_right (by decide) (by decide)
  exact_mod_cast this)⟩
theorem mul_small {i j : Int} (h : j.natAbs < 2 ^ 63) : bin .mul (.int i) (.int j) = some (.int (i * j)) := if_pos (.inr (.inl h))
theorem mul_big {i j : Int} (h : i.natAbs < 2 ^ 600) (h2 : j.natAbs < 2 ^ 600) : bin .mul (.int i) (.int j) = some (.int (i * j)) := if_pos (.inl ⟨h, h2⟩)
section
variable {P : Prg} {S : Sto} {n : Nat}
theorem drawn_ok (H : Has P c__law_drawn k__law_drawn) (c j : Int) : ∃ d : Int, 0 ≤ d ∧ call P (n + 1) i__law_drawn [.int c, .int j] S = .ok (.int d) S := by
  rw [H.run (d := d__law_drawn) (by decide) rfl rfl]
  generalize hm1 : (c * 6364136223846793005 + (j + 1) * 1442695040888963407) % 340282366920938463463374607431768211507 = m1
  have b1 : 0 ≤ m1 ∧ m1 < 340282366920938463463374607431768211507 := by
    rw [← hm1]
    exact And.intro (Int.emod_nonneg _ (by decide)) (Int.emod_lt_of_pos _ (by decide))
  generalize hm2 : m1 * m1 % 340282366920938463463374607431768211297 = m2
  have b2 : 0 ≤ m2 ∧ m2 < 340282366920938463463374607431768211297 := by
    rw [← hm2]
    exact And.intro (Int.emod_nonneg _ (by decide)) (Int.emod_lt_of_pos _ (by decide))
  generalize hx : m2 % 18446744073709551557 + 1 = x
  have bx : 0 ≤ x ∧ x < 18446744073709551558 := by
    rw [← hx]
    have := Int.emod_nonneg m2 (b := 18446744073709551557) (by decide)
    have := Int.emod_lt_of_pos m2 (b := 18446744073709551557) (by decide)
    omega
  generalize hy : m2 / 18446744073709551557 + 1 = y
  have by_ : 0 ≤ y ∧ y < 340282366920938463463374607431768211298 := by
    rw [← hy]
    have h1 := Int.ediv_nonneg b2.1 (b := 18446744073709551557) (by decide)
    have h2 := Int.ediv_le_self (18446744073709551557) b2.1
    omega
  have p1 : m1.natAbs < 2 ^ 600 := by have : (2 : Nat) ^ 128 ≤ 2 ^ 600 := Nat.pow_le_pow_right (by decide) (by decide); omega
  have p2 : m2.natAbs < 2 ^ 600 := by have : (2 : Nat) ^ 128 ≤ 2 ^ 600 := Nat.pow_le_pow_right (by decide) (by decide); omega
  have px : x.natAbs < 2 ^ 600 := by have : (2 : Nat) ^ 128 ≤ 2 ^ 600 := Nat.pow_le_pow_right (by decide) (by decide); omega
  have py : y.natAbs < 2 ^ 600 := by have : (2 : Nat) ^ 130 ≤ 2 ^ 600 := Nat.pow_le_pow_right (by decide) (by decide); omega
  have pxy : (x * y).natAbs < 2 ^ 600 := by
    rw [Int.natAbs_mul]
    have h1 : x.natAbs < 2 ^ 128 := by omega
    have h2 : y.natAbs < 2 ^ 130 := by omega
    have : x.natAbs * y.natAbs < 2 ^ 128 * 2 ^ 130 := Nat.mul_lt_mul'' h1 h2
    have : (2 : Nat) ^ 128 * 2 ^ 130 ≤ 2 ^ 600 := by rw [← Nat.pow_add]; exact Nat.pow_le_pow_right (by decide) (by decide)
    omega
  refine ⟨x * y * m2 % 340282366920938463463374607431768211507, Int.emod_nonneg _ (by decide), ?_⟩
  simp [d__law_drawn, startF, Ex.isPk, mul_small, hm1, mul_big p1 p1, hm2, hx, hy, mul_big px py, mul_big pxy p2]
theorem roll_ok (H : Has P c__law_roll k__law_roll) {k : Nat} (hd : DiceAt S k) {many : Int} (h0 : 0 < many) (h1 : many < 1000000) : ∃ r S', call P (n + 2) i__law_roll [.obj k, .int many] S = .ok (.int r) S' ∧ 0 ≤ r ∧ r < many ∧ Rolled k S S' := by
  rw [H.run (d := d__law_roll) (by decide) rfl rfl]
  obtain ⟨c, j, e⟩ := hd
  have hc := DiceAt.cell e
  have hk : k < S.length := (List.getElem?_eq_some_iff.mp e).1
  have hs : ∀ x : SO, (S.set k x)[k]? = some x := fun x => List.getElem?_set_self hk
  have i0 : ∀ S' a b, cellAt S' k = some [a, b] → ixD (.obj k) (.int 0) S' = some a := fun S' a b h => by
    show (cellAt S' k).bind _ = _
    rw [h]
    rfl
  have i1 : ∀ S' a b, cellAt S' k = some [a, b] → ixD (.obj k) (.int 1) S' = some b := fun S' a b h => by
    show (cellAt S' k).bind _ = _
    rw [h]
    rfl
  have q0 : ∀ v, putD (.obj k) (.int 0) v S = some (S.set k (.cell [v, .int j])) := fun v => by
    show (cellAt S k).bind _ = _
    rw [hc]
    rfl
  have q1 : ∀ v, putD (.obj k) (.int 1) v S = some (S.set k (.cell [.int c, v])) := fun v => by
    show (cellAt S k).bind _ = _
    rw [hc]
    rfl
  have hpow : bin .pow (.int 10) (.int 18) = some (.int 1000000000000000000) := by
    simp [bin, powD]
  by_cases big : (1000000000000000000 : Int) ≤ c
  · refine ⟨c % many, S.set k (.cell [.int (c / many), .int j]), ?_, Int.emod_nonneg _ (by omega), Int.emod_lt_of_pos _ h0, .inr ⟨_, _, rfl⟩⟩
    have h2 : many < 2 ^ 200 := by omega
    have hf : bin .fdiv (.int c) (.int many) = some (.int (c / many)) := fdiv_int h0 h2
    simp [d__law_roll, startF, Ex.isPk, i0 S _ _ hc, hpow, big, h0, hf, q0]
  · have hc2 : cellAt (S.set k (.cell [.int c, .int (j + 1)])) k = some [.int c, .int (j + 1)] := DiceAt.cell (hs _)
    obtain ⟨d, d0, ed⟩ := drawn_ok (n := n) (S := S.set k (.cell [.int c, .int (j + 1)])) (H.mono (by decide) (by decide)) c (j + 1)
    refine ⟨d / 8 % many, S.set k (.cell [.int c, .int (j + 1)]), ?_, Int.emod_nonneg _ (by omega), Int.emod_lt_of_pos _ h0, .inr ⟨_, _, rfl⟩⟩
    simp [d__law_roll, startF, Ex.isPk, i0 S _ _ hc, i1 S _ _ hc, hpow, big, h0, q1, i0 _ _ _ hc2, i1 _ _ _ hc2, ed]
theorem cell_ok (H : Has P c__law_cell k__law_cell) (ns : List Int) (hn : ns.length ≤ 63) (i : Nat) : ∃ c : Int, call P (n + 1) i__law_cell [.scr ns, .int i] S = .ok (.int c) S := by
  rw [H.run (d := d__law_cell) (by decide) rfl rfl]
  have e1 : cmpD .eq (.scr ns) (.lst []) = some ns.isEmpty := by
    have : D.eqOk (.scr ns) (.lst []) = true := by simp [D.eqOk, D.pl, D.pls, D.dep, D.deps, D.ns, D.nss, D.isScr]
    rw [eqD_ok this, D.eq]
    cases ns <;> rfl
  cases ns with
  | nil => exact ⟨i * 7919, by simp [d__law_cell, startF, Ex.isPk, e1, lim, mul_small]⟩
  | cons z zs =>
    have hl : blt .len [.scr (z :: zs)] S = some (.int ((z :: zs).length : Nat)) := rfl
    generalize hL : (z :: zs).length = L at hl hn
    have h0 : (0 : Int) < (L : Nat) := by rw [← hL, List.length_cons]; omega
    have b0 := Int.emod_nonneg (i : Int) (b := (L : Nat)) (by omega)
    have b1 := Int.emod_lt_of_pos (i : Int) h0
    have hx : ∃ y, ixD (.scr (z :: zs)) (.int ((i : Int) % (L : Nat))) S = some (.int y) := by
      have : ((i : Int) % (L : Nat)).toNat < (z :: zs).length := by omega
      refine ⟨(z :: zs)[((i : Int) % (L : Nat)).toNat], ?_⟩
      show (getD (z :: zs) _).map D.int = _
      unfold getD ixAt
      rw [if_pos b0, if_pos (by omega)]
      simp only [Option.bind_some]
      rw [List.getElem?_eq_getElem this]
      rfl
    obtain ⟨y, hy⟩ := hx
    have hf : bin .fdiv (.int i) (.int (L : Nat)) = some (.int ((i : Int) / (L : Nat))) := fdiv_int h0 (by omega)
    have hm : bin .mod (.int i) (.int (L : Nat)) = some (.int ((i : Int) % (L : Nat))) := mod_int h0
    refine ⟨y + (i : Int) / (L : Nat) * 104729, ?_⟩
    simp [d__law_cell, startF, Ex.isPk, e1, lim, hl, hm, hf, hy, mul_small]
theorem rng_nat {m : Nat} (h : m ≤ 100000) : rngD [.int (m : Nat)] = some ((List.range m).map fun k : Nat => D.int (k : Nat)) := by
  have hs : small62 ((m : Nat) : Int) = true := by
    unfold small62
    have h1 : (0 : Int) ≤ 2 ^ 60 := by decide
    have h2 : (100000 : Int) < 2 ^ 60 := by decide
    rw [decide_eq_true (by omega), decide_eq_true (by omega)]
    rfl
  simp only [rngD, hs, if_true, rngI, Int.toNat_natCast, Int.zero_add]
theorem turns_cons {bnd : D → Option Fr} {cnd : Fr → Sto → Re Bool} {elt : Fr → Sto → Re D} {x y : D} {xs ys : List D} {S S1 S2 : Sto} {ρ : Fr} (h1 : bnd x = some ρ) (h2 : cnd ρ S = .ok true S) (h3 : elt ρ S = .ok y S1) (h4 : turns bnd cnd elt xs S1 = .ok ys S2) :
    turns bnd cnd elt (x :: xs) S = .ok (y :: ys) S2 := by
  rw [turns, h1]
  simp [h2, h3, h4]
theorem evs_one {Γ : Gam} {ρ : Fr} {S S1 : Sto} {b : Bool} {a : Ex} {x : D} (h : ev Γ a ρ S = .ok x S1) (hp : a.isPk = false) : evs Γ b (.cons a .nil) ρ S = .ok [x] S1 := by
  rw [evs_cons, hp, h]
  simp
theorem evs_two {Γ : Gam} {ρ : Fr} {S S1 S2 : Sto} {b : Bool} {a c : Ex} {x y : D} (h : ev Γ a ρ S = .ok x S1) (h2 : ev Γ c ρ S1 = .ok y S2) (hp : a.isPk = false) (hp2 : c.isPk = false) : evs Γ b (.cons a (.cons c .nil)) ρ S = .ok [x, y] S2 := by
  rw [evs_cons, hp, h]
  simp only [Bool.false_and, Bool.false_eq_true, if_false, bind_ok, evs_one h2 hp2]
theorem ev_compT {Γ : Gam} {ρ : Fr} {S S1 S2 : Sto} {own : List (Str × Nat)} {elt it cnd : Ex} {tg : Tg} {xs ys : List D} (hi : evi Γ it ρ S = .ok xs S1) (hk : elt.isPk = false) (hl : xs.length ≤ 5000)
    (ht : turns (fun d => bindT tg d (wipeF ρ (own.map (·.2)))) (fun ρ S => evc Γ cnd ρ S) (fun ρ S => ev Γ elt ρ S) xs S1 = .ok ys S2) : ev Γ (.comp own elt tg it cnd) ρ S = .ok (.lst ys) S2 := by
  have hlim : decide (lim < xs.length) = false := decide_eq_false (Nat.not_lt.mpr (small hl))
  rw [ev_comp, hi, bind_ok, hk, hlim, ht]
  rfl
/-- the dice of a law -/
theorem rounds_ok (H : Has P c__law_rounds k__law_rounds) (ns : List Int) (hn : ns.length ≤ 63) {high : Nat} (hh : high ≤ 100) : ∃ (m : Nat) (S0 : Sto), call P (n + 2) i__law_rounds [.scr ns, .int high] [] = .ok (.lst ((List.range m).map .obj)) S0 ∧ m ≤ 100 ∧ ∀ k < m, DiceAt S0 k := by
  rw [H.run (d := d__law_rounds) (by decide) rfl rfl]
  have hmin : blt .min [.int high, .int (ns.length : Nat)] [] = some (.int (if ((ns.length : Nat) : Int) < high then (ns.length : Nat) else high)) := rfl
  generalize hm : (if ((ns.length : Nat) : Int) < (high : Int) then ((ns.length : Nat) : Int) else (high : Int)) = m1 at hmin
  have hmax : blt .max [.int 1, .int m1] [] = some (.int (if m1 > 1 then m1 else 1)) := rfl
  generalize hm2 : (if m1 > 1 then m1 else (1 : Int)) = m2 at hmax
  have b1 : 1 ≤ m2 ∧ m2 ≤ 100 := by
    rw [← hm2]
    split at hm <;> split <;> omega
  obtain ⟨m, rfl⟩ : ∃ m : Nat, m2 = m := ⟨m2.toNat, by omega⟩
  have hr := rng_nat (m := m) (by omega)
  have key : ∀ (ks : List Nat) (S : Sto), ∃ S1, turns (fun d => bindT (.name 2) d (wipeF [some (.fz (.scr ns)), some (.fz (.int high)), none] [2])) (fun ρ S => evc ⟨P.con, call P (n + 1)⟩ .nop ρ S) (fun ρ S => ev ⟨P.con, call P (n + 1)⟩ (.cell (.cons (.dcall 40 (.cons (.var 0) (.cons (.var 2) .nil))) (.cons (.int 0) .nil))) ρ S) (ks.map fun k : Nat => D.int (k : Nat)) S = .ok ((List.range ks.length).map fun i => .obj (S.length + i)) (S ++ S1) ∧ S1.length = ks.length ∧ ∀ i < ks.length, DiceAt (S ++ S1) (S.length + i) := by
    intro ks
    induction ks with
    | nil => intro S; exact ⟨[], by simp [turns], rfl, fun i hi => absurd hi (by simp)⟩
    | cons k ks ih =>
      intro S
      obtain ⟨c, hc⟩ := cell_ok (n := n) (S := S) (H.mono (by decide) (by decide)) ns hn k
      obtain ⟨S1, e1, e2, e3⟩ := ih (S ++ [.cell [.int c, .int 0]])
      refine ⟨.cell [.int c, .int 0] :: S1, ?_, by simp [e2], ?_⟩
      · have eb : bindT (.name 2) (D.int (k : Nat)) (wipeF [some (.fz (.scr ns)), some (.fz (.int high)), none] [2]) = some [some (.fz (.scr ns)), some (.fz (.int high)), some (.fz (.int (k : Nat)))] := by simp [wipeF]
        rw [List.map_cons, turns_cons (y := .obj S.length) eb (by simp) (by simp [Ex.isPk, hc, lim]) e1]
        simp [List.range_succ_eq_map, Function.comp_def]
        intro a ha
        omega
      · intro i hi
        cases i with
        | zero => exact ⟨c, 0, by simp⟩
        | succ i =>
          obtain ⟨c', j', e⟩ := e3 i (by simpa using hi)
          refine ⟨c', j', ?_⟩
          simp only [List.append_assoc, List.length_append, List.length_singleton, List.singleton_append] at e
          have : S.length + (i + 1) = S.length + 1 + i := by omega
          rw [this]
          exact e
  obtain ⟨S1, e1, e2, e3⟩ := key (List.range m) []
  refine ⟨m, S1, ?_, by omega, fun k hk => ?_⟩
  · have hl : blt .len [.scr ns] [] = some (.int (ns.length : Nat)) := rfl
    have hi : evi ⟨P.con, call P (n + 1)⟩ (.rng (.cons (.blt .max (.cons (.int 1) (.cons (.blt .min (.cons (.var 1) (.cons (.blt .len (.cons (.var 0) .nil)) .nil))) .nil))) .nil)) [some (.fz (.scr ns)), some (.fz (.int high)), none] [] = .ok ((List.range m).map fun k : Nat => D.int (k : Nat)) [] := by
      have a1 : ev ⟨P.con, call P (n + 1)⟩ (.blt .len (.cons (.var 0) .nil)) [some (.fz (.scr ns)), some (.fz (.int high)), none] [] = .ok (.int (ns.length : Nat)) [] := by
        rw [ev_blt, evs_one (x := .scr ns) (S1 := []) (by rw [ev_var]; rfl) rfl, bind_ok, hl, ofO_some]
      have a2 : ev ⟨P.con, call P (n + 1)⟩ (.blt .min (.cons (.var 1) (.cons (.blt .len (.cons (.var 0) .nil)) .nil))) [some (.fz (.scr ns)), some (.fz (.int high)), none] [] = .ok (.int m1) [] := by
        rw [ev_blt, evs_two (x := .int high) (S1 := []) (by rw [ev_var]; rfl) a1 rfl rfl, bind_ok, hmin, ofO_some]
      have a3 : ev ⟨P.con, call P (n + 1)⟩ (.blt .max (.cons (.int 1) (.cons (.blt .min (.cons (.var 1) (.cons (.blt .len (.cons (.var 0) .nil)) .nil))) .nil))) [some (.fz (.scr ns)), some (.fz (.int high)), none] [] = .ok (.int m) [] := by
        rw [ev_blt, evs_two (x := .int 1) (S1 := []) (by rw [ev_int]) a2 rfl rfl, bind_ok, hmax, ofO_some]
      rw [evi_rng, evs_one a3 rfl, bind_ok, hr, ofO_some]
    have ec := ev_compT (own := [("k", 2)]) (cnd := .nop) hi rfl (by rw [List.length_map, List.length_range]; omega) e1
    simp only [d__law_rounds, startF, List.map_cons, List.map_nil, List.length_cons, List.length_nil, List.replicate_succ, List.replicate_zero, List.cons_append, List.nil_append, Nat.zero_add, Nat.reduceAdd, Nat.reduceSub, ex_seq, ex_ret, Ex.isPk, Bool.false_eq_true, if_false]
    rw [ec]
    simp
  · have := e3 k (by simpa using hk)
    simpa using this
end
end LP.Q
namespace LP.Q
open PySem
/-! ### drawn ridges -/
def ridLt (a b : Rid) : Bool := if a.1 = b.1 then (if a.2.1 = b.2.1 then decide (a.2.2 < b.2.2) else sLt a.2.1 b.2.1) else sLt a.1 b.1
theorem rid_sto : STO ridLt := by
  have o := sLt_sto
  refine ⟨fun a => by unfold ridLt; simp, fun a b c h1 h2 => ?_, fun a b h1 h2 => ?_⟩
  · obtain ⟨a1, a2, a3⟩ := a
    obtain ⟨b1, b2, b3⟩ := b
    obtain ⟨c1, c2, c3⟩ := c
    unfold ridLt at *
    simp only at *
    by_cases e1 : a1 = b1
    · subst e1
      rw [if_pos rfl] at h1
      by_cases e2 : a1 = c1
      · subst e2
        rw [if_pos rfl] at h2 ⊢
        by_cases f1 : a2 = b2
        · subst f1
          rw [if_pos rfl] at h1
          by_cases f2 : a2 = c2
          · subst f2
            rw [if_pos rfl] at h2 ⊢
            simp only [decide_eq_true_eq] at h1 h2 ⊢
            omega
          · rw [if_neg f2] at h2 ⊢; exact h2
        · rw [if_neg f1] at h1
          by_cases f2 : b2 = c2
          · subst f2; rw [if_neg f1]; exact h1
          · rw [if_neg f2] at h2
            have := o.tr _ _ _ h1 h2
            rw [if_neg (fun e => by subst e; rw [o.irr] at this; cases this)]
            exact this
      · rw [if_neg e2] at h2 ⊢; exact h2
    · rw [if_neg e1] at h1
      by_cases e2 : b1 = c1
      · subst e2; rw [if_neg e1]; exact h1
      · rw [if_neg e2] at h2
        have := o.tr _ _ _ h1 h2
        rw [if_neg (fun e => by subst e; rw [o.irr] at this; cases this)]
        exact this
  · obtain ⟨a1, a2, a3⟩ := a
    obtain ⟨b1, b2, b3⟩ := b
    unfold ridLt at *
    simp only at *
    by_cases e1 : a1 = b1
    · subst e1
      rw [if_pos rfl] at h1 h2
      by_cases e2 : a2 = b2
      · subst e2
        rw [if_pos rfl] at h1 h2
        simp only [decide_eq_false_iff_not] at *
        have : a3 = b3 := by omega
        rw [this]
      · rw [if_neg e2] at h1
        rw [if_neg (Ne.symm e2)] at h2
        exact absurd (o.tri _ _ h1 h2) e2
    · rw [if_neg e1] at h1
      rw [if_neg (Ne.symm e1)] at h2
      exact absurd (o.tri _ _ h1 h2) e1
theorem lt_rid {a b : Rid} : D.lt (eR a) (eR b) = ridLt a b := by
  unfold eR ridLt
  simp only [D.lt, D.lts, D.eq]
  by_cases e1 : a.1 = b.1 <;> by_cases e2 : a.2.1 = b.2.1 <;> by_cases e3 : a.2.2 = b.2.2 <;> simp [e1, e2, e3]
def pairOf (r : Rid) : Str × Str := (r.1, r.2.1)
theorem rid_rises {rs : List Rid} (n : (rs.map pairOf).Nodup) : Rises prLt ((srtL ridLt rs).map pairOf) := by
  have n2 : ((srtL ridLt rs).map pairOf).Nodup := ((srtL_perm rs).map pairOf).nodup_iff.mpr n
  have o := srtL_ord rid_sto rs
  rw [List.Nodup, List.pairwise_map] at n2
  rw [Rises, List.pairwise_map]
  refine (List.pairwise_and_iff.mpr ⟨o, n2⟩).imp fun {a b} ⟨h1, h2⟩ => ?_
  unfold ridLt at h1
  unfold prLt pairOf
  simp only
  unfold pairOf at h2
  by_cases e1 : a.1 = b.1
  · rw [if_pos e1]
    rw [if_pos e1.symm] at h1
    have e2 : b.2.1 ≠ a.2.1 := fun e => h2 (by rw [e1, e])
    rw [if_neg e2] at h1
    cases q : sLt a.2.1 b.2.1 with
    | true => rfl
    | false => exact absurd (sLt_sto.tri _ _ h1 q) e2
  · rw [if_neg e1]
    rw [if_neg (Ne.symm e1)] at h1
    cases q : sLt a.1 b.1 with
    | true => rfl
    | false => exact absurd (sLt_sto.tri _ _ q h1) e1
theorem sorted_rids {rs : List Rid} {S : Sto} (h : ∀ r ∈ rs, sOk r.1 = true ∧ sOk r.2.1 = true) (hl : rs.length ≤ 5000) : blt .sorted [.lst (rs.map eR)] S = some (.lst ((srtL ridLt rs).map eR)) := by
  rw [sorted_ok (srtOk_map (e := eR) (n := 1) (by decide) (fun r hr => ⟨nice_tup (n := 0) fun x hx => ?_, rfl⟩) (fun x hx y hy => ?_) hl), srt_map (lt := ridLt) eR rs fun _ _ _ _ => lt_rid]
  · simp at hx
    rcases hx with rfl | rfl | rfl
    · exact nice_str (h r hr).1
    · exact nice_str (h r hr).2
    · exact nice_int
  · unfold eR
    simp [D.like, D.likes, (h x hx).1, (h x hx).2, (h y hy).1, (h y hy).2]
/-- all pairs of pools -/
def prs : List Str → List (Str × Str)
  | [] => []
  | p :: ps => ps.map (fun q => (p, q)) ++ prs ps
theorem mem_prs {a b : Str} : ∀ {ps : List Str}, Rises sLt ps → (a, b) ∈ prs ps → a ∈ ps ∧ b ∈ ps ∧ sLt a b = true
  | [], _, h => by cases h
  | p :: ps, hr, h => by
    obtain ⟨h1, h2⟩ := List.pairwise_cons.mp hr
    rcases List.mem_append.mp h with z | z
    · obtain ⟨q, hq, e⟩ := List.mem_map.mp z
      cases e
      exact ⟨List.mem_cons_self, List.mem_cons_of_mem _ hq, h1 _ hq⟩
    · obtain ⟨a1, a2, a3⟩ := mem_prs h2 z
      exact ⟨List.mem_cons_of_mem _ a1, List.mem_cons_of_mem _ a2, a3⟩
theorem nodup_prs : ∀ {ps : List Str}, Rises sLt ps → (prs ps).Nodup
  | [], _ => List.nodup_nil
  | p :: ps, hr => by
    obtain ⟨h1, h2⟩ := List.pairwise_cons.mp hr
    have nd : ps.Nodup := Rises.nodup sLt_sto h2
    refine List.nodup_append.mpr ⟨?_, nodup_prs h2, fun a ha b hb e => ?_⟩
    · rw [List.Nodup, List.pairwise_map]
      exact List.Pairwise.imp (fun h e => h (by cases e; rfl)) nd
    · obtain ⟨q, hq, rfl⟩ := List.mem_map.mp ha
      subst e
      have := (mem_prs h2 hb).1
      have := h1 _ this
      rw [sLt_sto.irr] at this
      cases this
theorem len_prs : ∀ {ps : List Str}, (prs ps).length ≤ ps.length * ps.length
  | [] => Nat.le_refl _
  | p :: ps => by
    rw [prs, List.length_append, List.length_map, List.length_cons]
    have := len_prs (ps := ps)
    have : (ps.length + 1) * (ps.length + 1) = ps.length * ps.length + 2 * ps.length + 1 := by
      rw [Nat.add_mul, Nat.mul_add]; omega
    omega
theorem erase_perm {α : Type} : ∀ {xs : List α} {i : Nat} (h : i < xs.length), (xs[i] :: xs.eraseIdx i).Perm xs
  | x :: xs, 0, _ => List.Perm.refl _
  | x :: xs, i + 1, h => by
    have := erase_perm (xs := xs) (i := i) (by simpa using h)
    rw [List.getElem_cons_succ, List.eraseIdx_cons_succ]
    exact (List.Perm.swap _ _ _).trans (this.cons x)
theorem map_erase {α β : Type} (f : α → β) : ∀ (xs : List α) (i : Nat), (xs.map f).eraseIdx i = (xs.eraseIdx i).map f
  | [], _ => rfl
  | x :: xs, 0 => rfl
  | x :: xs, i + 1 => by rw [List.map_cons, List.eraseIdx_cons_succ, map_erase f xs i, List.eraseIdx_cons_succ, List.map_cons]
def eP (p : Str × Str) : D := .tup [.str p.1, .str p.2]
def prStep (pools : List Str) (acc : List (Str × Str)) (x : Nat × Str) : List (Str × Str) := acc ++ (pools.drop (x.1 + 1)).map fun q => (x.2, q)
theorem prs_fold : ∀ (pre ps : List Str) (acc : List (Str × Str)), ((List.range' pre.length ps.length).zip ps).foldl (prStep (pre ++ ps)) acc = acc ++ prs ps
  | pre, [], acc => by simp [prs]
  | pre, p :: ps, acc => by
    have ih := prs_fold (pre ++ [p]) ps (acc ++ ps.map fun q => (p, q))
    rw [List.length_append, List.length_singleton, List.append_assoc, List.singleton_append] at ih
    rw [List.length_cons, List.range'_succ, List.zip_cons_cons, List.foldl_cons]
    have e : prStep (pre ++ p :: ps) acc (pre.length, p) = acc ++ ps.map fun q => (p, q) := by
      unfold prStep
      simp only
      rw [show pre.length + 1 = (pre ++ [p]).length by simp, show pre ++ p :: ps = (pre ++ [p]) ++ ps by simp, List.drop_left]
    rw [e, ih, prs, List.append_assoc]
theorem prs_all (ps : List Str) : ((List.range ps.length).zip ps).foldl (prStep ps) [] = prs ps := by
  have := prs_fold [] ps []
  simpa [List.range_eq_range'] using this
/-- what is known of what is left, and found -/
structure DrawInv (pools : List Str) (some_ : List (Str × Str)) (found : List Rid) : Prop where
  nd : (found.map pairOf ++ some_).Nodup
  sub : ∀ x ∈ found.map pairOf ++ some_, x ∈ prs pools
  hts : ∀ r ∈ found, 1 ≤ r.2.2 ∧ r.2.2 ≤ 9
theorem draw_step {pools : List Str} {some_ : List (Str × Str)} {found : List Rid} (I : DrawInv pools some_ found) {i : Nat} {p : Str × Str} (hp : some_[i]? = some p) {h : Int} (h1 : 1 ≤ h) (h2 : h ≤ 9) : DrawInv pools (some_.eraseIdx i) (found ++ [(p.1, p.2, h)]) := by
  have hi : i < some_.length := (List.getElem?_eq_some_iff.mp hp).1
  have pm : (p :: some_.eraseIdx i).Perm some_ := by
    have e : p = some_[i] := (List.getElem?_eq_some_iff.mp hp).2.symm
    rw [e]
    exact erase_perm hi
  have pm2 : ((found ++ [(p.1, p.2, h)]).map pairOf ++ some_.eraseIdx i).Perm (found.map pairOf ++ some_) := by
    rw [List.map_append, List.append_assoc]
    exact List.Perm.append_left _ pm
  refine ⟨pm2.nodup_iff.mpr I.nd, fun x hx => I.sub x (pm2.mem_iff.mp hx), fun r hr => ?_⟩
  rcases List.mem_append.mp hr with q | q
  · exact I.hts r q
  · simp at q; subst q; exact ⟨h1, h2⟩
section
variable {P : Prg} {S : Sto} {n : Nat}
abbrev frD (k : Nat) (pools : List Str) (high : Int) (some_ : List (Str × Str)) (found : List Rid) (v5 v6 v7 v8 v9 : Option Sl) : Fr := [some (.fz (.obj k)), some (.fz (.tup (pools.map .str))), some (.fz (.int high)), some (.ow (some_.map eP)), some (.ow (found.map eR)), v5, v6, v7, v8, v9]
abbrev sFill : Sm := (.seq (.own 3 (.bin .add (.pk 3) (.comp [("other", 7)] (.tup (.cons (.var 6) (.cons (.var 7) .nil))) (.name 7) (.walk (.sl (.var 1) (.part (.bin .add (.var 5) (.int 1))) .nop)) .nop)))
 .skip)
abbrev sDraw : Sm := (.seq (.ite (.cmp .ne (.pk 3) (.lst .nil)) (.seq (.popAt 9 3 (.dcall 42 (.cons (.var 0) (.cons (.blt .len (.cons (.pk 3) .nil)) .nil))))
 (.seq (.app 4 (.bin .add (.var 9) (.tup (.cons (.bin .add (.int 1) (.dcall 42 (.cons (.var 0) (.cons (.int 9) .nil)))) .nil))))
 .skip)) .skip)
 .skip)
theorem fill_step {Γ : Gam} {k : Nat} {pools : List Str} {high : Int} {acc : List (Str × Str)} {i : Nat} {p : Str} (hl : pools.length ≤ 100) (ha : acc.length ≤ 4000) (v7 v8 v9 : Option Sl) :
    exec Γ sFill (frD k pools high acc [] (some (.fz (.int i))) (some (.fz (.str p))) v7 v8 v9) S = .nx (frD k pools high (prStep pools acc (i, p)) [] (some (.fz (.int i))) (some (.fz (.str p))) v7 v8 v9) S := by
  have ec : ev Γ (.comp [("other", 7)] (.tup (.cons (.var 6) (.cons (.var 7) .nil))) (.name 7) (.walk (.sl (.var 1) (.part (.bin .add (.var 5) (.int 1))) .nop)) .nop) (frD k pools high acc [] (some (.fz (.int i))) (some (.fz (.str p))) v7 v8 v9) S = .ok (.lst ((pools.drop (i + 1)).map fun q => eP (p, q))) S :=
    ev_compA D.str _ (pools.drop (i + 1)) (by simp [frD, Ex.isPk, sl_from]) rfl (by rw [List.length_drop]; omega) fun q hq => ⟨[some (.fz (.obj k)), some (.fz (.tup (pools.map .str))), some (.fz (.int high)), some (.ow (acc.map eP)), some (.ow []), some (.fz (.int i)), some (.fz (.str p)), some (.fz (.str q)), v8, v9], by simp [frD, wipeF], by simp, by simp [Ex.isPk, lim, eP]⟩
  have hlen : (acc.map eP).length + ((pools.drop (i + 1)).map fun q => eP (p, q)).length ≤ lim := by
    rw [List.length_map, List.length_map, List.length_drop]
    exact small (by omega)
  have e1 : ev Γ (.pk 3) (frD k pools high acc [] (some (.fz (.int i))) (some (.fz (.str p))) v7 v8 v9) S = .ok (.lst (acc.map eP)) S := by simp [frD]
  rw [ex_seq, ex_own, if_pos (by rfl), ev_bin, e1, bind_ok, ec, bind_ok, add_lst hlen, ofO_some, ou_ok]
  have : acc.map eP ++ ((pools.drop (i + 1)).map fun q => eP (p, q)) = (prStep pools acc (i, p)).map eP := by
    unfold prStep
    rw [List.map_append, List.map_map]
    rfl
  rw [this]
  simp [ownS, frD]
theorem draw_turn (H : Has P c__law_roll k__law_roll) {k : Nat} {pools : List Str} (hr : Rises sLt pools) (hok : ∀ p ∈ pools, sOk p = true) {high : Int} {some_ : List (Str × Str)} {found : List Rid} (I : DrawInv pools some_ found) (hs : some_.length ≤ 4000) (hf : found.length ≤ 4000) (hd : DiceAt S k) (v5 v6 v7 v8 v9 : Option Sl) :
    ∃ some' found' w9 S', exec ⟨P.con, call P (n + 2)⟩ sDraw (frD k pools high some_ found v5 v6 v7 v8 v9) S = .nx (frD k pools high some' found' v5 v6 v7 v8 w9) S' ∧ DrawInv pools some' found' ∧ some'.length ≤ some_.length ∧ found'.length ≤ found.length + 1 ∧ Rolled k S S' := by
  have nic : ∀ x ∈ some_.map eP, Nice 1 x := fun x hx => by
    obtain ⟨p, hp, rfl⟩ := List.mem_map.mp hx
    have := mem_prs (a := p.1) (b := p.2) hr (I.sub p (List.mem_append_right _ hp))
    refine nice_tup (n := 0) fun y hy => ?_
    simp at hy
    rcases hy with rfl | rfl
    · exact nice_str (hok _ this.1)
    · exact nice_str (hok _ this.2.1)
  have hne := ne_nil nic (by decide)
  cases hsm : some_ with
  | nil =>
    subst hsm
    refine ⟨[], found, v9, S, ?_, I, Nat.le_refl _, Nat.le_succ _, .refl _ _⟩
    simp only [List.map_nil] at hne
    simp [frD, sDraw, Ex.isPk, lim, hne]
  | cons q qs =>
    rw [← hsm]
    have hpos : 0 < some_.length := by rw [hsm]; simp
    have hne' : cmpD .ne (.lst (some_.map eP)) (.lst []) = some true := by rw [hne, hsm]; rfl
    obtain ⟨r, S1, e1, r0, r1, R1⟩ := roll_ok (n := n) (S := S) H hd (many := (some_.length : Nat)) (by omega) (by omega)
    obtain ⟨r2, S2, e2, q0, q1, R2⟩ := roll_ok (n := n) (S := S1) H (R1.dice hd) (many := 9) (by decide) (by decide)
    have hri : r.toNat < some_.length := by omega
    have hget : some_[r.toNat]? = some some_[r.toNat] := by rw [List.getElem?_eq_getElem hri]
    have hget2 : (some_.map eP)[r.toNat]? = some (eP some_[r.toNat]) := by rw [List.getElem?_map, hget]; rfl
    refine ⟨some_.eraseIdx r.toNat, found ++ [(some_[r.toNat].1, some_[r.toNat].2, 1 + r2)], some (.fz (eP some_[r.toNat])), S2, ?_, draw_step I hget (by omega) (by omega), by rw [List.length_eraseIdx]; split <;> omega, by simp, R1.trans R2⟩
    have hlen : blt .len [.lst (some_.map eP)] S = some (.int (some_.length : Nat)) := by
      show some (D.int ((some_.map eP).length : Nat)) = _
      rw [List.length_map]
    have hlim : (some_.map eP).length ≤ lim := by rw [List.length_map]; exact small (by omega)
    have hlf : (found.map eR).length < lim := by rw [List.length_map]; exact Nat.lt_of_le_of_lt hf (by decide)
    have hix : ixAt (some_.map eP).length r = some r.toNat := by
      unfold ixAt
      rw [if_pos r0, if_pos (by rw [List.length_map]; exact r1)]
    have p1 : exec ⟨P.con, call P (n + 2)⟩ (.popAt 9 3 (.dcall 42 (.cons (.var 0) (.cons (.blt .len (.cons (.pk 3) .nil)) .nil)))) (frD k pools high some_ found v5 v6 v7 v8 v9) S = .nx (frD k pools high (some_.eraseIdx r.toNat) found v5 v6 v7 v8 (some (.fz (eP some_[r.toNat])))) S1 := by
      have a1 : ev ⟨P.con, call P (n + 2)⟩ (.blt .len (.cons (.pk 3) .nil)) (frD k pools high some_ found v5 v6 v7 v8 v9) S = .ok (.int (some_.length : Nat)) S := by
        rw [ev_blt, evs_cons]
        simp only [frD, ev_pk, owAt_succ, owAt_zero, Option.map_some, ofO_some, bind_ok, evs_nil, Bool.not_true, Bool.and_false, Bool.false_eq_true, if_false, hlen]
      have a2 : ev ⟨P.con, call P (n + 2)⟩ (.dcall 42 (.cons (.var 0) (.cons (.blt .len (.cons (.pk 3) .nil)) .nil))) (frD k pools high some_ found v5 v6 v7 v8 v9) S = .ok (.int r) S1 := by
        rw [ev_dcall, evs_two (x := .obj k) (S1 := S) (by rw [ev_var]; rfl) a1 rfl rfl, bind_ok]
        exact e1
      rw [ex_popAt]
      have ow : owAt (frD k pools high some_ found v5 v6 v7 v8 v9) 3 = some (some_.map eP) := rfl
      rw [ow, optU_some, a2, ou_ok, if_pos hlim, asInt_int, Option.bind_some, hix, optU_some, hget2, optU_some]
      have er : (some_.map eP).eraseIdx r.toNat = (some_.eraseIdx r.toNat).map eP := map_erase _ _ _
      rw [er]
      simp [frD]
    have p2 : exec ⟨P.con, call P (n + 2)⟩ (.app 4 (.bin .add (.var 9) (.tup (.cons (.bin .add (.int 1) (.dcall 42 (.cons (.var 0) (.cons (.int 9) .nil)))) .nil)))) (frD k pools high (some_.eraseIdx r.toNat) found v5 v6 v7 v8 (some (.fz (eP some_[r.toNat])))) S1 = .nx (frD k pools high (some_.eraseIdx r.toNat) (found ++ [(some_[r.toNat].1, some_[r.toNat].2, 1 + r2)]) v5 v6 v7 v8 (some (.fz (eP some_[r.toNat])))) S2 := by
      have a2 : ev ⟨P.con, call P (n + 2)⟩ (.dcall 42 (.cons (.var 0) (.cons (.int 9) .nil))) (frD k pools high (some_.eraseIdx r.toNat) found v5 v6 v7 v8 (some (.fz (eP some_[r.toNat])))) S1 = .ok (.int r2) S2 := by
        rw [ev_dcall, evs_two (x := .obj k) (S1 := S1) (by rw [ev_var]; rfl) (by rw [ev_int]) rfl rfl, bind_ok]
        exact e2
      have a3 : ev ⟨P.con, call P (n + 2)⟩ (.bin .add (.int 1) (.dcall 42 (.cons (.var 0) (.cons (.int 9) .nil)))) (frD k pools high (some_.eraseIdx r.toNat) found v5 v6 v7 v8 (some (.fz (eP some_[r.toNat])))) S1 = .ok (.int (1 + r2)) S2 := by
        rw [ev_bin, ev_int, bind_ok, a2, bind_ok]
        rfl
      have a4 : ev ⟨P.con, call P (n + 2)⟩ (.tup (.cons (.bin .add (.int 1) (.dcall 42 (.cons (.var 0) (.cons (.int 9) .nil)))) .nil)) (frD k pools high (some_.eraseIdx r.toNat) found v5 v6 v7 v8 (some (.fz (eP some_[r.toNat])))) S1 = .ok (.tup [.int (1 + r2)]) S2 := by
        rw [ev_tup, evs_one a3 rfl, bind_ok, if_pos (show [D.int (1 + r2)].length ≤ lim from small (by simp))]
      rw [ex_app, if_neg (by simp [Ex.isPk])]
      have ow : owAt (frD k pools high (some_.eraseIdx r.toNat) found v5 v6 v7 v8 (some (.fz (eP some_[r.toNat])))) 4 = some (found.map eR) := rfl
      have av : ev ⟨P.con, call P (n + 2)⟩ (.var 9) (frD k pools high (some_.eraseIdx r.toNat) found v5 v6 v7 v8 (some (.fz (eP some_[r.toNat])))) S1 = .ok (eP some_[r.toNat]) S1 := by rw [ev_var]; rfl
      rw [ow, optU_some, ev_bin, av, bind_ok, a4, bind_ok]
      have ea : bin .add (eP some_[r.toNat]) (.tup [.int (1 + r2)]) = some (eR (some_[r.toNat].1, some_[r.toNat].2, 1 + r2)) := add_tup (show 2 + 1 ≤ lim by decide)
      rw [ea, ofO_some, ou_ok, if_pos hlf]
      simp [frD]
    have pc : evT ⟨P.con, call P (n + 2)⟩ (.cmp .ne (.pk 3) (.lst .nil)) (frD k pools high some_ found v5 v6 v7 v8 v9) S = .ok true S := by
      simp [frD, hne', lim]
    rw [ex_seq, ex_ite, pc, ou_ok, if_pos rfl, ex_seq, p1, then_nx, ex_seq, p2, then_nx, ex_skip, then_nx, ex_skip]
theorem draw_loop (H : Has P c__law_roll k__law_roll) {k : Nat} {pools : List Str} (hr : Rises sLt pools) (hok : ∀ p ∈ pools, sOk p = true) {high : Int} : ∀ (ts : List D) (some_ : List (Str × Str)) (found : List Rid) (S : Sto) (v5 v6 v7 v8 v9 : Option Sl), DrawInv pools some_ found → some_.length ≤ 4000 → found.length + ts.length ≤ 4000 → DiceAt S k →
    ∃ some' found' w8 w9 S', floop (bindT (.name 8)) (fun ρ S => exec ⟨P.con, call P (n + 2)⟩ sDraw ρ S) ts (frD k pools high some_ found v5 v6 v7 v8 v9) S = .nx (frD k pools high some' found' v5 v6 v7 w8 w9) S' ∧ DrawInv pools some' found' ∧ found'.length ≤ found.length + ts.length ∧ Rolled k S S'
  | [], some_, found, S, v5, v6, v7, v8, v9, I, _, _, _ => ⟨some_, found, v8, v9, S, rfl, I, Nat.le_refl _, .refl _ _⟩
  | t :: ts, some_, found, S, v5, v6, v7, v8, v9, I, hs, hf, hd => by
    rw [List.length_cons] at hf
    obtain ⟨some1, found1, w9, S1, e1, I1, l1, l2, R1⟩ := draw_turn (n := n) (S := S) (high := high) H hr hok I hs (by omega) hd v5 v6 v7 (some (.fz t)) v9
    obtain ⟨some2, found2, x8, x9, S2, e2, I2, l3, R2⟩ := draw_loop H hr hok ts some1 found1 S1 v5 v6 v7 (some (.fz t)) w9 I1 (by omega) (by omega) (R1.dice hd)
    refine ⟨some2, found2, x8, x9, S2, ?_, I2, by rw [List.length_cons]; omega, R1.trans R2⟩
    have eb : bindT (.name 8) t (frD k pools high some_ found v5 v6 v7 v8 v9) = some (frD k pools high some_ found v5 v6 v7 (some (.fz t)) v9) := by simp [frD]
    rw [floop, eb, optU_some, e1, then_nx, e2]
/-- drawn ridges fit their pools -/
structure RidsOk (pools : List Str) (high : Nat) (rs : List Rid) : Prop where
  len : rs.length ≤ high
  rid : ∀ r ∈ rs, r.1 ∈ pools ∧ r.2.1 ∈ pools ∧ sLt r.1 r.2.1 = true ∧ 1 ≤ r.2.2 ∧ r.2.2 ≤ 9
  rr : Rises prLt (rs.map fun r => (r.1, r.2.1))
theorem any_ridges_ok (H : Has P c__law_any_ridges k__law_any_ridges) {k : Nat} {pools : List Str} (hr : Rises sLt pools) (hok : ∀ p ∈ pools, sOk p = true) (hl : pools.length ≤ 6) {high : Nat} (hh : high ≤ 100) (hd : DiceAt S k) :
    ∃ rs S', call P (n + 3) i__law_any_ridges [.obj k, .tup (pools.map .str), .int high] S = .ok (.tup (rs.map eR)) S' ∧ RidsOk pools high rs ∧ Rolled k S S' := by
  rw [H.run (d := d__law_any_ridges) (by decide) rfl rfl]
  have Hr : Has P c__law_roll k__law_roll := H.mono (by decide) (by decide)
  -- the pairs
  have lenS : ∀ (L : List (Nat × Str)) (acc : List (Str × Str)), (L.foldl (prStep pools) acc).length ≤ acc.length + L.length * 6 := by
    intro L
    induction L with
    | nil => intro acc; simp
    | cons x L ih =>
      intro acc
      rw [List.foldl_cons]
      have := ih (prStep pools acc x)
      have h2 : (prStep pools acc x).length ≤ acc.length + 6 := by
        unfold prStep
        rw [List.length_append, List.length_map, List.length_drop]
        omega
      rw [List.length_cons]
      omega
  have fill : ∀ (L : List (Nat × Str)) (acc : List (Str × Str)) (v5 v6 v7 v8 v9 : Option Sl), acc.length + L.length * 6 ≤ 4000 → ∃ w5 w6, floop (bindT (.tcons (.name 5) (.tcons (.name 6) .tnil))) (fun ρ S => exec ⟨P.con, call P (n + 2)⟩ sFill ρ S) (L.map fun x : Nat × Str => D.tup [.int (x.1 : Nat), .str x.2]) (frD k pools high acc [] v5 v6 v7 v8 v9) S = .nx (frD k pools high (L.foldl (prStep pools) acc) [] w5 w6 v7 v8 v9) S := by
    intro L
    induction L with
    | nil => intro acc v5 v6 v7 v8 v9 _; exact ⟨v5, v6, rfl⟩
    | cons x L ih =>
      intro acc v5 v6 v7 v8 v9 hb
      rw [List.length_cons] at hb
      have h2 : (prStep pools acc x).length ≤ acc.length + 6 := by
        unfold prStep
        rw [List.length_append, List.length_map, List.length_drop]
        omega
      obtain ⟨w5, w6, e⟩ := ih (prStep pools acc x) (some (.fz (.int (x.1 : Nat)))) (some (.fz (.str x.2))) v7 v8 v9 (by omega)
      refine ⟨w5, w6, ?_⟩
      have eb : bindT (.tcons (.name 5) (.tcons (.name 6) .tnil)) (.tup [.int (x.1 : Nat), .str x.2]) (frD k pools high acc [] v5 v6 v7 v8 v9) = some (frD k pools high acc [] (some (.fz (.int (x.1 : Nat)))) (some (.fz (.str x.2))) v7 v8 v9) := by simp [frD]
      rw [List.map_cons, floop, eb, optU_some, fill_step (by omega) (by omega), then_nx, e, List.foldl_cons]
  obtain ⟨w5, w6, ef⟩ := fill ((List.range pools.length).zip pools) [] none none none none none (by simp; omega)
  rw [prs_all] at ef
  have lp : (prs pools).length ≤ 36 := Nat.le_trans len_prs (Nat.mul_le_mul hl hl)
  obtain ⟨r, S1, er, r0, r1, R1⟩ := roll_ok (n := n) (S := S) Hr hd (many := (high : Int) + 1) (by omega) (by omega)
  obtain ⟨some2, found, w8, w9, S2, ed, I2, lf, R2⟩ := draw_loop (n := n) (high := (high : Int)) Hr hr hok (rngI 0 r.toNat) (prs pools) [] S1 w5 w6 none none none ⟨by simpa using nodup_prs hr, fun x hx => by simpa using hx, fun _ h => nomatch h⟩ (by omega) (by simp [rngI]; omega) (R1.dice hd)
  have hfm : ∀ x ∈ found, (x.1, x.2.1) ∈ prs pools := fun x hx => I2.sub (pairOf x) (List.mem_append_left _ (List.mem_map.mpr ⟨x, hx, rfl⟩))
  have hfl : found.length ≤ high := by simp [rngI] at lf; omega
  refine ⟨srtL ridLt found, S2, ?_, ⟨by rw [len_srtL]; exact hfl, fun x hx => ?_, ?_⟩, R1.trans R2⟩
  · show ouR (exec _ (.seq (.par [(3, true), (4, true)] (.cons (.lst .nil) (.cons (.lst .nil) .nil))) (.seq (.forr (.tcons (.name 5) (.tcons (.name 6) .tnil)) (.enum (.var 1)) sFill) (.seq (.forr (.name 8) (.rng (.cons (.dcall 42 (.cons (.var 0) (.cons (.bin .add (.var 2) (.int 1)) .nil))) .nil)) sDraw) (.seq (.ret (.blt .tuple (.cons (.blt .sorted (.cons (.pk 4) .nil)) .nil))) .skip)))) [some (.fz (.obj k)), some (.fz (.tup (pools.map .str))), some (.fz (.int high)), none, none, none, none, none, none, none] S) = _
    have e1 : exec ⟨P.con, call P (n + 2)⟩ (.par [(3, true), (4, true)] (.cons (.lst .nil) (.cons (.lst .nil) .nil))) [some (.fz (.obj k)), some (.fz (.tup (pools.map .str))), some (.fz (.int high)), none, none, none, none, none, none, none] S = .nx (frD k pools high [] [] none none none none none) S := by
      simp [frD, freshAll, Ex.fresh, Ex.isPk, lim, setAll, slOf, ownS]
    have e2 : evi ⟨P.con, call P (n + 2)⟩ (.enum (.var 1)) (frD k pools high [] [] none none none none none) S = .ok (((List.range pools.length).zip pools).map fun x : Nat × Str => D.tup [.int (x.1 : Nat), .str x.2]) S := by
      simp [frD, Ex.isPk, items, enum_map]
    have e3 : evi ⟨P.con, call P (n + 2)⟩ (.rng (.cons (.dcall 42 (.cons (.var 0) (.cons (.bin .add (.var 2) (.int 1)) .nil))) .nil)) (frD k pools high (prs pools) [] w5 w6 none none none) S = .ok (rngI 0 r.toNat) S1 := by
      have a1 : ev ⟨P.con, call P (n + 2)⟩ (.bin .add (.var 2) (.int 1)) (frD k pools high (prs pools) [] w5 w6 none none none) S = .ok (.int ((high : Int) + 1)) S := by simp [frD]
      have a2 : ev ⟨P.con, call P (n + 2)⟩ (.dcall 42 (.cons (.var 0) (.cons (.bin .add (.var 2) (.int 1)) .nil))) (frD k pools high (prs pools) [] w5 w6 none none none) S = .ok (.int r) S1 := by
        rw [ev_dcall, evs_two (x := .obj k) (S1 := S) (by rw [ev_var]; rfl) a1 rfl rfl, bind_ok]
        exact er
      obtain ⟨m, rfl⟩ : ∃ m : Nat, r = m := ⟨r.toNat, by omega⟩
      rw [evi_rng, evs_one a2 rfl, bind_ok, rng_nat (by omega), ofO_some]
      simp [rngI]
    have e4 : ev ⟨P.con, call P (n + 2)⟩ (.blt .tuple (.cons (.blt .sorted (.cons (.pk 4) .nil)) .nil)) (frD k pools high some2 found w5 w6 none w8 w9) S2 = .ok (.tup ((srtL ridLt found).map eR)) S2 := by
      have hs := sorted_rids (S := S2) (rs := found) (fun x hx => ⟨hok _ (mem_prs hr (hfm x hx)).1, hok _ (mem_prs hr (hfm x hx)).2.1⟩) (by omega)
      simp [frD, Ex.isPk, hs, tuple_lst]
    have hrl : (rngI 0 r.toNat).length ≤ lim := by rw [rngI, List.length_map, List.length_range]; exact small (by omega)
    rw [ex_seq, e1, then_nx, ex_seq, ex_forr, e2, ou_ok, if_pos (by simp; exact small (by omega)), ef, then_nx, ex_seq, ex_forr, e3, ou_ok, if_pos hrl, ed, then_nx, ex_seq, ex_ret, if_neg (by simp [Ex.isPk]), e4]
    rfl
  · have hx' := mem_srtL.mp hx
    obtain ⟨a1, a2, a3⟩ := mem_prs hr (hfm x hx')
    exact ⟨a1, a2, a3, I2.hts x hx'⟩
  · exact rid_rises (List.nodup_append.mp I2.nd).1
end
end LP.Q
namespace LP.Q
open PySem
def six : List Str := ["bay", "cove", "deep", "eddy", "ford", "gut"]
theorem six_words : ∀ p ∈ six, wordB p = true := by decide +kernel
theorem six_rises : Rises sLt six := rises_adj sLt_sto (by decide +kernel)
theorem cut_to {α : Type} (xs : List α) (i : Nat) : cut xs none (some (i : Int)) = xs.take i := by
  unfold cut slIx
  have h1 : ¬ ((i : Int) < 0) := by omega
  simp only [h1, if_false, List.drop_zero, Int.toNat_natCast, Nat.sub_zero]
  by_cases q : i ≤ xs.length
  · rw [Nat.min_eq_left q]
  · rw [Nat.min_eq_right (by omega), List.take_of_length_le (show xs.length ≤ i by omega)]
    exact List.take_length
theorem sl_to {i : Nat} {xs : List D} : slD (.tup xs) none (some (i : Int)) = some (.tup (xs.take i)) := by
  show some (D.tup (cut xs none (some (i : Int)))) = _
  rw [cut_to]
theorem sl_toL {i : Nat} {xs : List D} : slD (.lst xs) none (some (i : Int)) = some (.lst (xs.take i)) := by
  show some (D.lst (cut xs none (some (i : Int)))) = _
  rw [cut_to]
theorem sl_fromL {i : Nat} {xs : List D} : slD (.lst xs) (some ((i : Int) + 1)) none = some (.lst (xs.drop (i + 1))) := by
  show some (D.lst (cut xs (some ((i : Int) + 1)) none)) = _
  rw [cut_from]
theorem val_of {m high : Nat} (h1 : 2 ≤ m) (h2 : m ≤ 6) (hh : high ≤ 10) {rs : List Rid} (r : RidsOk (six.take m) high rs) : Val ⟨six.take m, rs⟩ := by
  have hl : (six.take m).length = m := by rw [List.length_take]; show min m 6 = m; omega
  refine ⟨by rw [hl]; exact h1, by rw [hl]; exact h2, fun p hp => six_words p (List.mem_of_mem_take hp), six_rises.sublist (List.take_sublist _ _), by have := r.len; show rs.length ≤ 10; omega, r.rid, r.rr⟩
section
variable {P : Prg} {S : Sto} {n : Nat}
theorem ev_tupOf {Γ : Gam} {ρ : Fr} {S S1 : Sto} {as : Ex} {xs : List D} (h : evs Γ false as ρ S = .ok xs S1) (hl : xs.length ≤ 5000) : ev Γ (.tup as) ρ S = .ok (.tup xs) S1 := by
  rw [ev_tup, h, bind_ok, if_pos (small hl)]
theorem any_shore_ok (H : Has P c__law_any_shore k__law_any_shore) {k : Nat} {size high : Nat} (hs : 2 ≤ size) (hs2 : size ≤ 6) (hh : high ≤ 10) (hd : DiceAt S k) :
    ∃ s S', call P (n + 4) i__law_any_shore [.obj k, .int size, .int high] S = .ok s.d S' ∧ Val s ∧ s.pools.length ≤ size ∧ s.ridges.length ≤ high ∧ (∃ m, s.pools = six.take m) ∧ Rolled k S S' := by
  rw [H.run (d := d__law_any_shore) (by decide) rfl rfl]
  obtain ⟨r, S1, er, r0, r1, R1⟩ := roll_ok (n := n + 1) (S := S) (H.mono (by decide) (by decide)) hd (many := (size : Int) - 1) (by omega) (by omega)
  obtain ⟨m, hm⟩ : ∃ m : Nat, 2 + r = m := ⟨(2 + r).toNat, by omega⟩
  have hpr : Rises sLt (six.take m) := six_rises.sublist (List.take_sublist _ _)
  have hpo : ∀ p ∈ six.take m, sOk p = true := fun p hp => word_ok (six_words p (List.mem_of_mem_take hp))
  have hpl : (six.take m).length ≤ 6 := by rw [List.length_take]; show min m 6 ≤ 6; omega
  obtain ⟨rs, S2, e2, ro, R2⟩ := any_ridges_ok (n := n) (S := S1) (H.mono (by decide) (by decide)) hpr hpo hpl (high := high) (by omega) (R1.dice hd)
  have v := val_of (m := m) (by omega) (by omega) hh ro
  refine ⟨⟨six.take m, rs⟩, S2, ?_, v, ?_, ro.len, ⟨m, rfl⟩, R1.trans R2⟩
  · have a1 : ev ⟨P.con, call P (n + 3)⟩ (.bin .sub (.var 1) (.int 1)) [some (.fz (.obj k)), some (.fz (.int size)), some (.fz (.int high)), none] S = .ok (.int ((size : Int) - 1)) S := by simp
    have a2 : ev ⟨P.con, call P (n + 3)⟩ (.dcall 42 (.cons (.var 0) (.cons (.bin .sub (.var 1) (.int 1)) .nil))) [some (.fz (.obj k)), some (.fz (.int size)), some (.fz (.int high)), none] S = .ok (.int r) S1 := by
      rw [ev_dcall, evs_two (x := .obj k) (S1 := S) (by rw [ev_var]; rfl) a1 rfl rfl, bind_ok]
      exact er
    have a3 : ev ⟨P.con, call P (n + 3)⟩ (.tup (.cons (.str "bay") (.cons (.str "cove") (.cons (.str "deep") (.cons (.str "eddy") (.cons (.str "ford") (.cons (.str "gut") .nil))))))) [some (.fz (.obj k)), some (.fz (.int size)), some (.fz (.int high)), none] S = .ok (.tup (six.map .str)) S := by
      simp [Ex.isPk, lim, six]
    have a4 : ev ⟨P.con, call P (n + 3)⟩ (.sl (.tup (.cons (.str "bay") (.cons (.str "cove") (.cons (.str "deep") (.cons (.str "eddy") (.cons (.str "ford") (.cons (.str "gut") .nil))))))) .nop (.part (.bin .add (.int 2) (.dcall 42 (.cons (.var 0) (.cons (.bin .sub (.var 1) (.int 1)) .nil)))))) [some (.fz (.obj k)), some (.fz (.int size)), some (.fz (.int high)), none] S = .ok (.tup ((six.take m).map .str)) S1 := by
      rw [ev_sl, a3, bind_ok, evo_nop, bind_ok, evo_part, ev_bin, ev_int, bind_ok, a2, bind_ok]
      simp only [add_int, ofO_some, bind_ok, asInt_int, Option.map_some, hm, sl_to, List.map_take]
    have b1 : ev ⟨P.con, call P (n + 3)⟩ (.tup (.cons (.var 3) (.cons (.dcall 44 (.cons (.var 0) (.cons (.var 3) (.cons (.var 2) .nil)))) .nil))) [some (.fz (.obj k)), some (.fz (.int size)), some (.fz (.int high)), some (.fz (.tup ((six.take m).map .str)))] S1 = .ok (Shr.d ⟨six.take m, rs⟩) S2 := by
      have c1 : ev ⟨P.con, call P (n + 3)⟩ (.dcall 44 (.cons (.var 0) (.cons (.var 3) (.cons (.var 2) .nil)))) [some (.fz (.obj k)), some (.fz (.int size)), some (.fz (.int high)), some (.fz (.tup ((six.take m).map .str)))] S1 = .ok (.tup (rs.map eR)) S2 := by
        rw [ev_dcall]
        simp only [evs_cons, evs_nil, Ex.isPk, Bool.false_and, Bool.false_eq_true, if_false, ev_var, frAt_succ, frAt_zero, ofO_some, bind_ok]
        exact e2
      exact ev_tupOf (evs_two (x := .tup ((six.take m).map .str)) (S1 := S1) (by rw [ev_var]; rfl) c1 rfl rfl) (by simp)
    show ouR (exec _ (.seq (.set 3 (.sl (.tup (.cons (.str "bay") (.cons (.str "cove") (.cons (.str "deep") (.cons (.str "eddy") (.cons (.str "ford") (.cons (.str "gut") .nil))))))) .nop (.part (.bin .add (.int 2) (.dcall 42 (.cons (.var 0) (.cons (.bin .sub (.var 1) (.int 1)) .nil))))))) (.seq (.ret (.tup (.cons (.var 3) (.cons (.dcall 44 (.cons (.var 0) (.cons (.var 3) (.cons (.var 2) .nil)))) .nil)))) .skip)) [some (.fz (.obj k)), some (.fz (.int size)), some (.fz (.int high)), none] S) = _
    rw [ex_seq, ex_set, if_neg (by simp [Ex.isPk]), a4, ou_ok]
    simp only [setF_succ, setF_zero, Option.map_some, optU_some, then_nx]
    rw [ex_seq, ex_ret, if_neg (by simp [Ex.isPk]), b1]
    rfl
  · rw [List.length_take]
    show min m 6 ≤ size
    omega
/-- drawn numbers, one for each item -/
theorem rolls_ok (H : Has P c__law_roll k__law_roll) {k : Nat} {α : Type} {bnd : D → Option Fr} {e : α → D} {most : Nat} (hm : most < 1000) {elt : Fr → Sto → Re D} {cnd : Fr → Sto → Re Bool} (hb : ∀ x, ∃ ρ, bnd (e x) = some ρ ∧ (∀ S, cnd ρ S = .ok true S) ∧ ∀ S, elt ρ S = call P (n + 2) i__law_roll [.obj k, .int ((most : Int) + 1)] S) :
    ∀ (xs : List α) (S : Sto), DiceAt S k → ∃ (c : List Int) (S' : Sto), turns bnd cnd elt (xs.map e) S = .ok (c.map .int) S' ∧ c.length = xs.length ∧ (∀ z ∈ c, 0 ≤ z ∧ z ≤ most) ∧ Rolled k S S'
  | [], S, _ => ⟨[], S, rfl, rfl, (fun _ h => nomatch h), .refl _ _⟩
  | x :: xs, S, hd => by
    obtain ⟨ρ, b1, b2, b3⟩ := hb x
    obtain ⟨r, S1, er, r0, r1, R1⟩ := roll_ok (n := n) (S := S) H hd (many := (most : Int) + 1) (by omega) (by omega)
    obtain ⟨c, S2, e2, l2, g2, R2⟩ := rolls_ok H hm hb xs S1 (R1.dice hd)
    refine ⟨r :: c, S2, ?_, by simp [l2], fun z hz => ?_, R1.trans R2⟩
    · rw [List.map_cons, turns_cons b1 (b2 S) ((b3 S).trans er) e2]
      rfl
    · rcases List.mem_cons.mp hz with q | q
      · subst q; omega
      · exact g2 z q
theorem any_counts_ok (H : Has P c__law_any_counts k__law_any_counts) {k : Nat} {s : Shr} (v : Val s) {most : Nat} (hm : most ≤ 9) (hd : DiceAt S k) :
    ∃ c S', call P (n + 3) i__law_any_counts [.obj k, s.d, .int most] S = .ok (cntD c) S' ∧ Cnt s c ∧ (∀ z ∈ c, z ≤ most) ∧ Rolled k S S' := by
  rw [H.run (d := d__law_any_counts) (by decide) rfl rfl]
  have hi := v.hi
  obtain ⟨c, S1, e1, l1, g1, R1⟩ := rolls_ok (n := n) (bnd := fun d => bindT (.name 3) d (wipeF [some (.fz (.obj k)), some (.fz s.d), some (.fz (.int most)), none] ([(("pool" : Str), 3)].map (·.2)))) (e := D.str) (cnd := fun ρ S => evc ⟨P.con, call P (n + 2)⟩ .nop ρ S) (elt := fun ρ S => ev ⟨P.con, call P (n + 2)⟩ (.dcall 42 (.cons (.var 0) (.cons (.bin .add (.var 2) (.int 1)) .nil))) ρ S) (H.mono (by decide) (by decide)) (k := k) (most := most) (by omega)
    (fun p => ⟨[some (.fz (.obj k)), some (.fz s.d), some (.fz (.int most)), some (.fz (.str p))], by simp [wipeF], fun S => by simp, fun S => by simp [Ex.isPk]⟩) s.pools S hd
  have hi' : evi ⟨P.con, call P (n + 2)⟩ (.walk (.ix (.var 1) (.int 0))) [some (.fz (.obj k)), some (.fz s.d), some (.fz (.int most)), none] S = .ok (s.pools.map .str) S := by
    simp [Ex.isPk, Shr.d]
  have ec := ev_compT (own := [("pool", 3)]) hi' rfl (by rw [List.length_map]; omega) e1
  refine ⟨c, S1, ?_, ⟨l1, fun z hz => ⟨(g1 z hz).1, by have := (g1 z hz).2; omega⟩⟩, fun z hz => (g1 z hz).2, R1⟩
  show ouR (exec _ (.seq (.ret (.blt .tuple (.cons (.comp [("pool", 3)] (.dcall 42 (.cons (.var 0) (.cons (.bin .add (.var 2) (.int 1)) .nil))) (.name 3) (.walk (.ix (.var 1) (.int 0))) .nop) .nil))) .skip) [some (.fz (.obj k)), some (.fz s.d), some (.fz (.int most)), none] S) = _
  rw [ex_seq, ex_ret, if_neg (by simp [Ex.isPk]), ev_blt, evs_one ec rfl, bind_ok, tuple_lst]
  rfl
theorem set_cut {α : Type} (xs : List α) (i : Nat) (v : α) (h : i < xs.length) : xs.take i ++ [v] ++ xs.drop (i + 1) = xs.set i v := by
  rw [List.set_eq_take_append_cons_drop, if_pos h]
  simp
theorem ix_ints {c : List Int} {i : Nat} (h : i < c.length) : ixD (.lst (c.map .int)) (.int i) S = some (.int c[i]) := by
  show getD (c.map D.int) _ = _
  unfold getD ixAt
  rw [if_pos (by omega), if_pos (by rw [List.length_map]; omega)]
  simp [h]
/-- xs[:i] + [v] + xs[i + 1:] -/
theorem cut_ev {Γ : Gam} {ρ : Fr} {c : List Int} {i : Nat} {z : Int} {a b : Nat} {e : Ex} (h0 : frAt ρ a = some (.lst (c.map .int))) (h1 : frAt ρ b = some (.int i)) (he : ev Γ e ρ S = .ok (.int z) S) (hp : e.isPk = false) (hi : i < c.length) (hl : c.length ≤ 1000) :
    ev Γ (.bin .add (.bin .add (.sl (.var a) .nop (.part (.var b))) (.lst (.cons e .nil))) (.sl (.var a) (.part (.bin .add (.var b) (.int 1))) .nop)) ρ S = .ok (.lst ((c.set i z).map .int)) S := by
  have e1 : ev Γ (.sl (.var a) .nop (.part (.var b))) ρ S = .ok (.lst ((c.map D.int).take i)) S := by
    simp only [ev_sl, ev_var, h0, ofO_some, bind_ok, evo_nop, evo_part, h1, asInt_int, Option.map_some, sl_toL]
  have e2 : ev Γ (.lst (.cons e .nil)) ρ S = .ok (.lst [.int z]) S := by
    rw [ev_lst, evs_one he hp, bind_ok, if_pos (show [D.int z].length ≤ lim from small (by simp))]
  have e3 : ev Γ (.sl (.var a) (.part (.bin .add (.var b) (.int 1))) .nop) ρ S = .ok (.lst ((c.map D.int).drop (i + 1))) S := by
    simp only [ev_sl, ev_var, h0, ofO_some, bind_ok, evo_nop, evo_part, h1, ev_bin, ev_int, add_int, asInt_int, Option.map_some, sl_fromL]
  rw [ev_bin, ev_bin, e1, bind_ok, e2, bind_ok, add_lst (by simp; exact small (by omega)), ofO_some, bind_ok, e3, bind_ok, add_lst (by simp; exact small (by omega)), ofO_some]
  have : (c.map D.int).take i ++ [D.int z] ++ (c.map D.int).drop (i + 1) = (c.set i z).map D.int := by
    rw [set_cut _ _ _ (by simpa using hi)]
    exact (List.map_set ..).symm
  rw [this]
theorem Cnt.set {s : Shr} {c : List Int} (hc : Cnt s c) {i : Nat} {z : Int} (h0 : 0 ≤ z) (h9 : z ≤ 9) : Cnt s (c.set i z) := by
  refine ⟨by rw [List.length_set]; exact hc.len, fun y hy => ?_⟩
  rcases List.mem_or_eq_of_mem_set hy with q | q
  · exact hc.rng y q
  · rw [q]; exact ⟨h0, h9⟩
abbrev frA (k : Nat) (s : Shr) (before after : List Int) (v4 v5 v6 : Option Sl) : Fr := [some (.fz (.obj k)), some (.fz s.d), some (.fz (cntD before)), some (.fz (.lst (after.map .int))), v4, v5, v6]
abbrev sAfter : Sm := (.seq (.par [(5, false), (6, false)] (.cons (.dcall 42 (.cons (.var 0) (.cons (.blt .len (.cons (.var 3) .nil)) .nil))) (.cons (.dcall 42 (.cons (.var 0) (.cons (.blt .len (.cons (.var 3) .nil)) .nil))) .nil)))
 (.seq (.ite (.andE (.cmp .gt (.ix (.var 3) (.var 5)) (.int 0)) (.cmp .lt (.ix (.var 3) (.var 6)) (.int 9))) (.seq (.set 3 (.bin .add (.bin .add (.sl (.var 3) .nop (.part (.var 5))) (.lst (.cons (.bin .sub (.ix (.var 3) (.var 5)) (.int 1)) .nil))) (.sl (.var 3) (.part (.bin .add (.var 5) (.int 1))) .nop)))
 (.seq (.set 3 (.bin .add (.bin .add (.sl (.var 3) .nop (.part (.var 6))) (.lst (.cons (.bin .add (.ix (.var 3) (.var 6)) (.int 1)) .nil))) (.sl (.var 3) (.part (.bin .add (.var 6) (.int 1))) .nop)))
 .skip)) .skip)
 .skip))
theorem after_turn (H : Has P c__law_roll k__law_roll) {k : Nat} {s : Shr} (v : Val s) {before after : List Int} (hc : Cnt s after) (hd : DiceAt S k) (v4 v5 v6 : Option Sl) :
    ∃ after' w5 w6 S', exec ⟨P.con, call P (n + 2)⟩ sAfter (frA k s before after v4 v5 v6) S = .nx (frA k s before after' v4 w5 w6) S' ∧ Cnt s after' ∧ Rolled k S S' := by
  have hl := hc.len
  have hlo := v.lo
  have hhi := v.hi
  obtain ⟨r, S1, er, r0, r1, R1⟩ := roll_ok (n := n) (S := S) H hd (many := (after.length : Nat)) (by omega) (by omega)
  obtain ⟨q, S2, eq, q0, q1, R2⟩ := roll_ok (n := n) (S := S1) H (R1.dice hd) (many := (after.length : Nat)) (by omega) (by omega)
  obtain ⟨i, rfl⟩ : ∃ i : Nat, r = i := ⟨r.toNat, by omega⟩
  obtain ⟨j, rfl⟩ : ∃ j : Nat, q = j := ⟨q.toNat, by omega⟩
  have hi : i < after.length := by omega
  have hj : j < after.length := by omega
  have hlen : ∀ S, blt .len [.lst (after.map .int)] S = some (.int (after.length : Nat)) := fun S => by
    show some (D.int ((after.map D.int).length : Nat)) = _
    rw [List.length_map]
  have a0 : ∀ S, ev ⟨P.con, call P (n + 2)⟩ (.blt .len (.cons (.var 3) .nil)) (frA k s before after v4 v5 v6) S = .ok (.int (after.length : Nat)) S := fun S => by
    rw [ev_blt, evs_one (x := .lst (after.map .int)) (S1 := S) (by rw [ev_var]; rfl) rfl, bind_ok, hlen, ofO_some]
  have a1 : ev ⟨P.con, call P (n + 2)⟩ (.dcall 42 (.cons (.var 0) (.cons (.blt .len (.cons (.var 3) .nil)) .nil))) (frA k s before after v4 v5 v6) S = .ok (.int i) S1 := by
    rw [ev_dcall, evs_two (x := .obj k) (S1 := S) (by rw [ev_var]; rfl) (a0 S) rfl rfl, bind_ok]
    exact er
  have a2 : ev ⟨P.con, call P (n + 2)⟩ (.dcall 42 (.cons (.var 0) (.cons (.blt .len (.cons (.var 3) .nil)) .nil))) (frA k s before after v4 v5 v6) S1 = .ok (.int j) S2 := by
    rw [ev_dcall, evs_two (x := .obj k) (S1 := S1) (by rw [ev_var]; rfl) (a0 S1) rfl rfl, bind_ok]
    exact eq
  have e1 : exec ⟨P.con, call P (n + 2)⟩ (.par [(5, false), (6, false)] (.cons (.dcall 42 (.cons (.var 0) (.cons (.blt .len (.cons (.var 3) .nil)) .nil))) (.cons (.dcall 42 (.cons (.var 0) (.cons (.blt .len (.cons (.var 3) .nil)) .nil))) .nil))) (frA k s before after v4 v5 v6) S = .nx (frA k s before after v4 (some (.fz (.int i))) (some (.fz (.int j)))) S2 := by
    rw [ex_par, if_pos (by rfl), evs_two a1 a2 rfl rfl, ou_ok]
    simp [setAll, slOf, frA]
  have ri := hc.rng _ (List.getElem_mem hi)
  have rj := hc.rng _ (List.getElem_mem hj)
  have ec : evT ⟨P.con, call P (n + 2)⟩ (.andE (.cmp .gt (.ix (.var 3) (.var 5)) (.int 0)) (.cmp .lt (.ix (.var 3) (.var 6)) (.int 9))) (frA k s before after v4 (some (.fz (.int i))) (some (.fz (.int j)))) S2 = .ok (decide (0 < after[i]) && decide (after[j] < 9)) S2 := by
    have b1 : ev ⟨P.con, call P (n + 2)⟩ (.ix (.var 3) (.var 5)) (frA k s before after v4 (some (.fz (.int i))) (some (.fz (.int j)))) S2 = .ok (.int after[i]) S2 := by
      simp only [ev_ix, ev_var, frA, frAt_succ, frAt_zero, ofO_some, bind_ok, ix_ints hi]
    have b2 : ev ⟨P.con, call P (n + 2)⟩ (.ix (.var 3) (.var 6)) (frA k s before after v4 (some (.fz (.int i))) (some (.fz (.int j)))) S2 = .ok (.int after[j]) S2 := by
      simp only [ev_ix, ev_var, frA, frAt_succ, frAt_zero, ofO_some, bind_ok, ix_ints hj]
    rw [evT_eq, ev_and, ev_cmp, b1, bind_ok, ev_int, bind_ok, gt_int]
    simp only [Option.map_some, ofO_some, bind_ok, andR_bl]
    rw [ev_cmp, b2, bind_ok, ev_int, bind_ok, lt_int]
    by_cases z : 0 < after[i] <;> simp [z]
  cases hz : (decide (0 < after[i]) && decide (after[j] < 9)) with
  | false =>
    refine ⟨after, some (.fz (.int i)), some (.fz (.int j)), S2, ?_, hc, R1.trans R2⟩
    rw [ex_seq, e1, then_nx, ex_seq, ex_ite, ec, ou_ok, hz]
    simp
  | true =>
    simp only [Bool.and_eq_true, decide_eq_true_eq] at hz
    have hc1 : Cnt s (after.set i (after[i] - 1)) := hc.set (by omega) (by omega)
    have hj1 : j < (after.set i (after[i] - 1)).length := by rw [List.length_set]; exact hj
    have rj1 : (after.set i (after[i] - 1))[j] < 9 := by
      rw [List.getElem_set]
      split <;> omega
    have rj2 := hc1.rng _ (List.getElem_mem hj1)
    have hc2 : Cnt s ((after.set i (after[i] - 1)).set j ((after.set i (after[i] - 1))[j] + 1)) := hc1.set (by omega) (by omega)
    refine ⟨_, some (.fz (.int i)), some (.fz (.int j)), S2, ?_, hc2, R1.trans R2⟩
    have s1 : exec ⟨P.con, call P (n + 2)⟩ (.set 3 (.bin .add (.bin .add (.sl (.var 3) .nop (.part (.var 5))) (.lst (.cons (.bin .sub (.ix (.var 3) (.var 5)) (.int 1)) .nil))) (.sl (.var 3) (.part (.bin .add (.var 5) (.int 1))) .nop))) (frA k s before after v4 (some (.fz (.int i))) (some (.fz (.int j)))) S2 = .nx (frA k s before (after.set i (after[i] - 1)) v4 (some (.fz (.int i))) (some (.fz (.int j)))) S2 := by
      rw [ex_set, if_neg (by simp [Ex.isPk]), cut_ev (c := after) (i := i) (z := after[i] - 1) (by rfl) (by rfl) (by simp only [ev_bin, ev_ix, ev_var, ev_int, frA, frAt_succ, frAt_zero, ofO_some, bind_ok, ix_ints hi, sub_int]) rfl hi (by omega), ou_ok]
      simp [frA]
    have s2 : exec ⟨P.con, call P (n + 2)⟩ (.set 3 (.bin .add (.bin .add (.sl (.var 3) .nop (.part (.var 6))) (.lst (.cons (.bin .add (.ix (.var 3) (.var 6)) (.int 1)) .nil))) (.sl (.var 3) (.part (.bin .add (.var 6) (.int 1))) .nop))) (frA k s before (after.set i (after[i] - 1)) v4 (some (.fz (.int i))) (some (.fz (.int j)))) S2 = .nx (frA k s before ((after.set i (after[i] - 1)).set j ((after.set i (after[i] - 1))[j] + 1)) v4 (some (.fz (.int i))) (some (.fz (.int j)))) S2 := by
      rw [ex_set, if_neg (by simp [Ex.isPk]), cut_ev (c := after.set i (after[i] - 1)) (i := j) (z := (after.set i (after[i] - 1))[j] + 1) (by rfl) (by rfl) (by simp only [ev_bin, ev_ix, ev_var, ev_int, frA, frAt_succ, frAt_zero, ofO_some, bind_ok, ix_ints hj1, add_int]) rfl hj1 (by rw [List.length_set]; omega), ou_ok]
      simp [frA]
    rw [ex_seq, e1, then_nx, ex_seq, ex_ite, ec, ou_ok, decide_eq_true hz.1, decide_eq_true hz.2, Bool.and_self, if_pos rfl, ex_seq, s1, then_nx, ex_seq, s2, then_nx, ex_skip, then_nx, ex_skip]
theorem after_loop (H : Has P c__law_roll k__law_roll) {k : Nat} {s : Shr} (v : Val s) {before : List Int} : ∀ (ts : List D) (after : List Int) (S : Sto) (v4 v5 v6 : Option Sl), Cnt s after → DiceAt S k →
    ∃ after' w4 w5 w6 S', floop (bindT (.name 4)) (fun ρ S => exec ⟨P.con, call P (n + 2)⟩ sAfter ρ S) ts (frA k s before after v4 v5 v6) S = .nx (frA k s before after' w4 w5 w6) S' ∧ Cnt s after' ∧ Rolled k S S'
  | [], after, S, v4, v5, v6, hc, _ => ⟨after, v4, v5, v6, S, rfl, hc, .refl _ _⟩
  | t :: ts, after, S, v4, v5, v6, hc, hd => by
    obtain ⟨a1, w5, w6, S1, e1, h1, R1⟩ := after_turn (n := n) (S := S) (before := before) H v hc hd (some (.fz t)) v5 v6
    obtain ⟨a2, x4, x5, x6, S2, e2, h2, R2⟩ := after_loop H v ts a1 S1 (some (.fz t)) w5 w6 h1 (R1.dice hd)
    refine ⟨a2, x4, x5, x6, S2, ?_, h2, R1.trans R2⟩
    have eb : bindT (.name 4) t (frA k s before after v4 v5 v6) = some (frA k s before after (some (.fz t)) v5 v6) := by simp [frA]
    rw [floop, eb, optU_some, e1, then_nx, e2]
theorem any_after_ok (H : Has P c__law_any_after k__law_any_after) {k : Nat} {s : Shr} (v : Val s) {before : List Int} (hc : Cnt s before) (hd : DiceAt S k) :
    ∃ c S', call P (n + 4) i__law_any_after [.obj k, s.d, cntD before] S = .ok (cntD c) S' ∧ Cnt s c ∧ Rolled k S S' := by
  rw [H.run (d := d__law_any_after) (by decide) rfl rfl]
  have Hr : Has P c__law_roll k__law_roll := H.mono (by decide) (by decide)
  obtain ⟨r, S1, er, r0, r1, R1⟩ := roll_ok (n := n + 1) (S := S) Hr hd (many := 4) (by decide) (by decide)
  obtain ⟨m, rfl⟩ : ∃ m : Nat, r = m := ⟨r.toNat, by omega⟩
  obtain ⟨a2, w4, w5, w6, S2, e2, h2, R2⟩ := after_loop (n := n + 1) (before := before) Hr v (rngI 0 m) before S1 none none none hc (R1.dice hd)
  obtain ⟨q, S3, eq, q0, q1, R3⟩ := roll_ok (n := n + 1) (S := S2) Hr ((R1.trans R2).dice hd) (many := 6) (by decide) (by decide)
  have e0 : exec ⟨P.con, call P (n + 3)⟩ (.set 3 (.blt .list (.cons (.var 2) .nil))) [some (.fz (.obj k)), some (.fz s.d), some (.fz (cntD before)), none, none, none, none] S = .nx (frA k s before before none none none) S := by
    simp [Ex.isPk, cntD, list_tup, frA]
  have i1 : evi ⟨P.con, call P (n + 3)⟩ (.rng (.cons (.dcall 42 (.cons (.var 0) (.cons (.int 4) .nil))) .nil)) (frA k s before before none none none) S = .ok (rngI 0 m) S1 := by
    have a2 : ev ⟨P.con, call P (n + 3)⟩ (.dcall 42 (.cons (.var 0) (.cons (.int 4) .nil))) (frA k s before before none none none) S = .ok (.int m) S1 := by
      rw [ev_dcall, evs_two (x := .obj k) (S1 := S) (by rw [ev_var]; rfl) (by rw [ev_int]) rfl rfl, bind_ok]
      exact er
    rw [evi_rng, evs_one a2 rfl, bind_ok, rng_nat (by omega), ofO_some]
    simp [rngI]
  have hrl : (rngI 0 m).length ≤ lim := by rw [rngI, List.length_map, List.length_range]; exact small (by omega)
  have ec : evT ⟨P.con, call P (n + 3)⟩ (.cmp .eq (.dcall 42 (.cons (.var 0) (.cons (.int 6) .nil))) (.int 0)) (frA k s before a2 w4 w5 w6) S2 = .ok (decide (q = 0)) S3 := by
    have a2 : ev ⟨P.con, call P (n + 3)⟩ (.dcall 42 (.cons (.var 0) (.cons (.int 6) .nil))) (frA k s before a2 w4 w5 w6) S2 = .ok (.int q) S3 := by
      rw [ev_dcall, evs_two (x := .obj k) (S1 := S2) (by rw [ev_var]; rfl) (by rw [ev_int]) rfl rfl, bind_ok]
      exact eq
    rw [evT_eq, ev_cmp, a2, bind_ok, ev_int, bind_ok, eq_int]
    rfl
  have body : ouR (exec ⟨P.con, call P (n + 3)⟩ (.seq (.set 3 (.blt .list (.cons (.var 2) .nil))) (.seq (.forr (.name 4) (.rng (.cons (.dcall 42 (.cons (.var 0) (.cons (.int 4) .nil))) .nil)) sAfter) (.seq (.ite (.cmp .eq (.dcall 42 (.cons (.var 0) (.cons (.int 6) .nil))) (.int 0)) (.seq (.ret (.dcall 46 (.cons (.var 0) (.cons (.var 1) (.cons (.int 3) .nil))))) .skip) .skip) (.seq (.ret (.blt .tuple (.cons (.var 3) .nil))) .skip)))) [some (.fz (.obj k)), some (.fz s.d), some (.fz (cntD before)), none, none, none, none] S) = ouR (if decide (q = 0) = true then (ev ⟨P.con, call P (n + 3)⟩ (.dcall 46 (.cons (.var 0) (.cons (.var 1) (.cons (.int 3) .nil)))) (frA k s before a2 w4 w5 w6) S3).ou fun d S => .rt d S else .rt (cntD a2) S3) := by
    rw [ex_seq, e0, then_nx, ex_seq, ex_forr, i1, ou_ok, if_pos hrl, e2, then_nx, ex_seq, ex_ite, ec, ou_ok]
    by_cases z : q = 0
    · rw [if_pos (by simp [z]), if_pos (by simp [z]), ex_seq, ex_ret, if_neg (by simp [Ex.isPk])]
      cases ev ⟨P.con, call P (n + 3)⟩ (.dcall 46 (.cons (.var 0) (.cons (.var 1) (.cons (.int 3) .nil)))) (frA k s before a2 w4 w5 w6) S3 <;> rfl
    · rw [if_neg (by simp [z]), if_neg (by simp [z]), ex_skip, then_nx, ex_seq, ex_ret, if_neg (by simp [Ex.isPk])]
      simp [frA, Ex.isPk, tuple_lst, cntD]
  by_cases z : q = 0
  · obtain ⟨c, S4, e4, h4, _, R4⟩ := any_counts_ok (n := n) (S := S3) (H.mono (by decide) (by decide)) v (most := 3) (by decide) (((R1.trans R2).trans R3).dice hd)
    refine ⟨c, S4, ?_, h4, ((R1.trans R2).trans R3).trans R4⟩
    refine body.trans ?_
    rw [if_pos (by simp [z]), ev_dcall]
    simp only [evs_cons, evs_nil, Ex.isPk, Bool.false_and, Bool.false_eq_true, if_false, ev_var, ev_int, frA, frAt_succ, frAt_zero, ofO_some, bind_ok]
    exact congrArg (fun r : Re D => ouR (r.ou fun d S => .rt d S)) e4
  · refine ⟨a2, S3, ?_, h2, (R1.trans R2).trans R3⟩
    refine body.trans ?_
    rw [if_neg (by simp [z])]
    rfl
end
end LP.Q
namespace LP.Q
open PySem
open Classical
section
variable {s one other : Shr} {h : Int} {a b p q : Str}
theorem sum_ind : ∀ (ps : List Str) (l : List Str), ps.Nodup → ((((ps.zip (ind ps a)).filter fun x => decide (x.1 ∈ l)).map (·.2)).sum : Int) = if a ∈ ps ∧ a ∈ l then 1 else 0
  | [], l, _ => by simp [ind]
  | p :: ps, l, n => by
    obtain ⟨n1, n2⟩ := List.nodup_cons.mp n
    have ih := sum_ind ps l n2
    have e : ind (p :: ps) a = (if p = a then 1 else 0) :: ind ps a := rfl
    rw [e, List.zip_cons_cons, List.filter_cons]
    by_cases hp : p = a
    · subst hp
      by_cases hl : p ∈ l
      · rw [if_pos (by simp [hl]), List.map_cons, List.sum_cons, ih]
        simp [hl, n1]
      · rw [if_neg (by simp [hl]), ih]
        simp [hl]
    · have hp' : ¬ a = p := fun e => hp e.symm
      by_cases hl : p ∈ l
      · rw [if_pos (by simp [hl]), List.map_cons, List.sum_cons, ih]
        simp [hp, hp']
      · rw [if_neg (by simp [hl]), ih]
        simp [hp']
theorem inLot_ind (g : Good s) (ha : a ∈ s.pools) (l : List Str) : inLot s (ind s.pools a) l = if a ∈ l then 1 else 0 := by
  unfold inLot
  rw [sum_ind s.pools l (g.rise.nodup sLt_sto)]
  simp [ha]
theorem followB_iff {c d : List Int} : followB s c d h = true ↔ ∀ p ∈ s.pools, inLot s c (comp s h p) = inLot s d (comp s h p) := by
  unfold followB changed
  rw [List.isEmpty_iff, List.filter_eq_nil_iff]
  constructor
  · intro q p hp
    have := q _ (mem_lots.mpr ⟨p, hp, rfl⟩)
    simpa using this
  · intro q l hl
    obtain ⟨p, hp, rfl⟩ := mem_lots.mp hl
    simpa using q p hp
theorem follow_ind (g : Good s) (ha : a ∈ s.pools) (hb : b ∈ s.pools) : followB s (ind s.pools a) (ind s.pools b) h = decide (Conn s h a b) := by
  refine Bool.eq_iff_iff.mpr ?_
  rw [followB_iff, decide_eq_true_eq]
  constructor
  · intro z
    have := z a ha
    rw [inLot_ind g ha, inLot_ind g hb, if_pos (mem_comp.mpr ⟨ha, .refl⟩)] at this
    have hm : b ∈ comp s h a := Classical.byContradiction fun w => by rw [if_neg w] at this; cases this
    exact (mem_comp.mp hm).2
  · intro c p hp
    rw [inLot_ind g ha, inLot_ind g hb]
    have : a ∈ comp s h p ↔ b ∈ comp s h p := by
      rw [mem_comp, mem_comp]
      exact ⟨fun x => ⟨hb, x.2.trans c⟩, fun x => ⟨ha, x.2.trans c.symm⟩⟩
    simp only [this]
theorem lots_congr (hp : one.pools = other.pools) (hc : ∀ p ∈ one.pools, ∀ q ∈ one.pools, (Conn one h p q ↔ Conn other h p q)) : lots one h = lots other h := by
  have e : ∀ p ∈ one.pools, comp one h p = comp other h p := fun p hpp => by
    unfold comp
    rw [← hp]
    exact List.filter_congr fun q hq => decide_eq_decide.mpr (hc p hpp q hq)
  unfold lots
  rw [← hp, List.map_congr_left e]
theorem follow_congr (hp : one.pools = other.pools) (hc : ∀ p ∈ one.pools, ∀ q ∈ one.pools, (Conn one h p q ↔ Conn other h p q)) (c d : List Int) : followB one c d h = followB other c d h := by
  unfold followB changed inLot
  rw [lots_congr hp hc, hp]
theorem conn_from (h0 : 0 ≤ h) (h9 : h ≤ 9) : Conn s h p q ↔ ∃ k, fromH s p q = some k ∧ k ≤ h := by
  have ten : h ∈ tenI := by
    have : h = 0 ∨ h = 1 ∨ h = 2 ∨ h = 3 ∨ h = 4 ∨ h = 5 ∨ h = 6 ∨ h = 7 ∨ h = 8 ∨ h = 9 := by omega
    unfold tenI
    simpa using this
  unfold fromH
  constructor
  · intro c
    have hm : h ∈ tenI.filter fun h => decide (Conn s h p q) := List.mem_filter.mpr ⟨ten, decide_eq_true c⟩
    cases e : tenI.filter fun h => decide (Conn s h p q) with
    | nil => rw [e] at hm; cases hm
    | cons k ks =>
      refine ⟨k, rfl, ?_⟩
      rw [e] at hm
      have srt : (tenI.filter fun h => decide (Conn s h p q)).Pairwise (· ≤ ·) := List.Pairwise.filter _ (by unfold tenI; decide)
      rw [e] at srt
      rcases List.mem_cons.mp hm with z | z
      · rw [z]; exact Int.le_refl _
      · exact (List.pairwise_cons.mp srt).1 h z
  · rintro ⟨k, e, hk⟩
    have := List.mem_of_mem_head? (Option.mem_def.mpr e)
    exact (of_decide_eq_true (List.mem_filter.mp this).2).mono hk
theorem from_symm : fromH s p q = fromH s q p := by
  unfold fromH
  congr 1
  refine List.filter_congr fun h _ => decide_eq_decide.mpr ⟨fun c => c.symm, fun c => c.symm⟩
theorem from_self : fromH s p p = some 0 := by
  unfold fromH
  rw [List.filter_eq_self.mpr fun h _ => decide_eq_true .refl]
  rfl
theorem from_rng {k : Int} (e : fromH s p q = some k) : 0 ≤ k ∧ k ≤ 9 ∧ Conn s k p q := by
  unfold fromH at e
  have := List.mem_of_mem_head? (Option.mem_def.mpr e)
  obtain ⟨h1, h2⟩ := List.mem_filter.mp this
  have key : ∀ k ∈ tenI, 0 ≤ k ∧ k ≤ 9 := by unfold tenI; decide
  exact ⟨(key k h1).1, (key k h1).2, of_decide_eq_true h2⟩
theorem from_conn (e : fromH one p q = fromH other p q) (h0 : 0 ≤ h) (h9 : h ≤ 9) : Conn one h p q ↔ Conn other h p q := by
  rw [conn_from h0 h9, conn_from h0 h9, e]
theorem part_none (e : part one other = none) : ∀ p ∈ one.pools, ∀ q ∈ one.pools, fromH one p q = fromH other p q := by
  unfold part partIn at e
  rw [List.findSome?_eq_none_iff] at e
  have key : ∀ (i j : Nat) (hi : i < one.pools.length) (hj : j < one.pools.length), i < j → fromH one one.pools[i] one.pools[j] = fromH other one.pools[i] one.pools[j] := fun i j hi hj hij => by
    have hm : (i, one.pools[i]) ∈ (List.range one.pools.length).zip one.pools := by
      refine List.mem_iff_getElem.mpr ⟨i, by simpa using hi, ?_⟩
      simp
    have := e _ hm
    unfold partAt at this
    rw [Option.map_eq_none_iff, List.find?_eq_none] at this
    have hq : one.pools[j] ∈ one.pools.drop (i + 1) := by
      refine List.mem_iff_getElem.mpr ⟨j - (i + 1), by rw [List.length_drop]; omega, ?_⟩
      rw [List.getElem_drop]
      congr 1
      omega
    have := this _ hq
    unfold diff at this
    simpa using this
  intro p hp q hq
  obtain ⟨i, hi, rfl⟩ := List.mem_iff_getElem.mp hp
  obtain ⟨j, hj, rfl⟩ := List.mem_iff_getElem.mp hq
  rcases Nat.lt_trichotomy i j with z | z | z
  · exact key i j hi hj z
  · subst z; rw [from_self, from_self]
  · rw [from_symm, from_symm (s := other)]; exact key j i hj hi z
theorem diff_symm : diff one other p q = diff other one p q := by
  unfold diff
  congr 1
  exact decide_eq_decide.mpr ⟨Eq.symm, Eq.symm⟩
theorem part_symm (hp : one.pools = other.pools) : part other one = part one other := by
  unfold part partIn partAt
  rw [hp]
  congr 1
  funext x
  congr 1
  congr 1
  funext q
  exact diff_symm
theorem part_self : part s s = none := by
  unfold part partIn
  rw [List.findSome?_eq_none_iff]
  intro x hx
  unfold partAt diff
  simp
/-- the counts that part two shores do -/
theorem part_counts (g1 : Good one) (g2 : Good other) (hp : one.pools = other.pools) (ha : a ∈ one.pools) (hb : b ∈ one.pools) (hd : diff one other a b = true) :
    followB one (ind one.pools a) (ind one.pools b) (lowOf (fromH one a b) (fromH other a b)) ≠ followB other (ind one.pools a) (ind one.pools b) (lowOf (fromH one a b) (fromH other a b)) ∧ 0 ≤ lowOf (fromH one a b) (fromH other a b) ∧ lowOf (fromH one a b) (fromH other a b) ≤ 9 := by
  have hne : fromH one a b ≠ fromH other a b := by unfold diff at hd; simpa using hd
  have e1 := fun h => follow_ind (h := h) g1 ha hb
  have e2 := fun h => follow_ind (s := other) (h := h) g2 (hp ▸ ha) (hp ▸ hb)
  rw [← hp] at e2
  rw [e1, e2]
  have key : ∀ {k l : Int}, 0 ≤ k → k ≤ 9 → k < l → ∀ s : Shr, fromH s a b = some l → ¬ Conn s k a b := fun {k l} h0 h9 hl s e c => by
    obtain ⟨m, em, hm⟩ := (conn_from h0 h9).mp c
    rw [e] at em
    cases em
    omega
  have keyn : ∀ {k : Int}, 0 ≤ k → k ≤ 9 → ∀ s : Shr, fromH s a b = none → ¬ Conn s k a b := fun {k} h0 h9 s e c => by
    obtain ⟨m, em, hm⟩ := (conn_from h0 h9).mp c
    rw [e] at em
    cases em
  cases f1 : fromH one a b with
  | none =>
    cases f2 : fromH other a b with
    | none => rw [f1, f2] at hne; exact absurd rfl hne
    | some j =>
      obtain ⟨r1, r2, r3⟩ := from_rng f2
      refine ⟨?_, r1, r2⟩
      show decide (Conn one j a b) ≠ decide (Conn other j a b)
      rw [decide_eq_true r3, decide_eq_false (keyn r1 r2 one f1)]
      decide
  | some i =>
    obtain ⟨q1, q2, q3⟩ := from_rng f1
    cases f2 : fromH other a b with
    | none =>
      refine ⟨?_, q1, q2⟩
      show decide (Conn one i a b) ≠ decide (Conn other i a b)
      rw [decide_eq_true q3, decide_eq_false (keyn q1 q2 other f2)]
      decide
    | some j =>
      obtain ⟨r1, r2, r3⟩ := from_rng f2
      have ij : i ≠ j := fun e => hne (by rw [f1, f2, e])
      have fin : ∀ x : Int, (x = j ∧ j < i ∨ x = i ∧ ¬ j < i) → decide (Conn one x a b) ≠ decide (Conn other x a b) ∧ 0 ≤ x ∧ x ≤ 9 := fun x hx => by
        rcases hx with ⟨rfl, z⟩ | ⟨rfl, z⟩
        · rw [decide_eq_true r3, decide_eq_false (key r1 r2 z one f1)]
          exact ⟨by decide, r1, r2⟩
        · rw [decide_eq_true q3, decide_eq_false (key q1 q2 (by omega) other f2)]
          exact ⟨by decide, q1, q2⟩
      refine fin _ ?_
      by_cases z : j < i
      · exact .inl ⟨if_pos z, z⟩
      · exact .inr ⟨if_neg z, z⟩
theorem ind_cnt : Cnt s (ind s.pools a) := ⟨by unfold ind; simp, fun z hz => by
  unfold ind at hz
  obtain ⟨p, _, rfl⟩ := List.mem_map.mp hz
  split <;> omega⟩
end
end LP.Q
namespace LP.Q
open PySem
/-! ### the law's lots and sums -/
section
variable {Γ : Gam} {ρ : Fr} {S : Sto}
@[simp] theorem ev_sset {a : Ex} : ev Γ (.sset a) ρ S = (ev Γ a ρ S).bind fun x S => LP.ofO (ssD x) S := by rw [ev]
end
theorem dedup_lots : ∀ ls : List (List Str), dedup (ls.map lotD) = (ddL ls).map lotD
  | [] => rfl
  | l :: ls => by
    have e : ((ddL ls).map lotD).filter (fun y => !D.eq (lotD l) y) = ((ddL ls).filter fun y => decide (y ≠ l)).map lotD := by
      rw [List.filter_map]
      refine congrArg _ (List.filter_congr fun k _ => ?_)
      show (!D.eq (lotD l) (lotD k)) = _
      rw [eq_lot]
      by_cases e : k = l
      · simp [e]
      · simp [e, Ne.symm e]
    rw [List.map_cons, dedup, dedup_lots ls, ddL, List.map_cons, e]
theorem ss_lots {ls : List (List Str)} (h : ∀ l ∈ ls, l ≠ [] ∧ ∀ x ∈ l, sOk x = true) (hl : ls.length ≤ 18) : ssD (.lst (ls.map lotD)) = some (.lst ((srtL (lexL sLt) (ddL ls)).map lotD)) := by
  have hi : (ls.map lotD).all D.sItem = true := by
    rw [List.all_eq_true]
    intro d hd
    obtain ⟨l, hm, rfl⟩ := List.mem_map.mp hd
    obtain ⟨h1, h2⟩ := h l hm
    cases l with
    | nil => exact absurd rfl h1
    | cons x xs =>
      simp only [lotD, List.map_cons, D.sItem, Bool.and_eq_true, List.all_eq_true]
      refine ⟨h2 x (.head _), fun d hd => ?_⟩
      obtain ⟨y, hy, rfl⟩ := List.mem_map.mp hd
      exact h2 y (.tail _ hy)
  have e : D.srt ((ddL ls).map lotD) = (srtL (lexL sLt) (ddL ls)).map lotD := srt_map lotD _ fun x _ y _ => lt_lot
  show (if ((ls.map lotD).all D.sItem && decide ((ls.map lotD).length ≤ 18)) = true then some (D.lst (D.srt (dedup (ls.map lotD)))) else none) = _
  rw [if_pos (by rw [hi]; simpa using hl), dedup_lots, e]
section
variable {P : Prg} {s : Shr} {S : Sto} {n : Nat}
theorem law_lots_eq (H : Has P c__law_lots k__law_lots) (g : Good s) (hp : s.pools.length ≤ 18) (h : Int) : call P (n + 2) i__law_lots [s.d, .int h] S = .ok (.lst ((lots s h).map lotD)) S := by
  rw [H.run (d := d__law_lots) (by decide) rfl rfl]
  simp [d__law_lots, startF, Ex.isPk]
  rw [ev_compA D.str (fun p => lotD (comp s h p)) s.pools ?_ rfl (by omega) ?_]
  · have e : (s.pools.map fun p => lotD (comp s h p)) = (s.pools.map (comp s h)).map lotD := by rw [List.map_map]; rfl
    simp only [bind_ok, e]
    rw [ss_lots (fun l hl => ?_) (by simpa using hp)]
    · simp [lots]
    · obtain ⟨p, hpp, rfl⟩ := List.mem_map.mp hl
      exact lots_nice g _ (mem_lots.mpr ⟨p, hpp, rfl⟩)
  · simp [Ex.isPk, Shr.d]
  · intro p hpp
    refine ⟨[some (.fz s.d), some (.fz (.int h)), some (.fz (.str p))], by simp [wipeF], by simp, ?_⟩
    simp [Ex.isPk, law_with_eq (n := n) (S := S) (H.mono (by decide) (by decide)) g h hpp]
theorem law_sum_eq (H : Has P c__law_sum k__law_sum) (g : Good s) (c : List Int) (l : List Str) : call P (n + 1) i__law_sum [s.d, cntD c, lotD l] S = .ok (.int (inLot s c l)) S := by
  rw [H.run (d := d__law_sum) (by decide) rfl rfl]
  have hnp := g.np
  simp [d__law_sum, startF, Ex.isPk]
  rw [ev_compF (fun p : Str × Int => D.tup [.str p.1, .int p.2]) (fun p => decide (p.1 ∈ l)) (fun p => .int p.2) (s.pools.zip c) ?_ rfl (by simp; omega) ?_]
  · simp [sum_map, inLot]
  · simp [Ex.isPk, Shr.d, cntD, zip_map]
  · intro p hp
    refine ⟨[some (.fz s.d), some (.fz (cntD c)), some (.fz (lotD l)), some (.fz (.str p.1)), some (.fz (.int p.2))], by simp [wipeF], by simp [lotD, inn_tup], fun _ => by simp⟩
theorem follow_all {a b : List Int} {h : Int} : followB s a b h = (lots s h).all fun l => decide (inLot s a l = inLot s b l) := by
  unfold followB changed
  rw [Bool.eq_iff_iff, List.isEmpty_iff, List.filter_eq_nil_iff, List.all_eq_true]
  simp
abbrev sFoll : Sm := (.seq (.ite (.cmp .ne (.dcall 59 (.cons (.var 0) (.cons (.var 1) (.cons (.var 4) .nil)))) (.dcall 59 (.cons (.var 0) (.cons (.var 2) (.cons (.var 4) .nil))))) (.seq (.ret (.bl false)) .skip) .skip) .skip)
theorem foll_step (H : Has P c__law_follows k__law_follows) (g : Good s) (a b : List Int) (h : Int) (l : List Str) : exec ⟨P.con, call P (n + 2)⟩ sFoll [some (.fz s.d), some (.fz (cntD a)), some (.fz (cntD b)), some (.fz (.int h)), some (.fz (lotD l))] S
    = if inLot s a l = inLot s b l then .nx [some (.fz s.d), some (.fz (cntD a)), some (.fz (cntD b)), some (.fz (.int h)), some (.fz (lotD l))] S else .rt (.bl false) S := by
  have su := fun c l => law_sum_eq (n := n + 1) (S := S) (H.mono (by decide) (by decide)) g c l
  have e1 := su a l
  have e2 := su b l
  simp only [i__law_sum] at e1 e2
  simp [Ex.isPk, e1, e2]
theorem foll_loop (H : Has P c__law_follows k__law_follows) (g : Good s) (a b : List Int) (h : Int) : ∀ (ls : List (List Str)) (v : Option Sl), ∃ v', floop (bindT (.name 4)) (fun ρ S => exec ⟨P.con, call P (n + 2)⟩ sFoll ρ S) (ls.map lotD) [some (.fz s.d), some (.fz (cntD a)), some (.fz (cntD b)), some (.fz (.int h)), v] S
    = if (ls.all fun l => decide (inLot s a l = inLot s b l)) = true then .nx [some (.fz s.d), some (.fz (cntD a)), some (.fz (cntD b)), some (.fz (.int h)), v'] S else .rt (.bl false) S
  | [], v => ⟨v, by simp [floop]⟩
  | l :: ls, v => by
    obtain ⟨v', e⟩ := foll_loop H g a b h ls (some (.fz (lotD l)))
    refine ⟨v', ?_⟩
    rw [List.map_cons, floop]
    simp only [bind_name, setF_succ, setF_zero, Option.map_some, optU_some]
    rw [foll_step H g]
    by_cases q : inLot s a l = inLot s b l
    · rw [if_pos q, then_nx, e]
      simp [q]
    · rw [if_neg q]
      simp [q]
theorem law_follows_eq (H : Has P c__law_follows k__law_follows) (g : Good s) (hp : s.pools.length ≤ 18) (a b : List Int) (h : Int) : call P (n + 3) i__law_follows [s.d, cntD a, cntD b, .int h] S = .ok (.bl (followB s a b h)) S := by
  rw [H.run (d := d__law_follows) (by decide) rfl rfl]
  have hl := lots_len g h
  have e := law_lots_eq (n := n) (S := S) (H.mono (by decide) (by decide)) g hp h
  obtain ⟨v', k⟩ := foll_loop (n := n) (S := S) H g a b h (lots s h) none
  rw [follow_all]
  show ouR (exec _ (.seq (.forr (.name 4) (.walk (.dcall 48 (.cons (.var 0) (.cons (.var 3) .nil)))) sFoll) (.seq (.ret (.bl true)) .skip)) [some (.fz s.d), some (.fz (cntD a)), some (.fz (cntD b)), some (.fz (.int h)), none] S) = _
  rw [ex_seq, ex_forr]
  simp only [i__law_lots] at e
  simp only [evi_walk, Ex.isPk, ev_dcall, evs_cons, evs_nil, ev_var, frAt_zero, frAt_succ, ofO_some, bind_ok, Bool.false_and, Bool.false_eq_true, if_false, e, walk_lst, ou_ok]
  rw [if_pos (small (by simp; omega)), k]
  split <;> simp_all [Ex.isPk]
noncomputable def leastN (s : Shr) (a b : List Int) : Option Int := (tenI.filter fun h => followB s a b h).head?
theorem head_of {xs : List Int} {S : Sto} {Γ : Gam} {ρ : Fr} {i : Nat} (h : frAt ρ i = some (.lst (xs.map .int))) : ev Γ (.ife (.cmp .ne (.var i) (.lst .nil)) (.ix (.var i) (.int 0)) .non) ρ S = .ok (optD xs.head?) S := by
  simp [h, Ex.isPk, ne_ints]
  cases xs <;> simp [optD]
theorem law_least_eq (H : Has P c__law_least k__law_least) (g : Good s) (hp : s.pools.length ≤ 18) (a b : List Int) : call P (n + 4) i__law_least [s.d, cntD a, cntD b] S = .ok (optD (leastN s a b)) S := by
  rw [H.run (d := d__law_least) (by decide) rfl rfl]
  simp [d__law_least, startF, Ex.isPk]
  rw [ev_compF D.int (fun h => followB s a b h) D.int tenI ?_ rfl (by decide) ?_]
  · unfold leastN
    generalize tenI.filter (fun h => followB s a b h) = xs
    simp [ne_ints]
    cases xs <;> simp [optD]
  · simp [Ex.isPk, rng10]
  · intro h hh'
    refine ⟨[some (.fz s.d), some (.fz (cntD a)), some (.fz (cntD b)), none, some (.fz (.int h))], by simp [wipeF], ?_, fun _ => by simp⟩
    simp [Ex.isPk, law_follows_eq (n := n) (S := S) (H.mono (by decide) (by decide)) g hp]
end
end LP.Q
namespace LP.Q
open PySem
/-! ### the least of the ten heights -/
def firstH (p : Int → Bool) : Option Int := (tenI.filter p).head?
def thr (o : Option Int) : Int := o.getD 10
theorem mem_ten {h : Int} : h ∈ tenI ↔ 0 ≤ h ∧ h ≤ 9 := by
  unfold tenI
  simp only [List.mem_cons, List.not_mem_nil, or_false]
  omega
theorem first_rng {p : Int → Bool} {k : Int} (e : firstH p = some k) : 0 ≤ k ∧ k ≤ 9 ∧ p k = true := by
  have := List.mem_filter.mp (List.mem_of_mem_head? (Option.mem_def.mpr e))
  exact ⟨(mem_ten.mp this.1).1, (mem_ten.mp this.1).2, this.2⟩
theorem thr_rng (p : Int → Bool) : 0 ≤ thr (firstH p) ∧ thr (firstH p) ≤ 10 := by
  cases e : firstH p with
  | none => simp [thr]
  | some k =>
    have := first_rng e
    simp only [thr, Option.getD_some]
    omega
theorem first_le {p : Int → Bool} {h : Int} (h0 : 0 ≤ h) (h9 : h ≤ 9) (hp : p h = true) : thr (firstH p) ≤ h := by
  have hm : h ∈ tenI.filter p := List.mem_filter.mpr ⟨mem_ten.mpr ⟨h0, h9⟩, hp⟩
  unfold firstH
  cases e : tenI.filter p with
  | nil => rw [e] at hm; cases hm
  | cons k ks =>
    have srt : (tenI.filter p).Pairwise (· ≤ ·) := List.Pairwise.filter _ (by unfold tenI; decide)
    rw [e] at hm srt
    simp only [List.head?_cons, thr, Option.getD_some]
    obtain z | z := List.mem_cons.mp hm
    · omega
    · exact (List.pairwise_cons.mp srt).1 h z
theorem first_mono {p : Int → Bool} (mono : ∀ h h', 0 ≤ h → h ≤ h' → h' ≤ 9 → p h = true → p h' = true) {h : Int} (h0 : 0 ≤ h) (h9 : h ≤ 9) : p h = true ↔ thr (firstH p) ≤ h := by
  refine ⟨first_le h0 h9, fun le => ?_⟩
  cases e : firstH p with
  | none => rw [e] at le; simp [thr] at le; omega
  | some k =>
    rw [e] at le
    have := first_rng e
    exact mono k h this.1 le h9 this.2.2
theorem first_thr {p : Int → Bool} {m : Int} (h0 : 0 ≤ m) (h : ∀ h, 0 ≤ h → h ≤ 9 → (p h = true ↔ m ≤ h)) : firstH p = if m ≤ 9 then some m else none := by
  have e : tenI.filter p = tenI.filter fun h => decide (m ≤ h) := List.filter_congr fun x hx => by
    have := mem_ten.mp hx
    rw [Bool.eq_iff_iff, h x this.1 this.2, decide_eq_true_iff]
  unfold firstH
  rw [e]
  by_cases h9 : m ≤ 9
  · rw [if_pos h9]
    have : m = 0 ∨ m = 1 ∨ m = 2 ∨ m = 3 ∨ m = 4 ∨ m = 5 ∨ m = 6 ∨ m = 7 ∨ m = 8 ∨ m = 9 := by omega
    obtain rfl | rfl | rfl | rfl | rfl | rfl | rfl | rfl | rfl | rfl := this <;> rfl
  · rw [if_neg h9]
    have : (tenI.filter fun h => decide (m ≤ h)) = [] := List.filter_eq_nil_iff.mpr fun x hx => by
      have := mem_ten.mp hx
      simp
      omega
    rw [this]
    rfl
/-! ### water that stands higher lets more follow -/
section
variable {s : Shr} {a b c : List Int} {h h' : Int}
theorem sum_split (k l : List Str) (sub : ∀ x ∈ k, x ∈ l) : ∀ xs : List (Str × Int), (((xs.filter fun q => decide (q.1 ∈ l)).map (·.2)).sum : Int) = ((xs.filter fun q => decide (q.1 ∈ k)).map (·.2)).sum + ((xs.filter fun q => decide (q.1 ∈ l.filter fun x => decide (x ∉ k))).map (·.2)).sum
  | [] => rfl
  | x :: xs => by
    have ih := sum_split k l sub xs
    by_cases h1 : x.1 ∈ k
    · have h2 := sub _ h1
      simp only [List.filter_cons, decide_eq_true h1, decide_eq_true h2, if_true, List.map_cons, List.sum_cons, ih]
      simp only [List.mem_filter, h1, not_true_eq_false, decide_false, Bool.false_eq_true, and_false, if_false]
      omega
    · by_cases h2 : x.1 ∈ l
      · simp only [List.filter_cons, decide_eq_true h2, decide_eq_false h1, Bool.false_eq_true, if_true, if_false, List.map_cons, List.sum_cons, ih]
        simp only [List.mem_filter, h1, h2, not_false_eq_true, decide_true, and_self, if_true, List.map_cons, List.sum_cons]
        omega
      · simp only [List.filter_cons, decide_eq_false h2, decide_eq_false h1, Bool.false_eq_true, if_false, ih]
        simp only [List.mem_filter, h1, h2, false_and, decide_false, Bool.false_eq_true, if_false]
theorem inLot_split (k l : List Str) (sub : ∀ x ∈ k, x ∈ l) : inLot s c l = inLot s c k + inLot s c (l.filter fun x => decide (x ∉ k)) := sum_split k l sub _
theorem inLot_nil : inLot s c [] = 0 := by
  unfold inLot
  rw [List.filter_eq_nil_iff.mpr fun x _ => by simp]
  rfl
/-- sums agree on all that is whole lots -/
theorem closed_sum (f : followB s a b h = true) : ∀ (n : Nat) (l : List Str), l.length ≤ n → (∀ x ∈ l, x ∈ s.pools) → (∀ x ∈ l, ∀ y ∈ s.pools, Conn s h x y → y ∈ l) → inLot s a l = inLot s b l
  | 0, l, hn, _, _ => by
    have : l = [] := List.eq_nil_of_length_eq_zero (by omega)
    subst this
    rw [inLot_nil, inLot_nil]
  | n + 1, [], _, _, _ => by rw [inLot_nil, inLot_nil]
  | n + 1, p :: l, hn, hin, cl => by
    have hp := hin p (.head _)
    have sub : ∀ x ∈ comp s h p, x ∈ p :: l := fun x hx => cl p (.head _) x (mem_comp.mp hx).1 (mem_comp.mp hx).2
    have pin : p ∈ comp s h p := mem_comp.mpr ⟨hp, .refl⟩
    rw [inLot_split (comp s h p) (p :: l) sub, inLot_split (c := b) (comp s h p) (p :: l) sub, followB_iff.mp f p hp]
    congr 1
    refine closed_sum f n _ ?_ (fun x hx => hin x (List.mem_filter.mp hx).1) fun x hx y hy c => ?_
    · have : ((p :: l).filter fun x => decide (x ∉ comp s h p)).length < (p :: l).length := by
        rw [List.filter_cons_of_neg (by simpa using pin)]
        exact Nat.lt_succ_of_le (List.length_filter_le _ _)
      omega
    · obtain ⟨h1, h2⟩ := List.mem_filter.mp hx
      refine List.mem_filter.mpr ⟨cl x h1 y hy c, decide_eq_true fun hc => ?_⟩
      exact of_decide_eq_true h2 (mem_comp.mpr ⟨hin x h1, (mem_comp.mp hc).2.trans c.symm⟩)
theorem follow_mono (hh : h ≤ h') (f : followB s a b h = true) : followB s a b h' = true := by
  refine followB_iff.mpr fun p hp => closed_sum f _ _ (Nat.le_refl _) (fun x hx => (mem_comp.mp hx).1) fun x hx y hy c => ?_
  exact mem_comp.mpr ⟨hy, (mem_comp.mp hx).2.trans (c.mono hh)⟩
theorem least_thr (h0 : 0 ≤ h) (h9 : h ≤ 9) : followB s a b h = true ↔ thr (leastN s a b) ≤ h :=
  first_mono (p := fun h => followB s a b h) (fun _ _ _ le _ f => follow_mono le f) h0 h9
theorem least_rng : 0 ≤ thr (leastN s a b) ∧ thr (leastN s a b) ≤ 10 := thr_rng fun h => followB s a b h
end
/-! ### kinds -/
abbrev Kd : Type := Int × List Int × List Int
noncomputable def forK (s : Shr) (k : Kd) : Int := if thr (leastN s k.2.1 k.2.2) = 10 ∨ (0 < thr (leastN s k.2.1 k.2.2) ∧ 9 < thr (leastN s k.2.1 k.2.2) + k.1) then 10 else if 0 < thr (leastN s k.2.1 k.2.2) then thr (leastN s k.2.1 k.2.2) + k.1 else 0
noncomputable def allF (s : Shr) (ks : List Kd) (h : Int) : Bool := ks.all fun k => followB s k.2.1 k.2.2 (if h - k.1 > 0 then h - k.1 else 0)
def mx : List Int → Int
  | [] => 0
  | x :: xs => if x ≤ mx xs then mx xs else x
theorem mx_le : ∀ {xs : List Int} {m : Int}, 0 ≤ m → (mx xs ≤ m ↔ ∀ x ∈ xs, x ≤ m)
  | [], m, h0 => by simp [mx, h0]
  | x :: xs, m, h0 => by
    have ih := mx_le (xs := xs) h0
    simp only [mx, List.mem_cons, forall_eq_or_imp]
    rw [← ih]
    split <;> omega
theorem mx_nonneg : ∀ (xs : List Int), 0 ≤ mx xs
  | [] => by simp [mx]
  | x :: xs => by
    have := mx_nonneg xs
    simp only [mx]
    split <;> omega
theorem forK_rng {s : Shr} {k : Kd} (h0 : 0 ≤ k.1) : 0 ≤ forK s k ∧ forK s k ≤ 10 := by
  have := least_rng (s := s) (a := k.2.1) (b := k.2.2)
  unfold forK
  split
  · omega
  · split <;> omega
theorem forK_le {s : Shr} {k : Kd} {h : Int} (hk : 0 ≤ k.1) (h0 : 0 ≤ h) (h9 : h ≤ 9) : followB s k.2.1 k.2.2 (if h - k.1 > 0 then h - k.1 else 0) = true ↔ forK s k ≤ h := by
  have := least_rng (s := s) (a := k.2.1) (b := k.2.2)
  rw [least_thr (by split <;> omega) (by split <;> omega)]
  unfold forK
  repeat' split
  all_goals omega
theorem allF_le {s : Shr} {ks : List Kd} {h : Int} (hk : ∀ k ∈ ks, 0 ≤ k.1) (h0 : 0 ≤ h) (h9 : h ≤ 9) : allF s ks h = true ↔ mx (ks.map (forK s)) ≤ h := by
  unfold allF
  rw [List.all_eq_true, mx_le h0]
  constructor
  · intro q x hx
    obtain ⟨k, hm, rfl⟩ := List.mem_map.mp hx
    exact (forK_le (hk k hm) h0 h9).mp (q k hm)
  · intro q k hm
    exact (forK_le (hk k hm) h0 h9).mpr (q _ (List.mem_map.mpr ⟨k, hm, rfl⟩))
noncomputable def leastFor (s : Shr) (ks : List Kd) : Option Int := firstH (allF s ks)
theorem leastFor_eq {s : Shr} {ks : List Kd} (hk : ∀ k ∈ ks, 0 ≤ k.1) : leastFor s ks = if mx (ks.map (forK s)) ≤ 9 then some (mx (ks.map (forK s))) else none :=
  first_thr (mx_nonneg _) fun h h0 h9 => allF_le hk h0 h9
theorem mx_ten {s : Shr} {ks : List Kd} (hk : ∀ k ∈ ks, 0 ≤ k.1) : mx (ks.map (forK s)) ≤ 10 := (mx_le (by decide)).mpr fun x hx => by
  obtain ⟨k, hm, rfl⟩ := List.mem_map.mp hx
  exact (forK_rng (hk k hm)).2
def lessB (a b : Option Int) : Bool := a.isSome && (b.isNone || decide (a.getD 0 < b.getD 0))
theorem less_eq {s : Shr} {ks js : List Kd} (hk : ∀ k ∈ ks, 0 ≤ k.1) (hj : ∀ k ∈ js, 0 ≤ k.1) : lessB (leastFor s ks) (leastFor s js) = decide (mx (ks.map (forK s)) < mx (js.map (forK s))) := by
  have h1 := mx_ten (s := s) hk
  have h2 := mx_ten (s := s) hj
  rw [leastFor_eq hk, leastFor_eq hj]
  unfold lessB
  split <;> split <;> simp <;> omega
theorem maxI_mx : ∀ (xs : List Int) (m : Int), 0 ≤ m → (∀ x ∈ xs, 0 ≤ x) → maxI m xs = mx (m :: xs)
  | [], m, h, _ => by
    show m = if m ≤ 0 then 0 else m
    by_cases q : m ≤ 0
    · rw [if_pos q]; omega
    · rw [if_neg q]
  | x :: xs, m, h, hx => by
    rw [maxI, maxI_mx xs _ (by have := hx x (.head _); split <;> omega) fun y hy => hx y (.tail _ hy)]
    simp only [mx]
    repeat' split
    all_goals omega
end LP.Q
namespace LP.Q
open PySem
/-! ### kinds -/
def kdD (k : Kd) : D := .tup [.int k.1, cntD k.2.1, cntD k.2.2]
abbrev kdsD (ks : List Kd) : D := .tup (ks.map kdD)
structure KdOk (s : Shr) (k : Kd) : Prop where
  lo : 0 ≤ k.1
  hi : k.1 ≤ 4
  bef : Cnt s k.2.1
  aft : Cnt s k.2.2
section
variable {P : Prg} {s : Shr} {S : Sto} {n : Nat}
theorem max_two {i j : Int} : blt .max [.int i, .int j] S = some (.int (if j > i then j else i)) := rfl
theorem law_for_eq (H : Has P c__law_for k__law_for) (g : Good s) (hp : s.pools.length ≤ 18) (k : Kd) : call P (n + 5) i__law_for [s.d, kdD k] S = .ok (.int (forK s k)) S := by
  rw [H.run (d := d__law_for) (by decide) rfl rfl]
  have e := law_least_eq (n := n) (S := S) (H.mono (by decide) (by decide)) g hp k.2.1 k.2.2
  have r := thr_rng fun h => followB s k.2.1 k.2.2 h
  simp only [i__law_least] at e
  simp [d__law_for, startF, Ex.isPk, kdD, e]
  unfold forK
  cases q : leastN s k.2.1 k.2.2 with
  | none => simp [optD, thr]
  | some m =>
    have := first_rng (p := fun h => followB s k.2.1 k.2.2 h) q
    simp [optD, thr]
    by_cases h1 : 0 < m
    · by_cases h2 : 9 < m + k.1
      · simp [h1, h2]
      · simp [h1, h2]; omega
    · simp [h1]; omega
theorem is_kind_ok (H : Has P c_is_kind k_is_kind) (v : Val s) {k : Kd} (hk : KdOk s k) : call P (n + 3) i_is_kind [s.d, kdD k] S = .ok (.bl true) S := by
  rw [H.run (d := d_is_kind) (by decide) rfl rfl]
  have hd := H.con (x := "DEEPEST") (by decide) rfl
  have e0 := is_whole_int (n := n + 1) (S := S) (H.mono (by decide) (by decide)) k.1 0 4
  have e1 := good_counts_ok (n := n) (S := S) (H.mono (by decide) (by decide)) v hk.bef
  have e2 := good_counts_ok (n := n) (S := S) (H.mono (by decide) (by decide)) v hk.aft
  simp only [i_is_whole, i_are_good_counts] at e0 e1 e2
  simp [d_is_kind, startF, Ex.isPk, kdD, len_tup, hd, e0, e1, e2, hk.lo, hk.hi]
theorem need_kinds_ok (H : Has P c_need_kinds k_need_kinds) (v : Val s) {ks : List Kd} (h1 : 1 ≤ ks.length) (h3 : ks.length ≤ 3) (hk : ∀ k ∈ ks, KdOk s k) : call P (n + 5) i_need_kinds [s.d, kdsD ks] S = .ok .non S := by
  rw [H.run (d := d_need_kinds) (by decide) rfl rfl]
  have e0 := need_shore_val (n := n) (S := S) (H.mono (by decide) (by decide)) v
  simp only [i_need_shore] at e0
  have ec : ∀ w : Option Sl, ev ⟨P.con, call P (n + 4)⟩ (.comp [("one", 2)] (.dcall 64 (.cons (.var 0) (.cons (.var 2) .nil))) (.name 2) (.walk (.var 1)) .nop) [some (.fz s.d), some (.fz (kdsD ks)), w] S = .ok (.lst (ks.map fun _ => .bl true)) S := fun w => by
    rw [ev_compA kdD (fun _ => .bl true) ks ?_ rfl (by omega) ?_]
    · simp [Ex.isPk, kdsD]
    · intro k hm
      refine ⟨[some (.fz s.d), some (.fz (kdsD ks)), some (.fz (kdD k))], by simp [wipeF], by simp, ?_⟩
      have := is_kind_ok (n := n + 1) (S := S) (H.mono (by decide) (by decide)) v (hk k hm)
      simp only [i_is_kind] at this
      simp [Ex.isPk, this]
  have ea := all_true (S := S) (fun _ : Kd => true) ks (fun _ _ => rfl)
  have l1 : (1 : Int) ≤ ks.length := by omega
  have l3 : (ks.length : Int) ≤ 3 := by omega
  simp [d_need_kinds, startF, Ex.isPk, e0, len_tup, l1, l3]
  rw [ec]
  simp [ea]
theorem all_follow_eq (H : Has P c_all_follow k_all_follow) (g : Good s) {ks : List Kd} (hl : ks.length ≤ 5000) (h : Int) : call P (n + 5) i_all_follow [s.d, kdsD ks, .int h] S = .ok (.bl (allF s ks h)) S := by
  rw [H.run (d := d_all_follow) (by decide) rfl rfl]
  simp [d_all_follow, startF, Ex.isPk]
  rw [ev_compA kdD (fun k => .bl (followB s k.2.1 k.2.2 (if h - k.1 > 0 then h - k.1 else 0))) ks ?_ rfl hl ?_]
  · simp [all_map, allF]
  · simp [Ex.isPk, kdsD]
  · intro k hm
    refine ⟨[some (.fz s.d), some (.fz (kdsD ks)), some (.fz (.int h)), some (.fz (.int k.1)), some (.fz (cntD k.2.1)), some (.fz (cntD k.2.2))], by simp [wipeF, kdD], by simp, ?_⟩
    have := does_follow_eq (n := n) (S := S) (H.mono (by decide) (by decide)) g k.2.1 k.2.2 (if h - k.1 > 0 then h - k.1 else 0)
    simp only [i_does_follow] at this
    simp [Ex.isPk, max_two]
    simpa using this
theorem least_for_eq (H : Has P c_least_for k_least_for) (g : Good s) {ks : List Kd} (hl : ks.length ≤ 5000) : call P (n + 6) i_least_for [s.d, kdsD ks] S = .ok (optD (leastFor s ks)) S := by
  rw [H.run (d := d_least_for) (by decide) rfl rfl]
  have hh := H.con (x := "HIGHEST") (by decide) rfl
  simp [d_least_for, startF, Ex.isPk]
  rw [ev_compF D.int (fun h => allF s ks h) D.int tenI ?_ rfl (by decide) ?_]
  · unfold leastFor firstH
    generalize tenI.filter (fun h => allF s ks h) = xs
    simp [ne_ints]
    cases xs <;> simp [optD]
  · simp [Ex.isPk, hh, rng10]
  · intro h hh'
    refine ⟨[some (.fz s.d), some (.fz (kdsD ks)), none, some (.fz (.int h))], by simp [wipeF], ?_, fun _ => by simp⟩
    simp [Ex.isPk, all_follow_eq (n := n) (S := S) (H.mono (by decide) (by decide)) g hl]
theorem least_for_kinds_eq (H : Has P c_least_for_kinds k_least_for_kinds) (v : Val s) {ks : List Kd} (h1 : 1 ≤ ks.length) (h3 : ks.length ≤ 3) (hk : ∀ k ∈ ks, KdOk s k) : call P (n + 7) i_least_for_kinds [s.d, kdsD ks] S = .ok (optD (leastFor s ks)) S := by
  rw [H.run (d := d_least_for_kinds) (by decide) rfl rfl]
  have e1 := need_kinds_ok (n := n + 1) (S := S) (H.mono (by decide) (by decide)) v h1 h3 hk
  have e2 := least_for_eq (n := n) (S := S) (H.mono (by decide) (by decide)) v.good (ks := ks) (by omega)
  simp only [i_need_kinds, i_least_for] at e1 e2
  simp [d_least_for_kinds, startF, Ex.isPk, e1, e2]
theorem is_less_eq (H : Has P c_is_less k_is_less) (a b : Option Int) : call P (n + 1) i_is_less [optD a, optD b] S = .ok (.bl (lessB a b)) S := by
  rw [H.run (d := d_is_less) (by decide) rfl rfl]
  cases a <;> cases b <;> simp [d_is_less, startF, Ex.isPk, optD, lessB]
def del (ks : List Kd) (i : Nat) : List Kd := ks.take i ++ ks.drop (i + 1)
noncomputable def bindK (s : Shr) (ks : List Kd) : List Nat := (List.range ks.length).filter fun i => lessB (leastFor s (del ks i)) (leastFor s ks)
theorem zip_range {β : Type} (f : Nat → β) (m : Nat) : (List.range m).zip ((List.range m).map f) = (List.range m).map fun i => (i, f i) := by
  have key : ∀ l : List Nat, l.zip (l.map f) = l.map fun i => (i, f i) := fun l => by
    induction l with
    | nil => rfl
    | cons i l ih => simp [ih]
  exact key _
theorem bind_rows {ks : List Kd} (h3 : ks.length ≤ 3) {Γ : Gam} (x y : Sl) (w4 w5 : Option Sl) : ev Γ (.comp [("at", 4)] (.bin .add (.sl (.var 1) .nop (.part (.var 4))) (.sl (.var 1) (.part (.bin .add (.var 4) (.int 1))) .nop)) (.name 4) (.rng (.cons (.blt .len (.cons (.var 1) .nil)) .nil)) .nop) [some x, some (.fz (kdsD ks)), some y, none, w4, w5] S
      = .ok (.lst ((List.range ks.length).map fun i => kdsD (del ks i))) S := by
  have el : ev Γ (.blt .len (.cons (.var 1) .nil)) [some x, some (.fz (kdsD ks)), some y, none, w4, w5] S = .ok (.int ((ks.length : Nat) : Int)) S := by
    simp [len_tup, Ex.isPk]
  rw [ev_compA (fun i : Nat => .int (i : Nat)) (fun i => kdsD (del ks i)) (List.range ks.length) ?_ rfl (by rw [List.length_range]; omega) ?_]
  · rw [evi_rng, evs_one el rfl, bind_ok, rng_nat (m := ks.length) (by omega), ofO_some]
  · intro i hi
    refine ⟨[some x, some (.fz (kdsD ks)), some y, none, some (.fz (.int i)), w5], by simp [wipeF], by simp, ?_⟩
    have e1 : ev Γ (.sl (.var 1) .nop (.part (.var 4))) [some x, some (.fz (kdsD ks)), some y, none, some (.fz (.int i)), w5] S = .ok (.tup ((ks.map kdD).take i)) S := by
      simp [sl_to]
    have e2 : ev Γ (.sl (.var 1) (.part (.bin .add (.var 4) (.int 1))) .nop) [some x, some (.fz (kdsD ks)), some y, none, some (.fz (.int i)), w5] S = .ok (.tup ((ks.map kdD).drop (i + 1))) S := by
      simp [sl_from]
    rw [ev_bin, e1, bind_ok, e2, bind_ok, add_tup (small (by simp; omega)), ofO_some]
    simp [del]
theorem bind_last (H : Has P c_binding_kinds k_binding_kinds) (v : Val s) {ks : List Kd} (h3 : ks.length ≤ 3) (w4 w5 : Option Sl) : ev ⟨P.con, call P (n + 6)⟩ (.comp [("at", 4), ("rest", 5)] (.var 4) (.tcons (.name 4) (.tcons (.name 5) .tnil)) (.enum (.var 3)) (.part (.dcall 69 (.cons (.dcall 67 (.cons (.var 0) (.cons (.var 5) .nil))) (.cons (.var 2) .nil)))))
      [some (.fz s.d), some (.fz (kdsD ks)), some (.fz (optD (leastFor s ks))), some (.fz (.lst ((List.range ks.length).map fun i => kdsD (del ks i)))), w4, w5] S = .ok (.lst ((bindK s ks).map fun i : Nat => .int i)) S := by
  rw [ev_compF (fun i : Nat => .tup [.int (i : Nat), kdsD (del ks i)]) (fun i => lessB (leastFor s (del ks i)) (leastFor s ks)) (fun i : Nat => .int (i : Nat)) (List.range ks.length) ?_ rfl (by rw [List.length_range]; omega) ?_]
  · rw [bindK]
  · have := enum_map (fun js : List Kd => kdsD js) ((List.range ks.length).map (del ks))
    rw [List.map_map, List.length_map, List.length_range, zip_range, List.map_map] at this
    simp only [evi_enum, Ex.isPk, Bool.false_eq_true, if_false, ev_var, frAt_succ, frAt_zero, ofO_some, bind_ok, items, Option.map_some]
    rw [show ((List.range ks.length).map fun i => kdsD (del ks i)) = (List.range ks.length).map ((fun js : List Kd => kdsD js) ∘ del ks) from rfl, this]
    rfl
  · intro i hi
    refine ⟨[some (.fz s.d), some (.fz (kdsD ks)), some (.fz (optD (leastFor s ks))), some (.fz (.lst ((List.range ks.length).map fun i => kdsD (del ks i)))), some (.fz (.int i)), some (.fz (kdsD (del ks i)))], by simp [wipeF], ?_, fun _ => by simp⟩
    have hd : (del ks i).length ≤ 5000 := by
      unfold del
      rw [List.length_append]
      have h1 := List.length_take_le i ks
      have h2 := List.length_drop (l := ks) (i := i + 1)
      have h4 := List.length_take_le' i ks
      omega
    have e2 := least_for_eq (n := n) (S := S) (H.mono (by decide) (by decide)) v.good (ks := del ks i) hd
    have e3 := is_less_eq (n := n + 5) (S := S) (H.mono (by decide) (by decide)) (leastFor s (del ks i)) (leastFor s ks)
    simp only [i_least_for, i_is_less] at e2 e3
    simp only [evc_part, ev_dcall, evs_cons, evs_nil, Ex.isPk, Bool.false_and, Bool.false_eq_true, if_false, ev_var, frAt_succ, frAt_zero, ofO_some, bind_ok, e2, e3, asBl_bl]
theorem binding_kinds_eq (H : Has P c_binding_kinds k_binding_kinds) (v : Val s) {ks : List Kd} (h1 : 1 ≤ ks.length) (h3 : ks.length ≤ 3) (hk : ∀ k ∈ ks, KdOk s k) : call P (n + 7) i_binding_kinds [s.d, kdsD ks] S = .ok (.lst ((bindK s ks).map fun i : Nat => .int i)) S := by
  rw [H.run (d := d_binding_kinds) (by decide) rfl rfl]
  have e1 := need_kinds_ok (n := n + 1) (S := S) (H.mono (by decide) (by decide)) v h1 h3 hk
  have e2 := least_for_eq (n := n) (S := S) (H.mono (by decide) (by decide)) v.good (ks := ks) (by omega)
  simp only [i_need_kinds, i_least_for] at e1 e2
  have e3 := fun x y w4 w5 => bind_rows (S := S) (Γ := ⟨P.con, call P (n + 6)⟩) h3 x y w4 w5
  have e4 := fun w4 w5 => bind_last (n := n) (S := S) H v h3 w4 w5
  generalize optD (leastFor s ks) = L at e2 e4
  generalize (bindK s ks).map (fun i : Nat => D.int i) = bk at e4 ⊢
  generalize (List.range ks.length).map (fun i => kdsD (del ks i)) = rs at e3 e4
  generalize kdsD ks = kd at e1 e2 e3 e4 ⊢
  show ouR (exec _ (.seq (.expr (.dcall 65 (.cons (.var 0) (.cons (.var 1) .nil)))) (.seq (.set 2 (.dcall 67 (.cons (.var 0) (.cons (.var 1) .nil)))) (.seq (.set 3 _) (.seq (.ret _) .skip)))) [some (.fz s.d), some (.fz kd), none, none, none, none] S) = _
  have f1 : ev ⟨P.con, call P (n + 6)⟩ (.dcall 65 (.cons (.var 0) (.cons (.var 1) .nil))) [some (.fz s.d), some (.fz kd), none, none, none, none] S = .ok .non S := by
    simp only [ev_dcall, evs_cons, evs_nil, Ex.isPk, Bool.false_and, Bool.false_eq_true, if_false, ev_var, frAt_succ, frAt_zero, ofO_some, bind_ok, e1]
  have f2 : ev ⟨P.con, call P (n + 6)⟩ (.dcall 67 (.cons (.var 0) (.cons (.var 1) .nil))) [some (.fz s.d), some (.fz kd), none, none, none, none] S = .ok L S := by
    simp only [ev_dcall, evs_cons, evs_nil, Ex.isPk, Bool.false_and, Bool.false_eq_true, if_false, ev_var, frAt_succ, frAt_zero, ofO_some, bind_ok, e2]
  rw [ex_seq, ex_expr, f1, ou_ok, then_nx, ex_seq, ex_set, f2]
  rw [if_neg (by decide), ou_ok]
  have f3 : setF [some (.fz s.d), some (.fz kd), none, none, none, none] 2 (.fz L) = some [some (.fz s.d), some (.fz kd), some (.fz L), none, none, none] := rfl
  rw [f3, optU_some, then_nx, ex_seq, ex_set, if_neg (by decide), e3]
  have f4 : setF [some (.fz s.d), some (.fz kd), some (.fz L), none, none, none] 3 (.fz (.lst rs)) = some [some (.fz s.d), some (.fz kd), some (.fz L), some (.fz (.lst rs)), none, none] := rfl
  rw [ou_ok, f4, optU_some, then_nx, ex_seq, ex_ret, if_neg (by decide), e4, ou_ok, then_rt, ouR_rt]
end
end LP.Q
namespace LP.Q
open PySem
/-! ### running statements by what is wanted behind them -/
def WxD (o : Ou) (N : Fr → Sto → Prop) (R : D → Sto → Prop) : Prop := match o with
  | .nx ρ S => N ρ S
  | .rt d S => R d S
  | _ => False
structure Wx (o : Ou) (N : Fr → Sto → Prop) (R : D → Sto → Prop) : Prop where
  out : WxD o N R
section
variable {Γ : Gam} {ρ : Fr} {S S1 : Sto} {N : Fr → Sto → Prop} {R : D → Sto → Prop}
theorem w_mono {o : Ou} {N' : Fr → Sto → Prop} (h : Wx o N R) (q : ∀ ρ S, N ρ S → N' ρ S) : Wx o N' R := by
  obtain ⟨h⟩ := h
  constructor
  cases o with
  | nx ρ S => exact q ρ S h
  | rt d S => exact h
  | ex c S => exact h
  | bad => exact h
theorem w_weak {o : Ou} (h : Wx o N (fun _ _ => False)) : Wx o N R := by
  obtain ⟨h⟩ := h
  constructor
  cases o with
  | nx ρ S => exact h
  | rt d S => exact h.elim
  | ex c S => exact h
  | bad => exact h
theorem w_skip (h : N ρ S) : Wx (exec Γ .skip ρ S) N R := by rw [ex_skip]; exact ⟨h⟩
theorem w_seq {a b : Sm} (h : Wx (exec Γ a ρ S) (fun ρ S => Wx (exec Γ b ρ S) N R) R) : Wx (exec Γ (.seq a b) ρ S) N R := by
  rw [ex_seq]
  obtain ⟨h⟩ := h
  cases q : exec Γ a ρ S <;> rw [q] at h
  · exact h
  · exact ⟨h⟩
  · exact h.elim
  · exact h.elim
theorem w_set {i : Nat} {e : Ex} {d : D} (he : ev Γ e ρ S = .ok d S1) (hp : e.isPk = false) (hl : i < ρ.length) (h : N (ρ.set i (some (.fz d))) S1) : Wx (exec Γ (.set i e) ρ S) N R := by
  rw [ex_set, hp, if_neg Bool.false_ne_true, he, ou_ok, setF, if_pos hl]
  exact ⟨h⟩
theorem w_own {i : Nat} {e : Ex} {xs : List D} (he : ev Γ e ρ S = .ok (.lst xs) S1) (hp : e.fresh = true) (hl : i < ρ.length) (h : N (ρ.set i (some (.ow xs))) S1) : Wx (exec Γ (.own i e) ρ S) N R := by
  rw [ex_own, if_pos hp, he, ou_ok]
  show Wx (optU (setF ρ i (.ow xs)) _) N R
  rw [setF, if_pos hl]
  exact ⟨h⟩
theorem w_expr {e : Ex} {d : D} (he : ev Γ e ρ S = .ok d S1) (h : N ρ S1) : Wx (exec Γ (.expr e) ρ S) N R := by
  rw [ex_expr, he, ou_ok]
  exact ⟨h⟩
theorem w_ret {e : Ex} {d : D} (he : ev Γ e ρ S = .ok d S1) (hp : e.isPk = false) (h : R d S1) : Wx (exec Γ (.ret e) ρ S) N R := by
  rw [ex_ret, hp, if_neg Bool.false_ne_true, he, ou_ok]
  exact ⟨h⟩
theorem w_unp {t : Tg} {e : Ex} {d : D} {ρ1 : Fr} (he : ev Γ e ρ S = .ok d S1) (hp : e.isPk = false) (hb : bindT t d ρ = some ρ1) (h : N ρ1 S1) : Wx (exec Γ (.unp t e) ρ S) N R := by
  rw [ex_unp, hp, if_neg Bool.false_ne_true, he, ou_ok, hb, optU_some]
  exact ⟨h⟩
theorem w_par {is : List (Nat × Bool)} {as : Ex} {ds : List D} {ρ1 : Fr} (he : evs Γ false as ρ S = .ok ds S1) (hf : freshAll is as = true) (hb : setAll is ds ρ = some ρ1) (h : N ρ1 S1) : Wx (exec Γ (.par is as) ρ S) N R := by
  rw [ex_par, if_pos hf, he, ou_ok, hb, optU_some]
  exact ⟨h⟩
theorem w_app {i : Nat} {e : Ex} {d : D} {xs : List D} (he : ev Γ e ρ S = .ok d S1) (hp : e.isPk = false) (ho : owAt ρ i = some xs) (hl : xs.length ≤ 5000) (h : N (ρ.set i (some (.ow (xs ++ [d])))) S1) : Wx (exec Γ (.app i e) ρ S) N R := by
  rw [ex_app, hp, if_neg Bool.false_ne_true, ho, optU_some, he, ou_ok, if_pos (Nat.lt_of_le_of_lt hl (by decide))]
  exact ⟨h⟩
theorem w_frz {i : Nat} (h : N (frzF ρ i) S) : Wx (exec Γ (.frz i) ρ S) N R := by rw [ex_frz]; exact ⟨h⟩
theorem w_ite {c : Ex} {a b : Sm} {t : Bool} (hc : evT Γ c ρ S = .ok t S1) (h1 : t = true → Wx (exec Γ a ρ S1) N R) (h2 : t = false → Wx (exec Γ b ρ S1) N R) : Wx (exec Γ (.ite c a b) ρ S) N R := by
  rw [ex_ite, hc, ou_ok]
  cases t
  · exact h2 rfl
  · exact h1 rfl
/-- the test fails: nothing is done -/
theorem w_no {c : Ex} {a : Sm} (hc : evT Γ c ρ S = .ok false S1) (h : N ρ S1) : Wx (exec Γ (.ite c a .skip) ρ S) N R := w_ite hc (fun z => nomatch z) fun _ => w_skip h
theorem w_loop {bnd : D → Fr → Option Fr} {b : Fr → Sto → Ou} (I : List D → Fr → Sto → Prop) (step : ∀ x r ρ S, I (x :: r) ρ S → ∃ ρ1, bnd x ρ = some ρ1 ∧ Wx (b ρ1 S) (I r) R) (fin : ∀ ρ S, I [] ρ S → N ρ S) :
    ∀ (xs : List D) (ρ : Fr) (S : Sto), I xs ρ S → Wx (floop bnd b xs ρ S) N R
  | [], ρ, S, h => ⟨fin ρ S h⟩
  | x :: xs, ρ, S, h => by
    obtain ⟨ρ1, h1, h2⟩ := step x xs ρ S h
    rw [floop, h1, optU_some]
    obtain ⟨h2⟩ := h2
    cases q : b ρ1 S with
    | nx ρ2 S2 => rw [q] at h2; exact w_loop I step fin xs ρ2 S2 h2
    | rt d S2 => rw [q] at h2; exact ⟨h2⟩
    | ex c S2 => rw [q] at h2; exact h2.elim
    | bad => rw [q] at h2; exact h2.elim
theorem w_for {t : Tg} {it : Ex} {b : Sm} {xs : List D} (I : List D → Fr → Sto → Prop) (he : evi Γ it ρ S = .ok xs S1) (hl : xs.length ≤ 5000) (start : I xs ρ S1)
    (step : ∀ x r ρ S, I (x :: r) ρ S → ∃ ρ1, bindT t x ρ = some ρ1 ∧ Wx (exec Γ b ρ1 S) (I r) R) (fin : ∀ ρ S, I [] ρ S → N ρ S) : Wx (exec Γ (.forr t it b) ρ S) N R := by
  rw [ex_forr, he, ou_ok, if_pos (small hl)]
  exact w_loop I step fin xs ρ S1 start
theorem w_end {d : Df} {ds : List D} (hl : ds.length = d.npar) (h : Wx (exec Γ d.body (startF d.nm.length ds) S) (fun _ S => R .non S) R) : ∃ r S', runDf Γ d ds S = .ok r S' ∧ R r S' := by
  rw [runDf_ou hl]
  obtain ⟨h⟩ := h
  cases q : exec Γ d.body (startF d.nm.length ds) S <;> rw [q] at h
  · exact ⟨_, _, rfl, h⟩
  · exact ⟨_, _, rfl, h⟩
  · exact h.elim
  · exact h.elim
theorem w_call {P : Prg} {js : List Nat} {ks : List Str} (H : Has P js ks) {j : Nat} {d : Df} (hj : j ∈ js) (hd : Gtab.lookup j = some d) {n : Nat} {ds : List D} (hl : ds.length = d.npar) (h : Wx (exec ⟨P.con, call P n⟩ d.body (startF d.nm.length ds) S) (fun _ S => R .non S) R) :
    ∃ r S', call P (n + 1) j ds S = .ok r S' ∧ R r S' := by
  rw [H.call hj hd]
  exact w_end hl h
end
theorem bind_at {i : Nat} {d : D} {ρ : Fr} (h : i < ρ.length) : bindT (.name i) d ρ = some (ρ.set i (some (.fz d))) := by rw [bind_name, setF, if_pos h]
end LP.Q
namespace LP.Q
open PySem
/-! ### a law's loop over its rounds -/
section
variable {P : Prg} {ns : List Int} {n : Nat}
theorem law_main {js : List Nat} {ks : List Str} (H : Has P js ks) (hr : ∀ j ∈ c__law_rounds, j ∈ js) (hk : ∀ x ∈ k__law_rounds, x ∈ ks) {j : Nat} {d : Df} (hj : j ∈ js) (hd : Gtab.lookup j = some d) (hn : ns.length ≤ 63) {high : Nat} (hh : high ≤ 100) {N : Nat} {body : Sm}
    (hp : d.npar = 1) (hN : d.nm.length = N + 2) (hb : d.body = .seq (.forr (.name 1) (.walk (.dcall 43 (.cons (.var 0) (.cons (.int high) .nil)))) body) (.seq (.ret (.bl true)) .skip))
    (step : ∀ k S ρ, DiceAt S k → ρ.length = N + 2 → ρ[0]? = some (some (.fz (.scr ns))) → ρ[1]? = some (some (.fz (.obj k))) → Wx (exec ⟨P.con, call P (n + 10)⟩ body ρ S) (fun ρ' S' => (ρ'.length = N + 2 ∧ ρ'[0]? = some (some (.fz (.scr ns)))) ∧ Rolled k S S') (fun _ _ => False)) :
    ∃ S, call P (n + 11) j [.scr ns] [] = .ok (.bl true) S := by
  obtain ⟨m, S0, e0, hm, hdi⟩ := rounds_ok (n := n + 8) (H.mono hr hk) ns hn (high := high) hh
  have e0' : call P (n + 10) 43 [.scr ns, .int high] [] = .ok (.lst ((List.range m).map .obj)) S0 := e0
  have hs : startF d.nm.length [.scr ns] = some (.fz (.scr ns)) :: List.replicate (N + 1) none := by
    rw [hN]
    simp [startF]
  have fin : ∃ r S', call P (n + 11) j [.scr ns] [] = .ok r S' ∧ r = .bl true := by
    refine w_call (R := fun r _ => r = .bl true) H hj hd (by rw [hp]; rfl) ?_
    rw [hb, hs]
    refine w_seq (w_for (fun ts ρ S => ρ.length = N + 2 ∧ ρ[0]? = some (some (.fz (.scr ns))) ∧ ∃ ks : List Nat, ts = ks.map .obj ∧ ∀ k ∈ ks, DiceAt S k) (xs := (List.range m).map .obj) (S1 := S0) ?_ (by simp; omega) ?_ ?_ ?_)
    · simp only [ev_dcall, evs_cons, evs_nil, Ex.isPk, Bool.false_and, Bool.and_false, Bool.true_and, Bool.not_true, Bool.false_eq_true, if_false, if_true, ev_var, ev_pk, owAt_succ, owAt_zero, frAt_succ, frAt_zero, ofO_some, bind_ok, ev_int, ev_bl, ev_str, ev_non, Option.map_some, evi_walk, e0', walk_lst]
    · exact ⟨by simp, rfl, List.range m, rfl, fun k hk => hdi k (List.mem_range.mp hk)⟩
    · rintro x ts ρ S ⟨hl, h0, kl, e, hdl⟩
      cases kl with
      | nil => cases e
      | cons k kl =>
        rw [List.map_cons, List.cons.injEq] at e
        obtain ⟨rfl, rfl⟩ := e
        refine ⟨_, bind_at (by omega), ?_⟩
        have w := step k S (ρ.set 1 (some (.fz (.obj k)))) (hdl k (.head _)) (by simp [hl]) (by rw [List.getElem?_set_ne (by decide)]; exact h0) (by rw [List.getElem?_set_self (by omega)])
        refine w_mono (w_weak w) ?_
        rintro ρ' S' ⟨⟨a, b⟩, R⟩
        exact ⟨a, b, kl, rfl, fun i hi => R.dice (hdl i (.tail _ hi))⟩
    · intro ρ S _
      refine w_seq (w_ret (d := .bl true) (S1 := S) (by rw [ev_bl]) rfl rfl)
  obtain ⟨r, S', e, rfl⟩ := fin
  exact ⟨S', e⟩
end
end LP.Q
namespace LP.Q
open PySem
open Classical
def refD (c : Str) : D := .tup [.str "refused", .str c]
theorem told_ex {c : Str} {S : Sto} (h : c ∈ (["BadShore", "BadPool", "BadHeight", "BadCounts", "BadLot", "BadKinds", "BadBounds", "BadDays", "BadSeen", "Nothing", "Full", "BadText"] : List Str)) : toldR (.ex c S) = .ok (refD c) S := by
  have : ∀ c ∈ (["BadShore", "BadPool", "BadHeight", "BadCounts", "BadLot", "BadKinds", "BadBounds", "BadDays", "BadSeen", "Nothing", "Full", "BadText"] : List Str), (kinds.any fun k => Str.ofString k == c) = true := by decide +kernel
  show LP.ofO (tellD c) S = _
  unfold tellD
  rw [if_pos (this c h)]
  rfl
section
variable {P : Prg} {S : Sto} {n : Nat}
/-- what is no shore at all -/
theorem is_shore_none (H : Has P c_is_shore k_is_shore) : call P (n + 3) i_is_shore [.non] S = .ok (.bl false) S := by
  rw [H.run (d := d_is_shore) (by decide) rfl rfl]
  simp [d_is_shore, startF, Ex.isPk]
theorem is_shore_int (H : Has P c_is_shore k_is_shore) (i : Int) : call P (n + 3) i_is_shore [.int i] S = .ok (.bl false) S := by
  rw [H.run (d := d_is_shore) (by decide) rfl rfl]
  simp [d_is_shore, startF, Ex.isPk]
theorem is_shore_len (H : Has P c_is_shore k_is_shore) {xs : List D} (h : xs.length ≠ 2) : call P (n + 3) i_is_shore [.tup xs] S = .ok (.bl false) S := by
  rw [H.run (d := d_is_shore) (by decide) rfl rfl]
  have : ¬ ((xs.length : Nat) : Int) = 2 := by omega
  simp [d_is_shore, startF, Ex.isPk, len_tup, this]
theorem is_shore_few (H : Has P c_is_shore k_is_shore) {xs : List D} {r : D} (h : xs.length < 2) : call P (n + 3) i_is_shore [.tup [.tup xs, r]] S = .ok (.bl false) S := by
  rw [H.run (d := d_is_shore) (by decide) rfl rfl]
  have : ¬ (2 : Int) ≤ ((xs.length : Nat) : Int) := by omega
  simp [d_is_shore, startF, Ex.isPk, len_tup, this]
theorem need_two_no1 (H : Has P c_need_two k_need_two) {x y : D} (h : call P (n + 3) i_is_shore [x] S = .ok (.bl false) S) : call P (n + 4) i_need_two [x, y] S = .ex "BadShore" S := by
  rw [H.run (d := d_need_two) (by decide) rfl rfl]
  simp [d_need_two, startF, Ex.isPk, h]
theorem need_two_no2 (H : Has P c_need_two k_need_two) {x y : D} (h : call P (n + 3) i_is_shore [x] S = .ok (.bl true) S) (h2 : call P (n + 3) i_is_shore [y] S = .ok (.bl false) S) : call P (n + 4) i_need_two [x, y] S = .ex "BadShore" S := by
  rw [H.run (d := d_need_two) (by decide) rfl rfl]
  simp [d_need_two, startF, Ex.isPk, h, h2]
theorem need_two_apart (H : Has P c_need_two k_need_two) {s t : Shr} (v : Val s) (w : Val t) (hp : s.pools ≠ t.pools) : call P (n + 4) i_need_two [s.d, t.d] S = .ex "BadShore" S := by
  rw [H.run (d := d_need_two) (by decide) rfl rfl]
  have e5 : ∀ s : Shr, ixD s.d (.int 0) S = some (lotD s.pools) := fun s => by unfold Shr.d; simp; rfl
  have q : cmpD .ne (lotD s.pools) (lotD t.pools) = some true := by
    rw [neD_ok ((nice_lot v.good.ok).eqOk (nice_lot w.good.ok) (by decide) (by decide)), eq_lot]
    simp [hp]
  simp [d_need_two, startF, Ex.isPk, is_shore_val (n := n) (S := S) (H.mono (by decide) (by decide)) v, is_shore_val (n := n) (S := S) (H.mono (by decide) (by decide)) w, e5, q]
theorem parting_ex (H : Has P c_parting k_parting) {x y : D} (h : call P (n + 4) i_need_two [x, y] S = .ex "BadShore" S) : call P (n + 5) i_parting [x, y] S = .ex "BadShore" S := by
  rw [H.run (d := d_parting) (by decide) rfl rfl]
  simp [d_parting, startF, Ex.isPk, h]
theorem parting_counts_ex (H : Has P c_parting_counts k_parting_counts) {x y : D} (h : call P (n + 4) i_need_two [x, y] S = .ex "BadShore" S) : call P (n + 5) i_parting_counts [x, y] S = .ex "BadShore" S := by
  rw [H.run (d := d_parting_counts) (by decide) rfl rfl]
  simp [d_parting_counts, startF, Ex.isPk, h]
def strange : Shr := ⟨["ape", "bee"], []⟩
theorem strange_val : Val strange := ⟨by decide, by decide, by decide +kernel, rises_adj sLt_sto (by decide +kernel), by decide, (fun _ h => nomatch h), List.Pairwise.nil⟩
theorem two_refused : cmpD .ne (.lst [refD "BadShore", refD "BadShore"]) (.lst [refD "BadShore", refD "BadShore"]) = some false := by
  have nr : Nice 1 (refD "BadShore") := nice_tup (n := 0) fun y hy => by
    simp at hy
    rcases hy with rfl | rfl <;> exact nice_str (by decide +kernel)
  have nl : Nice 2 (.lst [refD "BadShore", refD "BadShore"]) := nice_lst fun y hy => by
    simp at hy
    subst hy
    exact nr
  rw [neD_ok (nl.eqOk nl (by decide) (by decide))]
  simp [D.eq, D.eqs, refD]
theorem pairs_refused_ok (H : Has P c__law_pairs_refused k__law_pairs_refused) {one : Shr} (v : Val one) (hst : one.pools ≠ strange.pools) : call P (n + 6) i__law_pairs_refused [one.d] S = .ok (.bl true) S := by
  rw [H.run (d := d__law_pairs_refused) (by decide) rfl rfl]
  have hs1 := is_shore_val (n := n) (S := S) (H.mono (by decide) (by decide)) v
  have Hn : Has P c_need_two k_need_two := H.mono (by decide) (by decide)
  have Hi : Has P c_is_shore k_is_shore := H.mono (by decide) (by decide)
  have refused : ∀ bad : D, call P (n + 4) i_need_two [one.d, bad] S = .ex "BadShore" S → call P (n + 4) i_need_two [bad, one.d] S = .ex "BadShore" S →
      ∀ v3 : Option Sl, exec ⟨P.con, call P (n + 5)⟩ (.seq (.own 3 (.lst (.cons (.told (.dcall 31 (.cons (.var 0) (.cons (.var 2) .nil)))) .nil))) (.seq (.app 3 (.told (.dcall 130 (.cons (.var 2) (.cons (.var 0) .nil))))) (.seq (.ite (.cmp .ne (.pk 3) (.bin .mul (.lst (.cons (.tup (.cons (.str "refused") (.cons (.str "BadShore") .nil))) .nil)) (.int 2))) (.seq (.ret (.bl false)) .skip) .skip) .skip)))
        [some (.fz one.d), some (.fz strange.d), some (.fz bad), v3] S = .nx [some (.fz one.d), some (.fz strange.d), some (.fz bad), some (.ow [refD "BadShore", refD "BadShore"])] S := fun bad b1 b2 v3 => by
    have t1 := parting_ex (n := n) (S := S) (H.mono (by decide) (by decide)) b1
    have t2 := parting_counts_ex (n := n) (S := S) (H.mono (by decide) (by decide)) b2
    have hm : bin .mul (.lst [refD "BadShore"]) (.int 2) = some (.lst [refD "BadShore", refD "BadShore"]) := by
      simp [bin, mulD, lim]
    have hrf : ∀ ρ, ev ⟨P.con, call P (n + 5)⟩ (.tup (.cons (.str "refused") (.cons (.str "BadShore") .nil))) ρ S = .ok (refD "BadShore") S := fun ρ => by simp [Ex.isPk, lim, refD]
    have c1 : ∀ ρ, frAt ρ 0 = some one.d → frAt ρ 2 = some bad → ev ⟨P.con, call P (n + 5)⟩ (.told (.dcall 31 (.cons (.var 0) (.cons (.var 2) .nil)))) ρ S = .ok (refD "BadShore") S := fun ρ h0 h2 => by
      rw [ev_told _ rfl, ev_dcall, evs_two (x := one.d) (y := bad) (S1 := S) (S2 := S) (by rw [ev_var, h0]; rfl) (by rw [ev_var, h2]; rfl) rfl rfl, bind_ok]
      exact (congrArg toldR t1).trans (told_ex (by decide +kernel))
    have c2 : ∀ ρ, frAt ρ 0 = some one.d → frAt ρ 2 = some bad → ev ⟨P.con, call P (n + 5)⟩ (.told (.dcall 130 (.cons (.var 2) (.cons (.var 0) .nil)))) ρ S = .ok (refD "BadShore") S := fun ρ h0 h2 => by
      rw [ev_told _ rfl, ev_dcall, evs_two (x := bad) (y := one.d) (S1 := S) (S2 := S) (by rw [ev_var, h2]; rfl) (by rw [ev_var, h0]; rfl) rfl rfl, bind_ok]
      exact (congrArg toldR t2).trans (told_ex (by decide +kernel))
    have s1 : exec ⟨P.con, call P (n + 5)⟩ (.own 3 (.lst (.cons (.told (.dcall 31 (.cons (.var 0) (.cons (.var 2) .nil)))) .nil))) [some (.fz one.d), some (.fz strange.d), some (.fz bad), v3] S = .nx [some (.fz one.d), some (.fz strange.d), some (.fz bad), some (.ow [refD "BadShore"])] S := by
      rw [ex_own, if_pos (by rfl), ev_lst, evs_one (c1 _ rfl rfl) rfl, bind_ok]
      simp [lim, ownS]
    have s2 : exec ⟨P.con, call P (n + 5)⟩ (.app 3 (.told (.dcall 130 (.cons (.var 2) (.cons (.var 0) .nil))))) [some (.fz one.d), some (.fz strange.d), some (.fz bad), some (.ow [refD "BadShore"])] S = .nx [some (.fz one.d), some (.fz strange.d), some (.fz bad), some (.ow [refD "BadShore", refD "BadShore"])] S := by
      rw [ex_app, if_neg (by simp [Ex.isPk]), c2 _ rfl rfl]
      simp [lim]
    have s3 : evT ⟨P.con, call P (n + 5)⟩ (.cmp .ne (.pk 3) (.bin .mul (.lst (.cons (.tup (.cons (.str "refused") (.cons (.str "BadShore") .nil))) .nil)) (.int 2))) [some (.fz one.d), some (.fz strange.d), some (.fz bad), some (.ow [refD "BadShore", refD "BadShore"])] S = .ok false S := by
      have a1 : ev ⟨P.con, call P (n + 5)⟩ (.bin .mul (.lst (.cons (.tup (.cons (.str "refused") (.cons (.str "BadShore") .nil))) .nil)) (.int 2)) [some (.fz one.d), some (.fz strange.d), some (.fz bad), some (.ow [refD "BadShore", refD "BadShore"])] S = .ok (.lst [refD "BadShore", refD "BadShore"]) S := by
        rw [ev_bin, ev_lst, evs_one (hrf _) rfl, bind_ok, if_pos (show [refD "BadShore"].length ≤ lim from small (by simp)), bind_ok, ev_int, bind_ok, hm, ofO_some]
      have ap : ev ⟨P.con, call P (n + 5)⟩ (.pk 3) [some (.fz one.d), some (.fz strange.d), some (.fz bad), some (.ow [refD "BadShore", refD "BadShore"])] S = .ok (.lst [refD "BadShore", refD "BadShore"]) S := by rw [ev_pk]; rfl
      rw [evT_eq, ev_cmp, ap, bind_ok, a1, bind_ok, two_refused]
      rfl
    rw [ex_seq, s1, then_nx, ex_seq, s2, then_nx, ex_seq, ex_ite, s3, ou_ok]
    simp
  have bads : ∀ bad ∈ [D.non, D.int 5, D.tup [], strange.d, D.tup [D.tup ((one.pools.take 1).map .str), .tup []]], call P (n + 4) i_need_two [one.d, bad] S = .ex "BadShore" S ∧ call P (n + 4) i_need_two [bad, one.d] S = .ex "BadShore" S := fun bad hb => by
    simp at hb
    rcases hb with rfl | rfl | rfl | rfl | rfl
    · exact ⟨need_two_no2 Hn hs1 (is_shore_none Hi), need_two_no1 Hn (is_shore_none Hi)⟩
    · exact ⟨need_two_no2 Hn hs1 (is_shore_int Hi 5), need_two_no1 Hn (is_shore_int Hi 5)⟩
    · exact ⟨need_two_no2 Hn hs1 (is_shore_len Hi (by simp)), need_two_no1 Hn (is_shore_len Hi (by simp))⟩
    · exact ⟨need_two_apart Hn v strange_val hst, need_two_apart Hn strange_val v (Ne.symm hst)⟩
    · exact ⟨need_two_no2 Hn hs1 (is_shore_few Hi (by simp; omega)), need_two_no1 Hn (is_shore_few Hi (by simp; omega))⟩
  have loop : ∀ (bs : List D), (∀ b ∈ bs, call P (n + 4) i_need_two [one.d, b] S = .ex "BadShore" S ∧ call P (n + 4) i_need_two [b, one.d] S = .ex "BadShore" S) → ∀ v2 v3 : Option Sl, ∃ w2 w3, floop (bindT (.name 2)) (fun ρ S => exec ⟨P.con, call P (n + 5)⟩ (.seq (.own 3 (.lst (.cons (.told (.dcall 31 (.cons (.var 0) (.cons (.var 2) .nil)))) .nil))) (.seq (.app 3 (.told (.dcall 130 (.cons (.var 2) (.cons (.var 0) .nil))))) (.seq (.ite (.cmp .ne (.pk 3) (.bin .mul (.lst (.cons (.tup (.cons (.str "refused") (.cons (.str "BadShore") .nil))) .nil)) (.int 2))) (.seq (.ret (.bl false)) .skip) .skip) .skip))) ρ S) bs [some (.fz one.d), some (.fz strange.d), v2, v3] S = .nx [some (.fz one.d), some (.fz strange.d), w2, w3] S := by
    intro bs
    induction bs with
    | nil => intro _ v2 v3; exact ⟨v2, v3, rfl⟩
    | cons b bs ih =>
      intro hb v2 v3
      obtain ⟨w2, w3, e⟩ := ih (fun x hx => hb x (List.mem_cons_of_mem _ hx)) (some (.fz b)) (some (.ow [refD "BadShore", refD "BadShore"]))
      obtain ⟨b1, b2⟩ := hb b List.mem_cons_self
      refine ⟨w2, w3, ?_⟩
      have eb : bindT (.name 2) b [some (.fz one.d), some (.fz strange.d), v2, v3] = some [some (.fz one.d), some (.fz strange.d), some (.fz b), v3] := by simp
      rw [floop, eb, optU_some, refused b b1 b2, then_nx, e]
  obtain ⟨w2, w3, el⟩ := loop _ bads none none
  have e1 : exec ⟨P.con, call P (n + 5)⟩ (.set 1 (.tup (.cons (.tup (.cons (.str "ape") (.cons (.str "bee") .nil))) (.cons (.tup .nil) .nil)))) [some (.fz one.d), none, none, none] S = .nx [some (.fz one.d), some (.fz strange.d), none, none] S := by
    simp [Ex.isPk, lim, strange, Shr.d]
  have e5 : ixD one.d (.int 0) S = some (.tup (one.pools.map .str)) := by unfold Shr.d; simp
  have s1 : slD (.tup (one.pools.map .str)) none (some 1) = some (.tup ((one.pools.take 1).map .str)) := by
    have := sl_to (i := 1) (xs := one.pools.map D.str)
    rw [List.map_take]
    exact this
  have e2 : evi ⟨P.con, call P (n + 5)⟩ (.walk (.lst (.cons .non (.cons (.int 5) (.cons (.tup .nil) (.cons (.var 1) (.cons (.tup (.cons (.sl (.ix (.var 0) (.int 0)) .nop (.part (.int 1))) (.cons (.tup .nil) .nil))) .nil))))))) [some (.fz one.d), some (.fz strange.d), none, none] S = .ok [D.non, D.int 5, D.tup [], strange.d, D.tup [D.tup ((one.pools.take 1).map .str), .tup []]] S := by
    have s2 : slD (.tup (one.pools.map .str)) none (some 1) = some (.tup (List.take 1 (one.pools.map .str))) := sl_to (i := 1)
    simp [Ex.isPk, lim, e5, s2]
  show ouR (exec _ (.seq (.set 1 (.tup (.cons (.tup (.cons (.str "ape") (.cons (.str "bee") .nil))) (.cons (.tup .nil) .nil)))) (.seq (.forr (.name 2) (.walk (.lst (.cons .non (.cons (.int 5) (.cons (.tup .nil) (.cons (.var 1) (.cons (.tup (.cons (.sl (.ix (.var 0) (.int 0)) .nop (.part (.int 1))) (.cons (.tup .nil) .nil))) .nil))))))) _) (.seq (.ret (.bl true)) .skip))) [some (.fz one.d), none, none, none] S) = _
  rw [ex_seq, e1, then_nx, ex_seq, ex_forr, e2, ou_ok, if_pos (small (by simp))]
  rw [el]
  simp [Ex.isPk]
end
end LP.Q
namespace LP.Q
open PySem
section
variable {P : Prg} {s : Shr} {S : Sto} {n : Nat}
theorem is_whole_bl (H : Has P c_is_whole k_is_whole) (b : Bool) (lo hi : Int) : call P (n + 1) i_is_whole [.bl b, .int lo, .int hi] S = .ok (.bl false) S := by
  rw [H.run (d := d_is_whole) (by decide) rfl rfl]
  simp [d_is_whole, startF, Ex.isPk]
theorem good_counts_no (H : Has P c_are_good_counts k_are_good_counts) (x : D) (h : isi x .tuple = some false) (y : D) : call P (n + 2) i_are_good_counts [y, x] S = .ok (.bl false) S := by
  rw [H.run (d := d_are_good_counts) (by decide) rfl rfl]
  simp [d_are_good_counts, startF, Ex.isPk, h]
theorem is_kind_no (H : Has P c_is_kind k_is_kind) {x : D} (h : isi x .tuple = some false) : call P (n + 3) i_is_kind [s.d, x] S = .ok (.bl false) S := by
  rw [H.run (d := d_is_kind) (by decide) rfl rfl]
  simp [d_is_kind, startF, Ex.isPk, h]
theorem is_kind_len (H : Has P c_is_kind k_is_kind) {x y : D} : call P (n + 3) i_is_kind [s.d, .tup [x, y]] S = .ok (.bl false) S := by
  rw [H.run (d := d_is_kind) (by decide) rfl rfl]
  simp [d_is_kind, startF, Ex.isPk, len_tup]
theorem is_kind_deep (H : Has P c_is_kind k_is_kind) {x y : D} : call P (n + 3) i_is_kind [s.d, .tup [.int 5, x, y]] S = .ok (.bl false) S := by
  rw [H.run (d := d_is_kind) (by decide) rfl rfl]
  have hd := H.con (x := "DEEPEST") (by decide) rfl
  have e0 := is_whole_int (n := n + 1) (S := S) (H.mono (by decide) (by decide)) 5 0 4
  simp only [i_is_whole] at e0
  simp [d_is_kind, startF, Ex.isPk, len_tup, hd, e0]
theorem is_kind_bool (H : Has P c_is_kind k_is_kind) {x y : D} : call P (n + 3) i_is_kind [s.d, .tup [.bl true, x, y]] S = .ok (.bl false) S := by
  rw [H.run (d := d_is_kind) (by decide) rfl rfl]
  have hd := H.con (x := "DEEPEST") (by decide) rfl
  have e0 := is_whole_bl (n := n + 1) (S := S) (H.mono (by decide) (by decide)) true 0 4
  simp only [i_is_whole] at e0
  simp [d_is_kind, startF, Ex.isPk, len_tup, hd, e0]
theorem is_kind_half (H : Has P c_is_kind k_is_kind) (v : Val s) {c : List Int} (hc : Cnt s c) : call P (n + 3) i_is_kind [s.d, .tup [.int 0, cntD c, .non]] S = .ok (.bl false) S := by
  rw [H.run (d := d_is_kind) (by decide) rfl rfl]
  have hd := H.con (x := "DEEPEST") (by decide) rfl
  have e0 := is_whole_int (n := n + 1) (S := S) (H.mono (by decide) (by decide)) 0 0 4
  have e1 := good_counts_ok (n := n) (S := S) (H.mono (by decide) (by decide)) v hc
  have e2 := good_counts_no (n := n) (S := S) (H.mono (by decide) (by decide)) .non rfl s.d
  simp only [i_is_whole, i_are_good_counts] at e0 e1 e2
  simp [d_is_kind, startF, Ex.isPk, len_tup, hd, e0, e1, e2]
/-- what are no kinds -/
def NoKinds (P : Prg) (s : Shr) (n : Nat) (S : Sto) (x : D) : Prop := call P (n + 5) i_need_kinds [s.d, x] S = .ex "BadKinds" S
theorem need_no (H : Has P c_need_kinds k_need_kinds) (v : Val s) {x : D} (h : isi x .tuple = some false) : NoKinds P s n S x := by
  unfold NoKinds
  rw [H.run (d := d_need_kinds) (by decide) rfl rfl]
  have e0 := need_shore_val (n := n) (S := S) (H.mono (by decide) (by decide)) v
  simp only [i_need_shore] at e0
  simp [d_need_kinds, startF, Ex.isPk, e0, h]
theorem need_many (H : Has P c_need_kinds k_need_kinds) (v : Val s) {xs : List D} (h : xs.length = 0 ∨ 3 < xs.length) : NoKinds P s n S (.tup xs) := by
  unfold NoKinds
  rw [H.run (d := d_need_kinds) (by decide) rfl rfl]
  have e0 := need_shore_val (n := n) (S := S) (H.mono (by decide) (by decide)) v
  simp only [i_need_shore] at e0
  have hc : ((decide ((1 : Int) ≤ xs.length)) && decide ((xs.length : Int) ≤ 3)) = false := by
    rw [Bool.and_eq_false_iff, decide_eq_false_iff_not, decide_eq_false_iff_not]
    omega
  simp [d_need_kinds, startF, Ex.isPk, e0, len_tup]
  obtain h | h := h
  · have : ¬ ((1 : Int) ≤ xs.length) := by omega
    simp [this]
  · have h1 : (1 : Int) ≤ xs.length := by omega
    have h2 : ¬ ((xs.length : Int) ≤ 3) := by omega
    simp [h1, h2]
theorem need_one (H : Has P c_need_kinds k_need_kinds) (v : Val s) {x : D} (h : call P (n + 4) i_is_kind [s.d, x] S = .ok (.bl false) S) : NoKinds P s n S (.tup [x]) := by
  unfold NoKinds
  rw [H.run (d := d_need_kinds) (by decide) rfl rfl]
  have e0 := need_shore_val (n := n) (S := S) (H.mono (by decide) (by decide)) v
  simp only [i_need_shore] at e0
  have ec : ∀ w : Option Sl, ev ⟨P.con, call P (n + 4)⟩ (.comp [("one", 2)] (.dcall 64 (.cons (.var 0) (.cons (.var 2) .nil))) (.name 2) (.walk (.var 1)) .nop) [some (.fz s.d), some (.fz (.tup [x])), w] S = .ok (.lst [.bl false]) S := fun w => by
    rw [ev_compA (fun _ : Unit => x) (fun _ => .bl false) [()] ?_ rfl (by simp) ?_]
    · rfl
    · simp [Ex.isPk]
    · intro k hm
      refine ⟨[some (.fz s.d), some (.fz (.tup [x])), some (.fz x)], by simp [wipeF], by simp, ?_⟩
      simp only [i_is_kind] at h
      simp [Ex.isPk, h]
  have ea : blt .all [.lst [.bl false]] S = some (.bl false) := rfl
  simp [d_need_kinds, startF, Ex.isPk, e0, len_tup]
  rw [ec]
  simp [ea]
theorem least_refused (H : Has P c_least_for_kinds k_least_for_kinds) {x : D} (h : NoKinds P s n S x) : call P (n + 6) i_least_for_kinds [s.d, x] S = .ex "BadKinds" S := by
  rw [H.run (d := d_least_for_kinds) (by decide) rfl rfl]
  unfold NoKinds at h
  simp only [i_need_kinds] at h
  simp [d_least_for_kinds, startF, Ex.isPk, h]
theorem binding_refused (H : Has P c_binding_kinds k_binding_kinds) {x : D} (h : NoKinds P s n S x) : call P (n + 6) i_binding_kinds [s.d, x] S = .ex "BadKinds" S := by
  rw [H.run (d := d_binding_kinds) (by decide) rfl rfl]
  unfold NoKinds at h
  simp only [i_need_kinds] at h
  simp [d_binding_kinds, startF, Ex.isPk, h]
theorem ne_refD {c : Str} (h : sOk c = true) : cmpD .ne (refD c) (.tup [.str "refused", .str c]) = some false := by
  have nr : Nice 1 (refD c) := nice_tup (n := 0) fun y hy => by
    simp at hy
    obtain rfl | rfl := hy
    · exact nice_str (by decide +kernel)
    · exact nice_str h
  rw [show (D.tup [.str "refused", .str c]) = refD c from rfl, neD_ok (nr.eqOk nr (by decide) (by decide))]
  simp [D.eq, D.eqs, refD]
/-- a deed that is refused so is told so -/
theorem told_no {Γ : Gam} {ρ : Fr} {f : Nat} {as : Ex} {ds : List D} {c : Str} (ha : evs Γ false as ρ S = .ok ds S) (h : Γ.fn f ds S = .ex c S) (hc : c ∈ (["BadShore", "BadPool", "BadHeight", "BadCounts", "BadLot", "BadKinds", "BadBounds", "BadDays", "BadSeen", "Nothing", "Full", "BadText"] : List Str)) (ok : sOk c = true) :
    evT Γ (.cmp .ne (.told (.dcall f as)) (.tup (.cons (.str "refused") (.cons (.str c) .nil)))) ρ S = .ok false S := by
  have e1 : ev Γ (.told (.dcall f as)) ρ S = .ok (refD c) S := by
    rw [ev_told _ rfl, ev_dcall, ha, bind_ok, h]
    exact told_ex hc
  have e2 : ev Γ (.tup (.cons (.str "refused") (.cons (.str c) .nil))) ρ S = .ok (.tup [.str "refused", .str c]) S := by
    simp [Ex.isPk, lim]
  rw [evT_eq, ev_cmp, e1, bind_ok, e2, bind_ok, ne_refD ok]
  rfl
end
end LP.Q
namespace LP.Q
open PySem
abbrev bodyK03 : Sm := (.seq (.par [(10, false), (3, true)] (.cons (.dcall 45 (.cons (.var 1) (.cons (.int 6) (.cons (.int 10) .nil)))) (.cons (.lst .nil) .nil))) (.seq (.forr (.name 2) (.rng (.cons (.bin .add (.int 1) (.dcall 42 (.cons (.var 1) (.cons (.int 3) .nil)))) .nil)) (.seq (.set 11 (.dcall 46 (.cons (.var 1) (.cons (.var 10) (.cons (.int 3) .nil))))) (.seq (.app 3 (.tup (.cons (.dcall 42 (.cons (.var 1) (.cons (.int 5) .nil))) (.cons (.var 11) (.cons (.dcall 58 (.cons (.var 1) (.cons (.var 10) (.cons (.var 11) .nil)))) .nil))))) .skip))) (.seq (.set 3 (.blt .tuple (.cons (.pk 3) .nil))) (.seq (.set 4 (.comp [("kind", 13)] (.dcall 73 (.cons (.var 10) (.cons (.var 13) .nil))) (.name 13) (.walk (.var 3)) .nop)) (.seq (.ite (.cmp .ne (.dcall 68 (.cons (.var 10) (.cons (.var 3) .nil))) (.ife (.cmp .lt (.blt .max (.cons (.var 4) .nil)) (.int 10)) (.blt .max (.cons (.var 4) .nil)) .non)) (.seq (.ret (.bl false)) .skip) .skip) (.seq (.set 5 (.lst .nil)) (.seq (.forr (.name 6) (.rng (.cons (.blt .len (.cons (.var 3) .nil)) .nil)) (.seq (.set 12 (.blt .max (.cons (.bin .add (.bin .add (.lst (.cons (.int 0) .nil)) (.sl (.var 4) .nop (.part (.var 6)))) (.sl (.var 4) (.part (.bin .add (.var 6) (.int 1))) .nop)) .nil))) (.seq (.set 5 (.bin .add (.var 5) (.bin .mul (.lst (.cons (.var 6) .nil)) (.blt .int (.cons (.cmp .lt (.var 12) (.blt .max (.cons (.var 4) .nil))) .nil))))) .skip))) (.seq (.ite (.orE (.cmp .ne (.dcall 70 (.cons (.var 10) (.cons (.var 3) .nil))) (.var 5)) (.andE (.cmp .eq (.blt .max (.cons (.var 4) .nil)) (.int 0)) (.cmp .ne (.var 5) (.lst .nil)))) (.seq (.ret (.bl false)) .skip) .skip) (.seq (.set 7 (.ix (.var 3) (.int 0))) (.seq (.set 8 (.lst (.cons .non (.cons (.int 5) (.cons (.tup .nil) (.cons (.lst (.cons (.var 7) .nil)) (.cons (.bin .mul (.var 3) (.int 4)) (.cons (.tup (.cons .non .nil)) (.cons (.tup (.cons (.sl (.var 7) .nop (.part (.int 2))) .nil)) (.cons (.tup (.cons (.bin .add (.tup (.cons (.int 5) .nil)) (.sl (.var 7) (.part (.int 1)) .nop)) .nil)) .nil)))))))))) (.seq (.set 8 (.bin .add (.var 8) (.lst (.cons (.tup (.cons (.bin .add (.tup (.cons (.bl true) .nil)) (.sl (.var 7) (.part (.int 1)) .nop)) .nil)) (.cons (.tup (.cons (.tup (.cons (.int 0) (.cons (.ix (.var 7) (.int 1)) (.cons .non .nil)))) .nil)) (.cons (.tup (.cons (.blt .list (.cons (.var 7) .nil)) .nil)) .nil)))))) (.seq (.forr (.name 9) (.walk (.var 8)) (.seq (.ite (.cmp .ne (.told (.dcall 68 (.cons (.var 10) (.cons (.var 9) .nil)))) (.tup (.cons (.str "refused") (.cons (.str "BadKinds") .nil)))) (.seq (.ret (.bl false)) .skip) .skip) (.seq (.ite (.cmp .ne (.told (.dcall 70 (.cons (.var 10) (.cons (.var 9) .nil)))) (.tup (.cons (.str "refused") (.cons (.str "BadKinds") .nil)))) (.seq (.ret (.bl false)) .skip) .skip) .skip))) .skip))))))))))))
abbrev drawK03 : Sm := (.seq (.set 11 (.dcall 46 (.cons (.var 1) (.cons (.var 10) (.cons (.int 3) .nil))))) (.seq (.app 3 (.tup (.cons (.dcall 42 (.cons (.var 1) (.cons (.int 5) .nil))) (.cons (.var 11) (.cons (.dcall 58 (.cons (.var 1) (.cons (.var 10) (.cons (.var 11) .nil)))) .nil))))) .skip))
abbrev bindK03 : Sm := (.seq (.set 12 (.blt .max (.cons (.bin .add (.bin .add (.lst (.cons (.int 0) .nil)) (.sl (.var 4) .nop (.part (.var 6)))) (.sl (.var 4) (.part (.bin .add (.var 6) (.int 1))) .nop)) .nil))) (.seq (.set 5 (.bin .add (.var 5) (.bin .mul (.lst (.cons (.var 6) .nil)) (.blt .int (.cons (.cmp .lt (.var 12) (.blt .max (.cons (.var 4) .nil))) .nil))))) .skip))
abbrev badK03 : Sm := (.seq (.ite (.cmp .ne (.told (.dcall 68 (.cons (.var 10) (.cons (.var 9) .nil)))) (.tup (.cons (.str "refused") (.cons (.str "BadKinds") .nil)))) (.seq (.ret (.bl false)) .skip) .skip) (.seq (.ite (.cmp .ne (.told (.dcall 70 (.cons (.var 10) (.cons (.var 9) .nil)))) (.tup (.cons (.str "refused") (.cons (.str "BadKinds") .nil)))) (.seq (.ret (.bl false)) .skip) .skip) .skip))
theorem max_ints {α : Type} {S : Sto} (f : α → Int) (xs : List α) (hx : xs ≠ []) (h : ∀ x ∈ xs, 0 ≤ f x) : blt .max [.lst (xs.map fun x => .int (f x))] S = some (.int (mx (xs.map f))) := by
  cases xs with
  | nil => exact absurd rfl hx
  | cons x xs =>
    show (toInts (xs.map fun x => .int (f x))).map (fun ns => D.int (maxI (f x) ns)) = _
    rw [toInts_map, Option.map_some, maxI_mx _ _ (h x (.head _)) fun y hy => ?_]
    · rfl
    · obtain ⟨z, hz, rfl⟩ := List.mem_map.mp hy
      exact h z (.tail _ hz)
theorem ne_ints_refl {xs : List Int} : cmpD .ne (.lst (xs.map .int)) (.lst (xs.map .int)) = some false := by
  have nr : Nice 1 (.lst (xs.map D.int)) := nice_lst (n := 0) fun y hy => by
    obtain ⟨z, _, rfl⟩ := List.mem_map.mp hy
    exact nice_int
  rw [neD_ok (nr.eqOk nr (by decide) (by decide)), D.eq, eqs_map D.int (fun _ _ => eq_int')]
  simp
abbrev fr3 (ns : List Int) (k : Nat) (v2 v3 v4 v5 v6 v7 v8 v9 v10 v11 v12 v13 : Option Sl) : Fr := [some (.fz (.scr ns)), some (.fz (.obj k)), v2, v3, v4, v5, v6, v7, v8, v9, v10, v11, v12, v13]
section
variable {P : Prg} {S : Sto} {n : Nat} {ns : List Int} {k : Nat}
/-- one kind is drawn -/
theorem draw_kind (H : Has P c_law_k03 k_law_k03) {s : Shr} (v : Val s) {S0 : Sto} (hd : DiceAt S0 k) (R0 : Rolled k S0 S) {ks : List Kd} (hk : ∀ q ∈ ks, KdOk s q) (hl : ks.length ≤ 10) (v2 v4 v5 v6 v7 v8 v9 v11 v12 v13 : Option Sl) (Q : D → Sto → Prop) :
    Wx (exec ⟨P.con, call P (n + 10)⟩ drawK03 (fr3 ns k v2 (some (.ow (ks.map kdD))) v4 v5 v6 v7 v8 v9 (some (.fz s.d)) v11 v12 v13) S)
      (fun ρ S' => ∃ q w11, KdOk s q ∧ ρ = fr3 ns k v2 (some (.ow ((ks ++ [q]).map kdD))) v4 v5 v6 v7 v8 v9 (some (.fz s.d)) w11 v12 v13 ∧ Rolled k S0 S') Q := by
  obtain ⟨c, S1, e1, hc, _, R1⟩ := any_counts_ok (n := n + 7) (S := S) (H.mono (by decide) (by decide)) v (most := 3) (by decide) (R0.dice hd)
  obtain ⟨r, S2, e2, r0, r1, R2⟩ := roll_ok (n := n + 8) (S := S1) (H.mono (by decide) (by decide)) ((R0.trans R1).dice hd) (many := 5) (by decide) (by decide)
  obtain ⟨a, S3, e3, ha, R3⟩ := any_after_ok (n := n + 6) (S := S2) (H.mono (by decide) (by decide)) v hc (((R0.trans R1).trans R2).dice hd)
  have e1' : call P (n + 10) 46 [.obj k, s.d, .int 3] S = .ok (cntD c) S1 := e1
  have e2' : call P (n + 10) 42 [.obj k, .int 5] S1 = .ok (.int r) S2 := e2
  have e3' : call P (n + 10) 58 [.obj k, s.d, cntD c] S2 = .ok (cntD a) S3 := e3
  refine w_seq (w_set (d := cntD c) (S1 := S1) ?_ rfl (by simp) ?_)
  · simp only [ev_dcall, evs_cons, evs_nil, Ex.isPk, Bool.false_and, Bool.and_false, Bool.true_and, Bool.not_true, Bool.false_eq_true, if_false, if_true, ev_var, ev_pk, owAt_succ, owAt_zero, frAt_succ, frAt_zero, ofO_some, bind_ok, ev_int, ev_bl, ev_str, ev_non, Option.map_some, e1']
  refine w_seq (w_app (d := kdD (r, c, a)) (S1 := S3) (xs := ks.map kdD) ?_ rfl rfl (by simp; omega) ?_)
  · simp only [List.set]
    simp only [ev_dcall, evs_cons, evs_nil, Ex.isPk, Bool.false_and, Bool.and_false, Bool.true_and, Bool.not_true, Bool.false_eq_true, if_false, if_true, ev_var, ev_pk, owAt_succ, owAt_zero, frAt_succ, frAt_zero, ofO_some, bind_ok, ev_int, ev_bl, ev_str, ev_non, Option.map_some, ev_tup, e2', e3']
    rfl
  refine w_skip ⟨(r, c, a), some (.fz (cntD c)), ⟨r0, by omega, hc, ha⟩, ?_, ((R0.trans R1).trans R2).trans R3⟩
  simp [List.set]
end
end LP.Q
namespace LP.Q
open PySem
/-! ### rims -/
def crossB (l : List Str) (r : Rid) : Bool := decide (r.1 ∈ l) != decide (r.2.1 ∈ l)
def highs (s : Shr) (l : List Str) : List Int := (s.ridges.filter (crossB l)).map (·.2.2)
def minO : List Int → Option Int
  | [] => none
  | i :: r => some (minI i r)
def rim (s : Shr) (l : List Str) : Option Int := minO (highs s l)
theorem minO_spec : ∀ (xs : List Int), (minO xs = none ↔ xs = []) ∧ ∀ m, minO xs = some m → m ∈ xs ∧ ∀ y ∈ xs, m ≤ y
  | [] => ⟨by simp [minO], fun m h => by simp [minO] at h⟩
  | i :: r => ⟨by simp [minO], fun m h => by
    simp only [minO, Option.some.injEq] at h
    subst h
    exact minI_spec r i⟩
section
variable {s : Shr} {a b : List Int} {h : Int} {l : List Str}
/-- no ridge as low as h leads out of it -/
def Shut (s : Shr) (h : Int) (l : List Str) : Prop := ∀ r ∈ s.ridges, r.2.2 ≤ h → (r.1 ∈ l ↔ r.2.1 ∈ l)
theorem cross_iff {r : Rid} : crossB l r = true ↔ ¬ (r.1 ∈ l ↔ r.2.1 ∈ l) := by
  unfold crossB
  by_cases h1 : r.1 ∈ l <;> by_cases h2 : r.2.1 ∈ l <;> simp [h1, h2]
theorem shut_rim : Shut s h l ↔ ∀ m, rim s l = some m → h < m := by
  unfold rim
  obtain ⟨e1, e2⟩ := minO_spec (highs s l)
  constructor
  · intro sh m e
    obtain ⟨hm, _⟩ := e2 m e
    unfold highs at hm
    obtain ⟨r, hr, rfl⟩ := List.mem_map.mp hm
    obtain ⟨r1, r2⟩ := List.mem_filter.mp hr
    by_cases q : r.2.2 ≤ h
    · exact absurd (sh r r1 q) (cross_iff.mp r2)
    · omega
  · intro q r hr hh
    refine Classical.byContradiction fun c => ?_
    have hm : r.2.2 ∈ highs s l := List.mem_map.mpr ⟨r, List.mem_filter.mpr ⟨hr, cross_iff.mpr c⟩, rfl⟩
    cases e : minO (highs s l) with
    | none => rw [e1.mp e] at hm; cases hm
    | some m =>
      have := q m e
      have := (e2 m e).2 _ hm
      omega
theorem shut_conn (sh : Shut s h l) {x y : Str} (hx : x ∈ l) (c : Conn s h x y) : y ∈ l := by
  induction c with
  | refl => exact hx
  | step _ e ih =>
    obtain ⟨r, hr, hh, ⟨e1, e2⟩ | ⟨e1, e2⟩⟩ := e
    · rw [← e2]
      exact (sh r hr hh).mp (by rw [e1]; exact ih)
    · rw [← e1]
      exact (sh r hr hh).mpr (by rw [e2]; exact ih)
/-- water that lets them follow stands at the rim of each lot that shows something -/
theorem rim_le (hl : ∀ x ∈ l, x ∈ s.pools) (f : followB s a b h = true) (c : inLot s a l ≠ inLot s b l) : ∃ m, rim s l = some m ∧ m ≤ h := by
  refine Classical.byContradiction fun no => c ?_
  have sh : Shut s h l := shut_rim.mpr fun m e => by
    refine Classical.byContradiction fun q => no ⟨m, e, by omega⟩
  exact closed_sum f _ l (Nat.le_refl _) hl fun x hx y _ cc => shut_conn sh hx cc
theorem comp_shut (g : Good s) {p : Str} (hp : p ∈ s.pools) : Shut s h (comp s h p) := fun r hr hh => by
  have ad : Adj s h r.1 r.2.1 := ⟨r, hr, hh, .inl ⟨rfl, rfl⟩⟩
  have hin := g.ends r hr
  rw [mem_comp, mem_comp]
  exact ⟨fun q => ⟨hin.2, q.2.trans (.one ad)⟩, fun q => ⟨hin.1, q.2.trans (.one ad.symm)⟩⟩
/-- where they don't follow a lot shows it -/
theorem shown (g : Good s) (f : followB s a b h = false) : ∃ p ∈ s.pools, inLot s a (comp s h p) ≠ inLot s b (comp s h p) ∧ ∀ m, rim s (comp s h p) = some m → h < m := by
  have : ¬ ∀ p ∈ s.pools, inLot s a (comp s h p) = inLot s b (comp s h p) := fun q => by
    rw [followB_iff.mpr q] at f
    cases f
  simp only [Classical.not_forall] at this
  obtain ⟨p, hp, q⟩ := this
  exact ⟨p, hp, q, shut_rim.mp (comp_shut g hp)⟩
theorem rim_rng (v : ∀ r ∈ s.ridges, 1 ≤ r.2.2 ∧ r.2.2 ≤ 9) {m : Int} (e : rim s l = some m) : 1 ≤ m ∧ m ≤ 9 := by
  obtain ⟨hm, _⟩ := (minO_spec (highs s l)).2 m e
  unfold highs at hm
  obtain ⟨r, hr, rfl⟩ := List.mem_map.mp hm
  exact v r (List.mem_filter.mp hr).1
/-- all lots of pools, shorter ones of the first ones first -/
def subs : List Str → List (List Str) → List (List Str)
  | [], f => f
  | p :: ps, f => subs ps (f ++ f.map fun l => l ++ [p])
theorem subs_mem : ∀ (ps : List Str) (f : List (List Str)) (l : List Str), l ∈ subs ps f ↔ ∃ k ∈ f, ∃ t, t.Sublist ps ∧ l = k ++ t
  | [], f, l => by
    simp only [subs, List.sublist_nil]
    constructor
    · exact fun h => ⟨l, h, [], rfl, by simp⟩
    · rintro ⟨k, hk, t, rfl, rfl⟩
      simpa using hk
  | p :: ps, f, l => by
    rw [subs, subs_mem ps]
    constructor
    · rintro ⟨k, hk, t, ht, rfl⟩
      obtain hk | hk := List.mem_append.mp hk
      · exact ⟨k, hk, t, ht.cons p, rfl⟩
      · obtain ⟨k', hk', rfl⟩ := List.mem_map.mp hk
        exact ⟨k', hk', p :: t, ht.cons_cons p, by simp⟩
    · rintro ⟨k, hk, t, ht, rfl⟩
      cases ht with
      | cons _ ht => exact ⟨k, List.mem_append_left _ hk, _, ht, rfl⟩
      | cons_cons _ ht => exact ⟨k ++ [p], List.mem_append_right _ (List.mem_map.mpr ⟨k, hk, rfl⟩), _, ht, by simp⟩
theorem subs_head : ∀ (ps : List Str) (f : List (List Str)) (k : List Str), ∃ r, subs ps (k :: f) = k :: r
  | [], f, k => ⟨f, rfl⟩
  | p :: ps, f, k => by
    rw [subs]
    exact subs_head ps _ k
def sets (ps : List Str) : List (List Str) := (subs ps [[]]).tail
theorem sets_mem {ps l : List Str} (h : l ∈ sets ps) : l.Sublist ps := by
  have : l ∈ subs ps [[]] := List.mem_of_mem_tail h
  obtain ⟨k, hk, t, ht, rfl⟩ := (subs_mem ps [[]] l).mp this
  cases List.mem_singleton.mp hk
  simpa using ht
theorem subs_nonempty : ∀ (ps : List Str) (f : List (List Str)), (∀ l ∈ f, l ≠ []) → ∀ l ∈ subs ps f, l ≠ []
  | [], f, h, l, hl => h l hl
  | p :: ps, f, h, l, hl => subs_nonempty ps _ (fun k hk => by
    obtain hk | hk := List.mem_append.mp hk
    · exact h k hk
    · obtain ⟨k', _, rfl⟩ := List.mem_map.mp hk
      simp) l hl
theorem subs_tail : ∀ (ps : List Str) (f : List (List Str)), (∀ l ∈ f, l ≠ []) → ∃ r, subs ps ([] :: f) = [] :: r ∧ ∀ l ∈ r, l ≠ []
  | [], f, h => ⟨f, rfl, h⟩
  | p :: ps, f, h => by
    rw [subs]
    refine subs_tail ps (f ++ ([] :: f).map fun l => l ++ [p]) fun l hl => ?_
    obtain hl | hl := List.mem_append.mp hl
    · exact h l hl
    · obtain ⟨k', _, rfl⟩ := List.mem_map.mp hl
      simp
theorem sets_ne {ps l : List Str} (h : l ∈ sets ps) : l ≠ [] := by
  obtain ⟨r, e, q⟩ := subs_tail ps [] fun _ z => (nomatch z)
  unfold sets at h
  rw [e] at h
  exact q l h
theorem mem_sets {ps l : List Str} (h : l.Sublist ps) (hn : l ≠ []) : l ∈ sets ps := by
  have : l ∈ subs ps [[]] := (subs_mem ps [[]] l).mpr ⟨[], .head _, l, h, by simp⟩
  obtain ⟨r, e⟩ := subs_head ps [] []
  unfold sets
  rw [e] at this ⊢
  obtain rfl | this := List.mem_cons.mp this
  · exact absurd rfl hn
  · exact this
theorem subs_len : ∀ (ps : List Str) (f : List (List Str)), (subs ps f).length = f.length * 2 ^ ps.length
  | [], f => by simp [subs]
  | p :: ps, f => by
    rw [subs, subs_len ps, List.length_append, List.length_map, List.length_cons, Nat.pow_succ]
    have : f.length + f.length = f.length * 2 := by omega
    rw [this, Nat.mul_assoc, Nat.mul_comm 2]
theorem comp_set (g : Good s) {p : Str} (hp : p ∈ s.pools) : comp s h p ∈ sets s.pools := by
  refine mem_sets ?_ fun e => ?_
  · unfold comp
    exact List.filter_sublist
  · have : p ∈ comp s h p := mem_comp.mpr ⟨hp, .refl⟩
    rw [e] at this
    cases this
def chgB (s : Shr) (a b : List Int) (l : List Str) : Bool := !decide (inLot s a l = inLot s b l)
def rims (s : Shr) (a b : List Int) (ls : List (List Str)) : List (Option Int) := (ls.filter (chgB s a b)).map (rim s)
theorem chg_iff {l : List Str} : chgB s a b l = true ↔ inLot s a l ≠ inLot s b l := by simp [chgB]
def maxO (os : List (Option Int)) : Option Int := if none ∈ os then none else some (mx (os.map fun o => o.getD 0))
/-- the least height is the greatest rim -/
theorem least_rims (g : Good s) (v : ∀ r ∈ s.ridges, 1 ≤ r.2.2 ∧ r.2.2 ≤ 9) : leastN s a b = maxO (rims s a b (sets s.pools)) := by
  have each : ∀ h, followB s a b h = true → ∀ o ∈ rims s a b (sets s.pools), ∃ m, o = some m ∧ m ≤ h := fun h f o ho => by
    obtain ⟨l, hl, rfl⟩ := List.mem_map.mp ho
    obtain ⟨l1, l2⟩ := List.mem_filter.mp hl
    exact rim_le (fun x hx => (sets_mem l1).subset hx) f (chg_iff.mp l2)
  have meets : ∀ h, followB s a b h = false → ∃ o ∈ rims s a b (sets s.pools), ∀ m, o = some m → h < m := fun h f => by
    obtain ⟨p, hp, c, q⟩ := shown g f
    exact ⟨_, List.mem_map.mpr ⟨_, List.mem_filter.mpr ⟨comp_set g hp, chg_iff.mpr c⟩, rfl⟩, q⟩
  have rng : ∀ o ∈ rims s a b (sets s.pools), ∀ m, o = some m → 1 ≤ m ∧ m ≤ 9 := fun o ho m e => by
    obtain ⟨l, _, rfl⟩ := List.mem_map.mp ho
    exact rim_rng v e
  have thrE : ∀ h, 0 ≤ h → h ≤ 9 → (followB s a b h = true ↔ thr (leastN s a b) ≤ h) := fun h => least_thr
  unfold maxO
  cases e : leastN s a b with
  | none =>
    have f9 : followB s a b 9 = false := by
      cases q : followB s a b 9 with
      | false => rfl
      | true =>
        have := (thrE 9 (by decide) (by decide)).mp q
        rw [e] at this
        simp [thr] at this
    obtain ⟨o, ho, q⟩ := meets 9 f9
    have on : o = none := by
      cases o with
      | none => rfl
      | some m =>
        have := rng _ ho m rfl
        have := q m rfl
        omega
    rw [if_pos (on ▸ ho)]
  | some k =>
    have kr := first_rng (p := fun h => followB s a b h) e
    have nn : none ∉ rims s a b (sets s.pools) := fun hn => by
      obtain ⟨m, q, _⟩ := each k kr.2.2 none hn
      cases q
    rw [if_neg nn]
    congr 1
    have up : mx ((rims s a b (sets s.pools)).map fun o => o.getD 0) ≤ k := (mx_le kr.1).mpr fun x hx => by
      obtain ⟨o, ho, rfl⟩ := List.mem_map.mp hx
      obtain ⟨m, rfl, q⟩ := each k kr.2.2 o ho
      exact q
    refine Int.le_antisymm ?_ up
    by_cases k0 : k = 0
    · rw [k0]; exact mx_nonneg _
    · have fl : followB s a b (k - 1) = false := by
        cases q : followB s a b (k - 1) with
        | false => rfl
        | true =>
          have := (thrE (k - 1) (by omega) (by omega)).mp q
          rw [e] at this
          simp [thr] at this
          omega
      obtain ⟨o, ho, q⟩ := meets _ fl
      obtain ⟨m, rfl, _⟩ := each k kr.2.2 o ho
      have h1 := q m rfl
      have h2 : m ≤ mx ((rims s a b (sets s.pools)).map fun o => o.getD 0) := (mx_le (mx_nonneg _)).mp (Int.le_refl _) _ (List.mem_map.mpr ⟨some m, ho, rfl⟩)
      omega
end
end LP.Q
namespace LP.Q
open PySem
/-! ### rims, lots of pools, as the program and the law tell them -/
section
variable {Γ : Gam} {ρ : Fr} {S : Sto}
@[simp] theorem ev_mind {a : Ex} : ev Γ (.mind a) ρ S = (ev Γ a ρ S).bind fun x S => LP.ofO (minND x) S := by rw [ev]
end
theorem minND_ints {xs : List Int} : minND (.lst (xs.map .int)) = some (optD (minO xs)) := by
  have e : toInts (xs.map D.int) = some xs := by
    have := toInts_map (fun x : Int => x) xs
    simpa using this
  show (toInts (xs.map D.int)).map _ = _
  rw [e]
  cases xs <;> rfl
section
variable {P : Prg} {s : Shr} {S : Sto} {n : Nat}
theorem high_comp {Γ : Gam} {x2 : Option Sl} {w3 w4 w5 : Option Sl} (g : Good s) (l : List Str) : ev Γ (.comp [("one", 3), ("other", 4), ("high", 5)] (.var 5) (.tcons (.name 3) (.tcons (.name 4) (.tcons (.name 5) .tnil))) (.walk (.ix (.var 0) (.int 1))) (.part (.cmp .ne (.cmp .inn (.var 3) (.var 1)) (.cmp .inn (.var 4) (.var 1)))))
    [some (.fz s.d), some (.fz (lotD l)), x2, w3, w4, w5] S = .ok (.lst ((highs s l).map .int)) S := by
  rw [ev_compF eR (crossB l) (fun r => .int r.2.2) s.ridges ?_ rfl (by have := g.nr; omega) ?_]
  · unfold highs
    rw [List.map_map]
    rfl
  · simp [Ex.isPk, Shr.d]
  · intro r hr
    refine ⟨[some (.fz s.d), some (.fz (lotD l)), x2, some (.fz (.str r.1)), some (.fz (.str r.2.1)), some (.fz (.int r.2.2))], by simp [wipeF, eR], ?_, fun _ => by simp⟩
    simp [lotD, inn_tup, crossB]
theorem rim_of_eq (H : Has P c_rim_of k_rim_of) (g : Good s) (l : List Str) : call P (n + 1) i_rim_of [s.d, lotD l] S = .ok (optD (rim s l)) S := by
  rw [H.run (d := d_rim_of) (by decide) rfl rfl]
  have e := fun x2 w3 w4 w5 => high_comp (Γ := ⟨P.con, call P n⟩) (S := S) (x2 := x2) (w3 := w3) (w4 := w4) (w5 := w5) g l
  simp [d_rim_of, startF, Ex.isPk]
  rw [e]
  simp [minND_ints, rim]
theorem law_rim_eq (H : Has P c__law_rim k__law_rim) (g : Good s) (l : List Str) : call P (n + 1) i__law_rim [s.d, lotD l] S = .ok (optD (rim s l)) S := by
  rw [H.run (d := d__law_rim) (by decide) rfl rfl]
  have e := fun x2 w3 w4 w5 => high_comp (Γ := ⟨P.con, call P n⟩) (S := S) (x2 := x2) (w3 := w3) (w4 := w4) (w5 := w5) g l
  simp [d__law_rim, startF, Ex.isPk]
  rw [e]
  simp [ne_ints]
  unfold rim
  generalize highs s l = xs
  cases xs with
  | nil => simp [minO, optD]
  | cons i r =>
    have : blt .min [.lst (D.int i :: r.map D.int)] S = some (.int (minI i r)) := by
      show (toInts (r.map D.int)).map (fun ns => D.int (minI i ns)) = _
      have := toInts_map (fun x : Int => x) r
      simp at this
      rw [this]
      rfl
    simp [this, minO, optD]
/-- a lot of pools -/
structure LotOk (s : Shr) (l : List Str) : Prop where
  ne : l ≠ []
  sub : ∀ x ∈ l, x ∈ s.pools
  rise : Rises sLt l
  few : l.length ≤ 1000
theorem set_ok (g : Good s) {l : List Str} (h : l ∈ sets s.pools) : LotOk s l :=
  ⟨sets_ne h, fun x hx => (sets_mem h).subset hx, g.rise.sublist (sets_mem h), Nat.le_trans (sets_mem h).length_le g.np⟩
theorem is_lot_comp {Γ : Gam} (H : ∀ x, Γ.fn 3 [.tup (s.pools.map .str), .str x] S = .ok (.bl (decide (x ∈ s.pools))) S) (l : List Str) (hl : l.length ≤ 1000) (w2 : Option Sl) : ev Γ (.comp [("one", 2)] (.dcall 3 (.cons (.ix (.var 0) (.int 0)) (.cons (.var 2) .nil))) (.name 2) (.walk (.var 1)) .nop)
    [some (.fz s.d), some (.fz (lotD l)), w2] S = .ok (.lst (l.map fun x => .bl (decide (x ∈ s.pools)))) S := by
  rw [ev_compA D.str (fun x => .bl (decide (x ∈ s.pools))) l ?_ rfl (by omega) ?_]
  · simp [Ex.isPk, lotD]
  · intro x hx
    refine ⟨[some (.fz s.d), some (.fz (lotD l)), some (.fz (.str x))], by simp [wipeF], by simp, ?_⟩
    have i0 : ixD s.d (.int 0) S = some (.tup (s.pools.map .str)) := by unfold Shr.d; simp
    simp only [ev_dcall, evs_cons, evs_nil, Ex.isPk, Bool.false_and, Bool.and_false, Bool.true_and, Bool.not_true, Bool.false_eq_true, if_false, if_true, ev_var, ev_pk, owAt_succ, owAt_zero, frAt_succ, frAt_zero, ofO_some, bind_ok, ev_int, ev_bl, ev_str, ev_non, Option.map_some, ev_ix, i0, H]
def lotB (s : Shr) (l : List Str) : Bool := !l.isEmpty && (l.all fun x => decide (x ∈ s.pools)) && adjB sLt l
theorem is_lot_eq (H : Has P c_is_lot k_is_lot) (g : Good s) {l : List Str} (hl : l.length ≤ 1000) (ok : ∀ x ∈ l, sOk x = true) : call P (n + 2) i_is_lot [s.d, lotD l] S = .ok (.bl (lotB s l)) S := by
  rw [H.run (d := d_is_lot) (by decide) rfl rfl]
  have ip : ∀ x, call P (n + 1) 3 [.tup (s.pools.map .str), .str x] S = .ok (.bl (decide (x ∈ s.pools))) S := fun x => is_pool_eq (n := n) (S := S) (H.mono (by decide) (by decide))
  have ec := fun w2 => is_lot_comp (Γ := ⟨P.con, call P (n + 1)⟩) (s := s) (S := S) ip l hl w2
  have er : call P (n + 1) 2 [lotD l] S = .ok (.bl (adjB sLt l)) S := rise_tup (n := n) (S := S) (H.mono (by decide) (by decide)) D.str sLt l (fun x _ y _ => lt_strs) (by omega)
  have en : cmpD .eq (lotD l) (.tup []) = some l.isEmpty := by
    rw [eqD_ok ((nice_lot ok).eqOk (nice_tup (n := 0) (xs := []) fun y hy => by simp at hy) (by decide) (by decide))]
    unfold lotD
    rw [eq_nil_tup]
    simp
  have it : isi (lotD l) .tuple = some true := rfl
  have al := all_map (S := S) (fun x => decide (x ∈ s.pools)) l
  unfold lotB
  cases hE : l.isEmpty with
  | true =>
    rw [hE] at en
    simp [d_is_lot, startF, Ex.isPk, lim, it, en]
  | false =>
    rw [hE] at en
    simp [d_is_lot, startF, Ex.isPk, lim, it, en]
    rw [ec]
    cases q : l.all fun x => decide (x ∈ s.pools) with
    | true =>
      rw [q] at al
      simp [al, er]
    | false =>
      rw [q] at al
      simp [al]
theorem lot_true (g : Good s) {l : List Str} (h : LotOk s l) : lotB s l = true := by
  unfold lotB
  rw [adj_rises h.rise, Bool.and_true, Bool.and_eq_true]
  refine ⟨?_, List.all_eq_true.mpr fun x hx => decide_eq_true (h.sub x hx)⟩
  cases l with
  | nil => exact absurd rfl h.ne
  | cons a r => rfl
theorem shown_by_eq (H : Has P c_shown_by k_shown_by) (v : Val s) {a b : List Int} (ha : Cnt s a) (hb : Cnt s b) {l : List Str} (h : LotOk s l) :
    call P (n + 6) i_shown_by [s.d, cntD a, cntD b, lotD l] S = if chgB s a b l = true then .ok (optD (rim s l)) S else .ex "BadLot" S := by
  rw [H.run (d := d_shown_by) (by decide) rfl rfl]
  have g := v.good
  have e1 : call P (n + 5) 18 [s.d, cntD a, cntD b] S = .ok .non S := need_both_ok (n := n) (S := S) (H.mono (by decide) (by decide)) v ha hb
  have e2 : call P (n + 5) 54 [s.d, lotD l] S = .ok (.bl (lotB s l)) S := is_lot_eq (n := n + 3) (S := S) (H.mono (by decide) (by decide)) g h.few fun x hx => g.ok x (h.sub x hx)
  have e3 : call P (n + 5) 19 [s.d, cntD a, cntD b, lotD l] S = .ok (.bl (chgB s a b l)) S := is_changed_eq (n := n + 3) (S := S) (H.mono (by decide) (by decide)) g a b l
  have e4 : call P (n + 5) 55 [s.d, lotD l] S = .ok (optD (rim s l)) S := rim_of_eq (n := n + 4) (S := S) (H.mono (by decide) (by decide)) g l
  rw [lot_true g h] at e2
  simp [d_shown_by, startF, Ex.isPk, e1, e2, e3, e4]
  cases chgB s a b l <;> simp
theorem shown_by_no (H : Has P c_shown_by k_shown_by) (v : Val s) {a b : List Int} (ha : Cnt s a) (hb : Cnt s b) {x : D} (h : call P (n + 5) i_is_lot [s.d, x] S = .ok (.bl false) S) :
    call P (n + 6) i_shown_by [s.d, cntD a, cntD b, x] S = .ex "BadLot" S := by
  rw [H.run (d := d_shown_by) (by decide) rfl rfl]
  have e1 : call P (n + 5) 18 [s.d, cntD a, cntD b] S = .ok .non S := need_both_ok (n := n) (S := S) (H.mono (by decide) (by decide)) v ha hb
  have e2 : call P (n + 5) 54 [s.d, x] S = .ok (.bl false) S := h
  simp [d_shown_by, startF, Ex.isPk, e1, e2]
theorem least_of_night_eq (H : Has P c_least_of_night k_least_of_night) (g : Good s) (a b : List Int) : call P (n + 5) i_least_of_night [s.d, cntD a, cntD b] S = .ok (optD (leastN s a b)) S := by
  rw [H.run (d := d_least_of_night) (by decide) rfl rfl]
  have hh := H.con (x := "HIGHEST") (by decide) rfl
  simp [d_least_of_night, startF, Ex.isPk]
  rw [ev_compF D.int (fun h => followB s a b h) D.int tenI ?_ rfl (by decide) ?_]
  · unfold leastN
    generalize tenI.filter (fun h => followB s a b h) = xs
    simp [ne_ints]
    cases xs <;> simp [optD]
  · simp [Ex.isPk, hh, rng10]
  · intro h hh'
    refine ⟨[some (.fz s.d), some (.fz (cntD a)), some (.fz (cntD b)), none, some (.fz (.int h))], by simp [wipeF], ?_, fun _ => by simp⟩
    simp [Ex.isPk, does_follow_eq (n := n) (S := S) (H.mono (by decide) (by decide)) g]
theorem least_height_eq (H : Has P c_least_height k_least_height) (v : Val s) {a b : List Int} (ha : Cnt s a) (hb : Cnt s b) : call P (n + 6) i_least_height [s.d, cntD a, cntD b] S = .ok (optD (leastN s a b)) S := by
  rw [H.run (d := d_least_height) (by decide) rfl rfl]
  have e1 : call P (n + 5) 18 [s.d, cntD a, cntD b] S = .ok .non S := need_both_ok (n := n) (S := S) (H.mono (by decide) (by decide)) v ha hb
  have e2 : call P (n + 5) 23 [s.d, cntD a, cntD b] S = .ok (optD (leastN s a b)) S := least_of_night_eq (n := n) (S := S) (H.mono (by decide) (by decide)) v.good a b
  simp [d_least_height, startF, Ex.isPk, e1, e2]
def lotO : Option (List Str) → D
  | none => .non
  | some l => lotD l
theorem ne_lots {ls : List (List Str)} (h : ∀ l ∈ ls, ∀ x ∈ l, sOk x = true) : cmpD .ne (.lst (ls.map lotD)) (.lst []) = some (!ls.isEmpty) := by
  rw [ne_nil (n := 1) (fun x hx => ?_) (by decide)]
  · simp
  · obtain ⟨l, hl, rfl⟩ := List.mem_map.mp hx
    exact nice_lot (h l hl)
theorem changed_ok (g : Good s) (a b : List Int) (h : Int) : ∀ l ∈ changed s a b h, LotOk s l := fun l hl => by
  obtain ⟨p, hp, rfl⟩ := mem_lots.mp (List.mem_filter.mp hl).1
  exact set_ok g (comp_set g hp)
theorem changed_sok (g : Good s) (a b : List Int) (h : Int) : ∀ l ∈ changed s a b h, ∀ x ∈ l, sOk x = true := fun l hl x hx => g.ok x ((changed_ok g a b h l hl).sub x hx)
theorem changed_lot_eq (H : Has P c_changed_lot k_changed_lot) (v : Val s) {a b : List Int} (ha : Cnt s a) (hb : Cnt s b) {h : Int} (h0 : 0 ≤ h) (h9 : h ≤ 9) : call P (n + 6) i_changed_lot [s.d, cntD a, cntD b, .int h] S = .ok (lotO (changed s a b h).head?) S := by
  rw [H.run (d := d_changed_lot) (by decide) rfl rfl]
  have e1 : call P (n + 5) 18 [s.d, cntD a, cntD b] S = .ok .non S := need_both_ok (n := n) (S := S) (H.mono (by decide) (by decide)) v ha hb
  have e2 : call P (n + 5) 7 [.int h] S = .ok .non S := need_height_ok (n := n + 3) (S := S) (H.mono (by decide) (by decide)) h0 h9
  have e3 : call P (n + 5) 20 [s.d, cntD a, cntD b, .int h] S = .ok (.lst ((changed s a b h).map lotD)) S := all_changed_eq (n := n + 2) (S := S) (H.mono (by decide) (by decide)) v.good a b h
  have e4 := ne_lots (changed_sok v.good a b h)
  simp [d_changed_lot, startF, Ex.isPk, e1, e2, e3, lim, e4]
  cases changed s a b h <;> simp [lotO]
end
end LP.Q
namespace LP.Q
open PySem
/-! ### which lot shows the least height -/
section
variable {s : Shr} {a b : List Int}
theorem sum_one {p : Str} {x : Int} : ∀ (ps : List Str) (c : List Int), p ∉ ps → ((((p, x) :: ps.zip c).filter fun q => decide (q.1 ∈ [p])).map (·.2)).sum = x := fun ps c hp => by
  have e : ((ps.zip c).filter fun q => decide (q.1 ∈ [p])) = [] := List.filter_eq_nil_iff.mpr fun q hq => by
    have := (List.of_mem_zip hq).1
    simp only [List.mem_singleton, decide_eq_true_eq]
    exact fun e => hp (e ▸ this)
  rw [List.filter_cons_of_pos (by simp), e]
  simp
theorem counts_eq : ∀ (ps : List Str) (c d : List Int), ps.Nodup → c.length = ps.length → d.length = ps.length →
    (∀ p ∈ ps, (((ps.zip c).filter fun q => decide (q.1 ∈ [p])).map (·.2)).sum = (((ps.zip d).filter fun q => decide (q.1 ∈ [p])).map (·.2)).sum) → c = d
  | [], c, d, _, h1, h2, _ => by
    rw [List.eq_nil_of_length_eq_zero h1, List.eq_nil_of_length_eq_zero h2]
  | p :: ps, [], _, _, h1, _, _ => by simp at h1
  | p :: ps, _ :: _, [], _, _, h2, _ => by simp at h2
  | p :: ps, x :: c, y :: d, nd, h1, h2, h => by
    have ⟨n1, n2⟩ := List.nodup_cons.mp nd
    have e1 := h p (.head _)
    rw [List.zip_cons_cons, List.zip_cons_cons, sum_one ps c n1, sum_one ps d n1] at e1
    have e2 := counts_eq ps c d n2 (by simpa using h1) (by simpa using h2) fun q hq => by
      have := h q (.tail _ hq)
      have ne : ¬ p = q := fun e => n1 (e ▸ hq)
      rw [List.zip_cons_cons, List.zip_cons_cons, List.filter_cons_of_neg (by simpa using ne), List.filter_cons_of_neg (by simpa using ne)] at this
      exact this
    rw [e1, e2]
theorem conn_zero (v : Val s) {p q : Str} (c : Conn s 0 p q) : q = p := by
  induction c with
  | refl => rfl
  | step _ e _ =>
    obtain ⟨r, hr, hh, _⟩ := e
    have := v.rid r hr
    have := this.2.2.2.1
    omega
theorem follow_zero (v : Val s) (ha : Cnt s a) (hb : Cnt s b) (f : followB s a b 0 = true) : a = b := by
  have g := v.good
  refine counts_eq s.pools a b (g.rise.nodup sLt_sto) ha.len hb.len fun p hp => ?_
  have e := followB_iff.mp f p hp
  have key : ∀ c : List Int, inLot s c (comp s 0 p) = (((s.pools.zip c).filter fun q => decide (q.1 ∈ [p])).map (·.2)).sum := fun c => by
    unfold inLot
    congr 2
    apply List.filter_congr; intro q hq
    have hq' := (List.of_mem_zip hq).1
    rw [Bool.eq_iff_iff, decide_eq_true_iff, decide_eq_true_iff, mem_comp, List.mem_singleton]
    exact ⟨fun z => conn_zero v z.2, fun z => ⟨hq', z ▸ .refl⟩⟩
  rw [key, key] at e
  exact e
theorem heights_in (v : Val s) : ∀ r ∈ s.ridges, 1 ≤ r.2.2 ∧ r.2.2 ≤ 9 := fun r hr => by
  have := v.rid r hr
  exact ⟨this.2.2.2.1, this.2.2.2.2⟩
noncomputable def hStar (s : Shr) (a b : List Int) : Int := match leastN s a b with
  | none => 9
  | some k => k - 1
theorem lot_shows (v : Val s) (ha : Cnt s a) (hb : Cnt s b) (ne : a ≠ b) : ∃ l ls, changed s a b (hStar s a b) = l :: ls ∧ rim s l = leastN s a b ∧ chgB s a b l = true ∧ LotOk s l := by
  have g := v.good
  have hv := heights_in v
  have nf : followB s a b (hStar s a b) = false := by
    cases q : followB s a b (hStar s a b) with
    | false => rfl
    | true =>
      exfalso
      unfold hStar at q
      cases e : leastN s a b with
      | none =>
        rw [e] at q
        have := (least_thr (s := s) (a := a) (b := b) (h := 9) (by decide) (by decide)).mp q
        rw [e] at this
        simp [thr] at this
      | some k =>
        rw [e] at q
        have kr := first_rng (p := fun h => followB s a b h) e
        by_cases k0 : k = 0
        · subst k0
          exact ne (follow_zero v ha hb kr.2.2)
        · have := (least_thr (s := s) (a := a) (b := b) (h := k - 1) (by omega) (by omega)).mp q
          rw [e] at this
          simp [thr] at this
          omega
  cases hc : changed s a b (hStar s a b) with
  | nil =>
    unfold followB at nf
    rw [hc] at nf
    cases nf
  | cons l ls =>
    have hl : l ∈ changed s a b (hStar s a b) := by rw [hc]; exact .head _
    have lok := changed_ok g a b _ l hl
    have cg : chgB s a b l = true := (List.mem_filter.mp hl).2
    obtain ⟨p, hp, el⟩ := mem_lots.mp (List.mem_filter.mp hl).1
    have sh : ∀ m, rim s l = some m → hStar s a b < m := by
      rw [el]
      exact shut_rim.mp (comp_shut g hp)
    refine ⟨l, ls, rfl, ?_, cg, lok⟩
    unfold hStar at sh
    cases e : leastN s a b with
    | none =>
      rw [e] at sh
      cases er : rim s l with
      | none => rfl
      | some m =>
        have := sh m er
        have := rim_rng hv er
        simp only at *
        omega
    | some k =>
      rw [e] at sh
      have kr := first_rng (p := fun h => followB s a b h) e
      obtain ⟨m, em, le⟩ := rim_le lok.sub kr.2.2 (chg_iff.mp cg)
      have := sh m em
      simp only at this
      rw [em]
      congr 1
      omega
end
section
variable {P : Prg} {s : Shr} {S : Sto} {n : Nat}
theorem nice_cnt {c : List Int} : Nice 1 (cntD c) := nice_tup (n := 0) fun y hy => by
  obtain ⟨z, _, rfl⟩ := List.mem_map.mp hy
  exact nice_int
theorem eq_cnt {a b : List Int} : cmpD .eq (cntD a) (cntD b) = some (decide (a = b)) := by
  rw [eqD_ok (nice_cnt.eqOk nice_cnt (by decide) (by decide))]
  unfold cntD
  rw [D.eq, eqs_map D.int (fun _ _ => eq_int')]
theorem ne_cnt {a b : List Int} : cmpD .ne (cntD a) (cntD b) = some (!decide (a = b)) := by
  rw [neD_ok (nice_cnt.eqOk nice_cnt (by decide) (by decide))]
  unfold cntD
  rw [D.eq, eqs_map D.int (fun _ _ => eq_int')]
theorem lot_for_same (H : Has P c_lot_for k_lot_for) (v : Val s) {a : List Int} (ha : Cnt s a) : call P (n + 6) i_lot_for [s.d, cntD a, cntD a] S = .ex "Nothing" S := by
  rw [H.run (d := d_lot_for) (by decide) rfl rfl]
  have e1 : call P (n + 5) 18 [s.d, cntD a, cntD a] S = .ok .non S := need_both_ok (n := n) (S := S) (H.mono (by decide) (by decide)) v ha ha
  simp [d_lot_for, startF, Ex.isPk, e1, eq_cnt]
theorem lot_for_eq (H : Has P c_lot_for k_lot_for) (v : Val s) {a b : List Int} (ha : Cnt s a) (hb : Cnt s b) (ne : a ≠ b) {l : List Str} {ls : List (List Str)} (hc : changed s a b (hStar s a b) = l :: ls) : call P (n + 6) i_lot_for [s.d, cntD a, cntD b] S = .ok (lotD l) S := by
  rw [H.run (d := d_lot_for) (by decide) rfl rfl]
  have hh := H.con (x := "HIGHEST") (by decide) rfl
  have e1 : call P (n + 5) 18 [s.d, cntD a, cntD b] S = .ok .non S := need_both_ok (n := n) (S := S) (H.mono (by decide) (by decide)) v ha hb
  have e2 : call P (n + 5) 23 [s.d, cntD a, cntD b] S = .ok (optD (leastN s a b)) S := least_of_night_eq (n := n) (S := S) (H.mono (by decide) (by decide)) v.good a b
  have e3 : call P (n + 5) 20 [s.d, cntD a, cntD b, .int (hStar s a b)] S = .ok (.lst ((changed s a b (hStar s a b)).map lotD)) S := all_changed_eq (n := n + 2) (S := S) (H.mono (by decide) (by decide)) v.good a b _
  rw [hc] at e3
  simp [d_lot_for, startF, Ex.isPk, e1, eq_cnt, ne, e2]
  unfold hStar at e3
  cases q : leastN s a b with
  | none =>
    rw [q] at e3
    simp only at e3
    simp [optD, hh, e3]
  | some k =>
    rw [q] at e3
    simp only at e3
    simp [optD, e3]
theorem is_pool_no (H : Has P c_is_pool k_is_pool) {x y : D} (h : isi x .str = some false) : call P (n + 1) i_is_pool [y, x] S = .ok (.bl false) S := by
  rw [H.run (d := d_is_pool) (by decide) rfl rfl]
  simp [d_is_pool, startF, Ex.isPk, h]
theorem is_lot_no (H : Has P c_is_lot k_is_lot) {x : D} (h : isi x .tuple = some false) : call P (n + 2) i_is_lot [s.d, x] S = .ok (.bl false) S := by
  rw [H.run (d := d_is_lot) (by decide) rfl rfl]
  simp [d_is_lot, startF, Ex.isPk, h]
theorem is_lot_none (H : Has P c_is_lot k_is_lot) : call P (n + 2) i_is_lot [s.d, .tup [.non]] S = .ok (.bl false) S := by
  rw [H.run (d := d_is_lot) (by decide) rfl rfl]
  have ip : call P (n + 1) 3 [.tup (s.pools.map .str), .non] S = .ok (.bl false) S := is_pool_no (n := n) (S := S) (H.mono (by decide) (by decide)) rfl
  have i0 : ixD s.d (.int 0) S = some (.tup (s.pools.map .str)) := by unfold Shr.d; simp
  have ec : ∀ w : Option Sl, ev ⟨P.con, call P (n + 1)⟩ (.comp [("one", 2)] (.dcall 3 (.cons (.ix (.var 0) (.int 0)) (.cons (.var 2) .nil))) (.name 2) (.walk (.var 1)) .nop) [some (.fz s.d), some (.fz (.tup [.non])), w] S = .ok (.lst [.bl false]) S := fun w => by
    rw [ev_compA (fun _ : Unit => .non) (fun _ => .bl false) [()] ?_ rfl (by simp) ?_]
    · rfl
    · simp [Ex.isPk]
    · intro k hm
      refine ⟨[some (.fz s.d), some (.fz (.tup [.non])), some (.fz .non)], by simp [wipeF], by simp, ?_⟩
      simp only [ev_dcall, evs_cons, evs_nil, Ex.isPk, Bool.false_and, Bool.and_false, Bool.true_and, Bool.not_true, Bool.false_eq_true, if_false, if_true, ev_var, ev_pk, owAt_succ, owAt_zero, frAt_succ, frAt_zero, ofO_some, bind_ok, ev_int, ev_bl, ev_str, ev_non, Option.map_some, ev_ix, i0, ip]
  have en : cmpD .eq (.tup [.non]) (.tup []) = some false := by
    rw [eqD_ok ((nice_tup (n := 0) (xs := [.non]) fun y hy => by simp at hy; subst hy; exact nice_non).eqOk (nice_tup (n := 0) (xs := []) fun y hy => by simp at hy) (by decide) (by decide)), eq_nil_tup]
    rfl
  have ea : blt .all [.lst [.bl false]] S = some (.bl false) := rfl
  simp [d_is_lot, startF, Ex.isPk, lim, en]
  rw [ec]
  simp [ea]
theorem law_sets_eq (H : Has P c__law_sets k__law_sets) {ps : List Str} (hp : ps.length ≤ 6) : call P (n + 1) i__law_sets [.tup (ps.map .str)] S = .ok (.lst ((sets ps).map lotD)) S := by
  have big : ∀ (qs : List Str) (f : List (List Str)), f.length ≤ (subs qs f).length := fun qs f => by
    rw [subs_len]
    exact Nat.le_mul_of_pos_right _ (Nat.two_pow_pos _)
  have all64 : (subs ps [[]]).length ≤ 64 := by
    rw [subs_len]
    have : 2 ^ ps.length ≤ 2 ^ 6 := Nat.pow_le_pow_right (by decide) hp
    simpa using this
  obtain ⟨r, S', e, hr, rfl⟩ : ∃ r S', call P (n + 1) i__law_sets [.tup (ps.map .str)] S = .ok r S' ∧ r = .lst ((sets ps).map lotD) ∧ S' = S := by
    refine w_call (R := fun r S' => r = .lst ((sets ps).map lotD) ∧ S' = S) H (d := d__law_sets) (by decide) rfl rfl ?_
    refine w_seq (w_set (d := .lst [lotD []]) (S1 := S) ?_ rfl (by simp [startF, d__law_sets]) ?_)
    · simp only [ev_dcall, evs_cons, evs_nil, Ex.isPk, Bool.false_and, Bool.and_false, Bool.true_and, Bool.not_true, Bool.false_eq_true, if_false, if_true, ev_var, ev_pk, owAt_succ, owAt_zero, frAt_succ, frAt_zero, ofO_some, bind_ok, ev_int, ev_bl, ev_str, ev_non, Option.map_some, ev_lst, ev_tup]
      rfl
    refine w_seq (w_for (fun ts ρ S' => ∃ (qs : List Str) (f : List (List Str)) (w2 w3 : Option Sl), S' = S ∧ ts = qs.map .str ∧ subs qs f = subs ps [[]] ∧ ρ = [some (.fz (.tup (ps.map .str))), some (.fz (.lst (f.map lotD))), w2, w3]) (xs := ps.map .str) (S1 := S) ?_ (by simp; omega) ?_ ?_ ?_)
    · show evi _ _ [some (.fz (.tup (ps.map .str))), some (.fz (.lst [lotD []])), none, none] S = _
      simp only [ev_dcall, evs_cons, evs_nil, Ex.isPk, Bool.false_and, Bool.and_false, Bool.true_and, Bool.not_true, Bool.false_eq_true, if_false, if_true, ev_var, ev_pk, owAt_succ, owAt_zero, frAt_succ, frAt_zero, ofO_some, bind_ok, ev_int, ev_bl, ev_str, ev_non, Option.map_some, evi_walk, walk_tup]
    · exact ⟨ps, [[]], none, none, rfl, rfl, rfl, rfl⟩
    · rintro x ts ρ S' ⟨qs, f, w2, w3, rfl, ets, es, rfl⟩
      cases qs with
      | nil => cases ets
      | cons q qs =>
        rw [List.map_cons, List.cons.injEq] at ets
        obtain ⟨rfl, rfl⟩ := ets
        have fl : f.length ≤ 64 := by
          have := big (q :: qs) f
          rw [es] at this
          omega
        refine ⟨_, bind_at (by simp), ?_⟩
        simp only [List.set]
        refine w_seq (w_set (d := .lst ((f ++ f.map fun l => l ++ [q]).map lotD)) (S1 := S') ?_ rfl (by simp) ?_)
        · have ec : ev ⟨P.con, call P n⟩ (.comp [("part", 3)] (.bin .add (.var 3) (.tup (.cons (.var 2) .nil))) (.name 3) (.walk (.var 1)) .nop) [some (.fz (.tup (ps.map .str))), some (.fz (.lst (f.map lotD))), some (.fz (.str q)), w3] S' = .ok (.lst ((f.map fun l => l ++ [q]).map lotD)) S' := by
            rw [ev_compA lotD (fun l => lotD (l ++ [q])) f ?_ rfl (by omega) ?_]
            · rw [List.map_map]; rfl
            · simp only [ev_dcall, evs_cons, evs_nil, Ex.isPk, Bool.false_and, Bool.and_false, Bool.true_and, Bool.not_true, Bool.false_eq_true, if_false, if_true, ev_var, ev_pk, owAt_succ, owAt_zero, frAt_succ, frAt_zero, ofO_some, bind_ok, ev_int, ev_bl, ev_str, ev_non, Option.map_some, evi_walk, walk_lst]
            · intro l hl
              refine ⟨[some (.fz (.tup (ps.map .str))), some (.fz (.lst (f.map lotD))), some (.fz (.str q)), some (.fz (lotD l))], by simp [wipeF], by rw [evc_nop], ?_⟩
              have l6 : l.length ≤ 5000 - 1 := by
                have hm : l ++ [] ∈ subs (q :: qs) f := (subs_mem _ _ _).mpr ⟨l, hl, [], List.nil_sublist _, rfl⟩
                rw [es] at hm
                obtain ⟨k, hk, t, ht, e⟩ := (subs_mem _ _ _).mp hm
                cases List.mem_singleton.mp hk
                have := ht.length_le
                rw [List.append_nil, List.nil_append] at e
                rw [e]
                omega
              have ad : bin .add (lotD l) (.tup [.str q]) = some (lotD (l ++ [q])) := by
                unfold lotD
                rw [add_tup (small (by simp; omega)), List.map_append]
                rfl
              have g1 : ev ⟨P.con, call P n⟩ (.tup (.cons (.var 2) .nil)) [some (.fz (.tup (ps.map .str))), some (.fz (.lst (f.map lotD))), some (.fz (.str q)), some (.fz (lotD l))] S' = .ok (.tup [.str q]) S' := by
                simp only [ev_dcall, evs_cons, evs_nil, Ex.isPk, Bool.false_and, Bool.and_false, Bool.true_and, Bool.not_true, Bool.false_eq_true, if_false, if_true, ev_var, ev_pk, owAt_succ, owAt_zero, frAt_succ, frAt_zero, ofO_some, bind_ok, ev_int, ev_bl, ev_str, ev_non, Option.map_some, ev_tup]
                rfl
              simp only [ev_dcall, evs_cons, evs_nil, Ex.isPk, Bool.false_and, Bool.and_false, Bool.true_and, Bool.not_true, Bool.false_eq_true, if_false, if_true, ev_var, ev_pk, owAt_succ, owAt_zero, frAt_succ, frAt_zero, ofO_some, bind_ok, ev_int, ev_bl, ev_str, ev_non, Option.map_some, ev_bin, g1, ad]
          have ad2 := add_lst (xs := f.map lotD) (ys := (f.map fun l => l ++ [q]).map lotD) (small (by simp; omega))
          simp only [ev_dcall, evs_cons, evs_nil, Ex.isPk, Bool.false_and, Bool.and_false, Bool.true_and, Bool.not_true, Bool.false_eq_true, if_false, if_true, ev_var, ev_pk, owAt_succ, owAt_zero, frAt_succ, frAt_zero, ofO_some, bind_ok, ev_int, ev_bl, ev_str, ev_non, Option.map_some, ev_bin, ec, ad2]
          rw [List.map_append]
        exact w_skip ⟨qs, _, _, _, rfl, rfl, es, rfl⟩
    rintro ρ S' ⟨qs, f, w2, w3, rfl, ets, es, rfl⟩
    cases qs with
    | cons q qs => cases ets
    | nil =>
      rw [subs] at es
      subst es
      refine w_seq (w_ret (d := .lst ((sets ps).map lotD)) (S1 := S') ?_ rfl ⟨rfl, rfl⟩)
      have := sl_tail_lst (xs := (subs ps [[]]).map lotD)
      rw [← List.map_tail] at this
      simp only [ev_dcall, evs_cons, evs_nil, Ex.isPk, Bool.false_and, Bool.and_false, Bool.true_and, Bool.not_true, Bool.false_eq_true, if_false, if_true, ev_var, ev_pk, owAt_succ, owAt_zero, frAt_succ, frAt_zero, ofO_some, bind_ok, ev_int, ev_bl, ev_str, ev_non, Option.map_some, ev_sl, evo_part, evo_nop, asInt_int, this]
      rfl
  rw [e, hr]
end
end LP.Q
namespace LP.Q
open PySem
abbrev bodyK02 : Sm := (.seq (.set 2 (.dcall 45 (.cons (.var 1) (.cons (.int 6) (.cons (.int 10) .nil))))) (.seq (.set 3 (.dcall 46 (.cons (.var 1) (.cons (.var 2) (.cons (.int 4) .nil))))) (.seq (.par [(6, false), (7, false), (8, true)] (.cons (.dcall 58 (.cons (.var 1) (.cons (.var 2) (.cons (.var 3) .nil)))) (.cons .non (.cons (.lst (.cons (.int 0) .nil)) .nil)))) (.seq (.forr (.name 4) (.rng (.cons (.int 9) (.cons (.neg (.int 1)) (.cons (.neg (.int 1)) .nil)))) (.seq (.own 9 (.lst .nil)) (.seq (.forr (.name 10) (.walk (.dcall 48 (.cons (.var 2) (.cons (.var 4) .nil)))) (.seq (.ite (.cmp .ne (.dcall 59 (.cons (.var 2) (.cons (.var 3) (.cons (.var 10) .nil)))) (.dcall 59 (.cons (.var 2) (.cons (.var 6) (.cons (.var 10) .nil))))) (.seq (.app 9 (.var 10)) .skip) .skip) .skip)) (.seq (.ite (.cmp .ne (.dcall 22 (.cons (.var 2) (.cons (.var 3) (.cons (.var 6) (.cons (.var 4) .nil))))) (.cmp .eq (.pk 9) (.lst .nil))) (.seq (.ret (.bl false)) .skip) .skip) (.seq (.ite (.cmp .ne (.dcall 53 (.cons (.var 2) (.cons (.var 3) (.cons (.var 6) (.cons (.var 4) .nil))))) (.ife (.cmp .ne (.pk 9) (.lst .nil)) (.ix (.pk 9) (.int 0)) .non)) (.seq (.ret (.bl false)) .skip) .skip) (.seq (.set 7 (.ife (.cmp .eq (.pk 9) (.lst .nil)) (.var 4) (.var 7))) .skip)))))) (.seq (.forr (.name 5) (.walk (.dcall 60 (.cons (.ix (.var 2) (.int 0)) .nil))) (.seq (.ite (.cmp .eq (.dcall 59 (.cons (.var 2) (.cons (.var 3) (.cons (.var 5) .nil)))) (.dcall 59 (.cons (.var 2) (.cons (.var 6) (.cons (.var 5) .nil))))) (.seq (.ite (.cmp .ne (.told (.dcall 56 (.cons (.var 2) (.cons (.var 3) (.cons (.var 6) (.cons (.var 5) .nil)))))) (.tup (.cons (.str "refused") (.cons (.str "BadLot") .nil)))) (.seq (.ret (.bl false)) .skip) .skip) .skip) (.seq (.app 8 (.dcall 61 (.cons (.var 2) (.cons (.var 5) .nil)))) (.seq (.ite (.cmp .ne (.dcall 56 (.cons (.var 2) (.cons (.var 3) (.cons (.var 6) (.cons (.var 5) .nil))))) (.ix (.pk 8) (.neg (.int 1)))) (.seq (.ret (.bl false)) .skip) .skip) .skip))) .skip)) (.seq (.ite (.cmp .ne (.dcall 24 (.cons (.var 2) (.cons (.var 3) (.cons (.var 6) .nil)))) (.var 7)) (.seq (.ret (.bl false)) .skip) .skip) (.seq (.ite (.cmp .ne (.var 7) (.ife (.cmp .inn .non (.pk 8)) .non (.blt .max (.cons (.pk 8) .nil)))) (.seq (.ret (.bl false)) .skip) .skip) (.seq (.forr (.name 4) (.rng (.cons (.ife (.cmp .isn (.var 7) .non) (.var 7) (.int 10)) (.cons (.int 10) .nil))) (.seq (.ite (.notE (.dcall 22 (.cons (.var 2) (.cons (.var 3) (.cons (.var 6) (.cons (.var 4) .nil)))))) (.seq (.ret (.bl false)) .skip) .skip) .skip)) (.seq (.set 5 (.told (.dcall 57 (.cons (.var 2) (.cons (.var 3) (.cons (.var 6) .nil)))))) (.seq (.ite (.andE (.cmp .eq (.var 3) (.var 6)) (.cmp .ne (.var 5) (.tup (.cons (.str "refused") (.cons (.str "Nothing") .nil))))) (.seq (.ret (.bl false)) .skip) .skip) (.seq (.ite (.andE (.cmp .ne (.var 3) (.var 6)) (.cmp .ne (.dcall 56 (.cons (.var 2) (.cons (.var 3) (.cons (.var 6) (.cons (.var 5) .nil))))) (.var 7))) (.seq (.ret (.bl false)) .skip) .skip) (.seq (.ite (.notE (.dcall 62 (.cons (.var 2) (.cons (.var 3) (.cons (.var 6) .nil))))) (.seq (.ret (.bl false)) .skip) .skip) .skip))))))))))))
abbrev t2A : Sm := (.seq (.forr (.name 5) (.walk (.dcall 60 (.cons (.ix (.var 2) (.int 0)) .nil))) (.seq (.ite (.cmp .eq (.dcall 59 (.cons (.var 2) (.cons (.var 3) (.cons (.var 5) .nil)))) (.dcall 59 (.cons (.var 2) (.cons (.var 6) (.cons (.var 5) .nil))))) (.seq (.ite (.cmp .ne (.told (.dcall 56 (.cons (.var 2) (.cons (.var 3) (.cons (.var 6) (.cons (.var 5) .nil)))))) (.tup (.cons (.str "refused") (.cons (.str "BadLot") .nil)))) (.seq (.ret (.bl false)) .skip) .skip) .skip) (.seq (.app 8 (.dcall 61 (.cons (.var 2) (.cons (.var 5) .nil)))) (.seq (.ite (.cmp .ne (.dcall 56 (.cons (.var 2) (.cons (.var 3) (.cons (.var 6) (.cons (.var 5) .nil))))) (.ix (.pk 8) (.neg (.int 1)))) (.seq (.ret (.bl false)) .skip) .skip) .skip))) .skip)) (.seq (.ite (.cmp .ne (.dcall 24 (.cons (.var 2) (.cons (.var 3) (.cons (.var 6) .nil)))) (.var 7)) (.seq (.ret (.bl false)) .skip) .skip) (.seq (.ite (.cmp .ne (.var 7) (.ife (.cmp .inn .non (.pk 8)) .non (.blt .max (.cons (.pk 8) .nil)))) (.seq (.ret (.bl false)) .skip) .skip) (.seq (.forr (.name 4) (.rng (.cons (.ife (.cmp .isn (.var 7) .non) (.var 7) (.int 10)) (.cons (.int 10) .nil))) (.seq (.ite (.notE (.dcall 22 (.cons (.var 2) (.cons (.var 3) (.cons (.var 6) (.cons (.var 4) .nil)))))) (.seq (.ret (.bl false)) .skip) .skip) .skip)) (.seq (.set 5 (.told (.dcall 57 (.cons (.var 2) (.cons (.var 3) (.cons (.var 6) .nil)))))) (.seq (.ite (.andE (.cmp .eq (.var 3) (.var 6)) (.cmp .ne (.var 5) (.tup (.cons (.str "refused") (.cons (.str "Nothing") .nil))))) (.seq (.ret (.bl false)) .skip) .skip) (.seq (.ite (.andE (.cmp .ne (.var 3) (.var 6)) (.cmp .ne (.dcall 56 (.cons (.var 2) (.cons (.var 3) (.cons (.var 6) (.cons (.var 5) .nil))))) (.var 7))) (.seq (.ret (.bl false)) .skip) .skip) (.seq (.ite (.notE (.dcall 62 (.cons (.var 2) (.cons (.var 3) (.cons (.var 6) .nil))))) (.seq (.ret (.bl false)) .skip) .skip) .skip))))))))
abbrev t2B : Sm := (.seq (.forr (.name 4) (.rng (.cons (.ife (.cmp .isn (.var 7) .non) (.var 7) (.int 10)) (.cons (.int 10) .nil))) (.seq (.ite (.notE (.dcall 22 (.cons (.var 2) (.cons (.var 3) (.cons (.var 6) (.cons (.var 4) .nil)))))) (.seq (.ret (.bl false)) .skip) .skip) .skip)) (.seq (.set 5 (.told (.dcall 57 (.cons (.var 2) (.cons (.var 3) (.cons (.var 6) .nil)))))) (.seq (.ite (.andE (.cmp .eq (.var 3) (.var 6)) (.cmp .ne (.var 5) (.tup (.cons (.str "refused") (.cons (.str "Nothing") .nil))))) (.seq (.ret (.bl false)) .skip) .skip) (.seq (.ite (.andE (.cmp .ne (.var 3) (.var 6)) (.cmp .ne (.dcall 56 (.cons (.var 2) (.cons (.var 3) (.cons (.var 6) (.cons (.var 5) .nil))))) (.var 7))) (.seq (.ret (.bl false)) .skip) .skip) (.seq (.ite (.notE (.dcall 62 (.cons (.var 2) (.cons (.var 3) (.cons (.var 6) .nil))))) (.seq (.ret (.bl false)) .skip) .skip) .skip)))))
abbrev t2C : Sm := (.seq (.set 5 (.told (.dcall 57 (.cons (.var 2) (.cons (.var 3) (.cons (.var 6) .nil)))))) (.seq (.ite (.andE (.cmp .eq (.var 3) (.var 6)) (.cmp .ne (.var 5) (.tup (.cons (.str "refused") (.cons (.str "Nothing") .nil))))) (.seq (.ret (.bl false)) .skip) .skip) (.seq (.ite (.andE (.cmp .ne (.var 3) (.var 6)) (.cmp .ne (.dcall 56 (.cons (.var 2) (.cons (.var 3) (.cons (.var 6) (.cons (.var 5) .nil))))) (.var 7))) (.seq (.ret (.bl false)) .skip) .skip) (.seq (.ite (.notE (.dcall 62 (.cons (.var 2) (.cons (.var 3) (.cons (.var 6) .nil))))) (.seq (.ret (.bl false)) .skip) .skip) .skip))))
abbrev dnK02 : Sm := (.seq (.own 9 (.lst .nil)) (.seq (.forr (.name 10) (.walk (.dcall 48 (.cons (.var 2) (.cons (.var 4) .nil)))) (.seq (.ite (.cmp .ne (.dcall 59 (.cons (.var 2) (.cons (.var 3) (.cons (.var 10) .nil)))) (.dcall 59 (.cons (.var 2) (.cons (.var 6) (.cons (.var 10) .nil))))) (.seq (.app 9 (.var 10)) .skip) .skip) .skip)) (.seq (.ite (.cmp .ne (.dcall 22 (.cons (.var 2) (.cons (.var 3) (.cons (.var 6) (.cons (.var 4) .nil))))) (.cmp .eq (.pk 9) (.lst .nil))) (.seq (.ret (.bl false)) .skip) .skip) (.seq (.ite (.cmp .ne (.dcall 53 (.cons (.var 2) (.cons (.var 3) (.cons (.var 6) (.cons (.var 4) .nil))))) (.ife (.cmp .ne (.pk 9) (.lst .nil)) (.ix (.pk 9) (.int 0)) .non)) (.seq (.ret (.bl false)) .skip) .skip) (.seq (.set 7 (.ife (.cmp .eq (.pk 9) (.lst .nil)) (.var 4) (.var 7))) .skip)))))
abbrev setK02 : Sm := (.seq (.ite (.cmp .eq (.dcall 59 (.cons (.var 2) (.cons (.var 3) (.cons (.var 5) .nil)))) (.dcall 59 (.cons (.var 2) (.cons (.var 6) (.cons (.var 5) .nil))))) (.seq (.ite (.cmp .ne (.told (.dcall 56 (.cons (.var 2) (.cons (.var 3) (.cons (.var 6) (.cons (.var 5) .nil)))))) (.tup (.cons (.str "refused") (.cons (.str "BadLot") .nil)))) (.seq (.ret (.bl false)) .skip) .skip) .skip) (.seq (.app 8 (.dcall 61 (.cons (.var 2) (.cons (.var 5) .nil)))) (.seq (.ite (.cmp .ne (.dcall 56 (.cons (.var 2) (.cons (.var 3) (.cons (.var 6) (.cons (.var 5) .nil))))) (.ix (.pk 8) (.neg (.int 1)))) (.seq (.ret (.bl false)) .skip) .skip) .skip))) .skip)
abbrev upK02 : Sm := (.seq (.ite (.notE (.dcall 22 (.cons (.var 2) (.cons (.var 3) (.cons (.var 6) (.cons (.var 4) .nil)))))) (.seq (.ret (.bl false)) .skip) .skip) .skip)
abbrev chK02 : Sm := (.seq (.ite (.cmp .ne (.dcall 59 (.cons (.var 2) (.cons (.var 3) (.cons (.var 10) .nil)))) (.dcall 59 (.cons (.var 2) (.cons (.var 6) (.cons (.var 10) .nil))))) (.seq (.app 9 (.var 10)) .skip) .skip) .skip)
abbrev fr2 (ns : List Int) (k : Nat) (v2 v3 v4 v5 v6 v7 v8 v9 v10 : Option Sl) : Fr := [some (.fz (.scr ns)), some (.fz (.obj k)), v2, v3, v4, v5, v6, v7, v8, v9, v10]
theorem eq_lots0 {ls : List (List Str)} (h : ∀ l ∈ ls, ∀ x ∈ l, sOk x = true) : cmpD .eq (.lst (ls.map lotD)) (.lst []) = some ls.isEmpty := by
  rw [eq_nil (n := 1) (fun x hx => ?_) (by decide)]
  · simp
  · obtain ⟨l, hl, rfl⟩ := List.mem_map.mp hx
    exact nice_lot (h l hl)
theorem ne_lotO {o : Option (List Str)} (h : ∀ l, o = some l → ∀ x ∈ l, sOk x = true) : cmpD .ne (lotO o) (lotO o) = some false := by
  cases o with
  | none => rw [lotO, neD_ok (nice_non.eqOk nice_non (by decide) (by decide))]; rfl
  | some l =>
    have nl := nice_lot (h l rfl)
    rw [lotO, neD_ok (nl.eqOk nl (by decide) (by decide)), eq_lot]
    simp
theorem ix_last {xs : List D} {d : D} {S : Sto} : ixD (.lst (xs ++ [d])) (.int (-1)) S = some d := by
  have e : ixAt (xs ++ [d]).length (-1) = some xs.length := by
    unfold ixAt
    rw [if_neg (by decide), if_pos (by rw [List.length_append, List.length_singleton]; omega)]
    congr 1
    have := List.length_append (as := xs) (bs := [d])
    simp at this ⊢
    omega
  show getD (xs ++ [d]) (-1) = some d
  unfold LP.getD
  rw [e]
  simp
theorem inn_opt {os : List (Option Int)} : cmpD .inn .non (.lst (os.map optD)) = some (decide (none ∈ os)) := by
  have := in_lst (e := optD) (n := 0) (x := none) (ys := os) (fun _ _ => eq_opt) (by decide) nice_opt fun y _ => nice_opt
  have h2 : cmpD .inn .non (.lst (os.map optD)) = inD (optD none) (.lst (os.map optD)) := rfl
  rw [h2, this]
  congr 1
  exact decide_eq_decide.mpr Iff.rfl
section
variable {P : Prg} {S : Sto} {n : Nat} {ns : List Int} {k : Nat} {s : Shr} {a b : List Int}
theorem lots_refused_ok (H : Has P c__law_lots_refused k__law_lots_refused) (v : Val s) (h6 : ∃ m, s.pools = six.take m) (ha : Cnt s a) (hb : Cnt s b) : call P (n + 7) i__law_lots_refused [s.d, cntD a, cntD b] S = .ok (.bl true) S := by
  have g := v.good
  have Hi : Has P c_is_lot k_is_lot := H.mono (by decide) (by decide)
  have Hs : Has P c_shown_by k_shown_by := H.mono (by decide) (by decide)
  have zed : ("zed" : Str) ∉ s.pools := by
    obtain ⟨m, e⟩ := h6
    rw [e]
    exact fun h => absurd (List.mem_of_mem_take h) (by decide +kernel)
  have bad : ∀ l : List Str, l.length ≤ 1000 → (∀ x ∈ l, sOk x = true) → lotB s l = false → call P (n + 6) i_shown_by [s.d, cntD a, cntD b, lotD l] S = .ex "BadLot" S := fun l h1 h2 h3 => shown_by_no (n := n) Hs v ha hb (by
    have := is_lot_eq (n := n + 3) (S := S) Hi g h1 h2
    rw [h3] at this
    exact this)
  have no : ∀ x, isi x .tuple = some false → call P (n + 6) i_shown_by [s.d, cntD a, cntD b, x] S = .ex "BadLot" S := fun x h => shown_by_no (n := n) Hs v ha hb (is_lot_no (n := n + 3) Hi h)
  have bads : ∀ x ∈ [D.non, .int 5, lotD [], .lst [], .lst [.str "bay"], lotD ["zed"], lotD ["bay", "bay"], lotD ["cove", "bay"], .str "bay", .tup [.non]], call P (n + 6) i_shown_by [s.d, cntD a, cntD b, x] S = .ex "BadLot" S := fun x hx => by
    simp only [or_false, List.not_mem_nil, List.mem_cons] at hx
    obtain rfl | rfl | rfl | rfl | rfl | rfl | rfl | rfl | rfl | rfl := hx
    · exact no _ rfl
    · exact no _ rfl
    · exact bad [] (by decide) (fun x hx => by simp at hx) rfl
    · exact no _ rfl
    · exact no _ rfl
    · exact bad ["zed"] (by decide) (by decide +kernel) (by simp [lotB, zed])
    · exact bad ["bay", "bay"] (by decide) (by decide +kernel) (by
        have : adjB sLt (["bay", "bay"] : List Str) = false := by decide +kernel
        unfold lotB
        rw [this, Bool.and_false])
    · exact bad ["cove", "bay"] (by decide) (by decide +kernel) (by
        have : adjB sLt (["cove", "bay"] : List Str) = false := by decide +kernel
        unfold lotB
        rw [this, Bool.and_false])
    · exact no _ rfl
    · exact shown_by_no (n := n) Hs v ha hb (is_lot_none (n := n + 3) Hi)
  obtain ⟨r, S', e, hr, rfl⟩ : ∃ r S', call P (n + 7) i__law_lots_refused [s.d, cntD a, cntD b] S = .ok r S' ∧ r = .bl true ∧ S' = S := by
    refine w_call (R := fun r S' => r = .bl true ∧ S' = S) H (d := d__law_lots_refused) (by decide) rfl rfl ?_
    show Wx (exec _ _ [some (.fz s.d), some (.fz (cntD a)), some (.fz (cntD b)), none, none] S) _ _
    refine w_seq (w_set (d := .lst [D.non, .int 5, lotD [], .lst [], .lst [.str "bay"], lotD ["zed"], lotD ["bay", "bay"], lotD ["cove", "bay"], .str "bay", .tup [.non]]) (S1 := S) ?_ rfl (by simp) ?_)
    · simp [Ex.isPk, lim, lotD]
    simp only [List.set]
    refine w_seq (w_for (fun ts ρ S' => ∃ (w4 : Option Sl), S' = S ∧ (∀ x ∈ ts, call P (n + 6) i_shown_by [s.d, cntD a, cntD b, x] S = .ex "BadLot" S) ∧ ρ = [some (.fz s.d), some (.fz (cntD a)), some (.fz (cntD b)), some (.fz (.lst [D.non, .int 5, lotD [], .lst [], .lst [.str "bay"], lotD ["zed"], lotD ["bay", "bay"], lotD ["cove", "bay"], .str "bay", .tup [.non]])), w4]) (xs := [D.non, .int 5, lotD [], .lst [], .lst [.str "bay"], lotD ["zed"], lotD ["bay", "bay"], lotD ["cove", "bay"], .str "bay", .tup [.non]]) (S1 := S) ?_ (by simp) ?_ ?_ ?_)
    · simp only [ev_dcall, evs_cons, evs_nil, Ex.isPk, Bool.false_and, Bool.and_false, Bool.true_and, Bool.not_true, Bool.false_eq_true, if_false, if_true, ev_var, ev_pk, owAt_succ, owAt_zero, frAt_succ, frAt_zero, ofO_some, bind_ok, ev_int, ev_bl, ev_str, ev_non, Option.map_some, evi_walk, walk_lst]
    · exact ⟨none, rfl, bads, rfl⟩
    · rintro x ts ρ S' ⟨w4, rfl, hin, rfl⟩
      refine ⟨_, bind_at (by simp), ?_⟩
      simp only [List.set]
      refine w_seq (w_no (S1 := S') (told_no (ds := [s.d, cntD a, cntD b, x]) ?_ (hin x (.head _)) (by decide +kernel) (by decide +kernel)) ?_)
      · simp only [ev_dcall, evs_cons, evs_nil, Ex.isPk, Bool.false_and, Bool.and_false, Bool.true_and, Bool.not_true, Bool.false_eq_true, if_false, if_true, ev_var, ev_pk, owAt_succ, owAt_zero, frAt_succ, frAt_zero, ofO_some, bind_ok, ev_int, ev_bl, ev_str, ev_non, Option.map_some]
      exact w_skip ⟨_, rfl, fun y hy => hin y (.tail _ hy), rfl⟩
    · rintro ρ S' ⟨w4, rfl, -, rfl⟩
      exact w_seq (w_ret (d := .bl true) (S1 := S') (by rw [ev_bl]) rfl ⟨rfl, rfl⟩)
  rw [e, hr]
/-- all lots at a height in which not as many lie, as the law gathers them -/
theorem gather (H : Has P c_law_k02 k_law_k02) (v : Val s) (h : Int) (v4 v5 v7 v8 v10 : Option Sl) (Q : D → Sto → Prop) :
    Wx (exec ⟨P.con, call P (n + 10)⟩ (.forr (.name 10) (.walk (.dcall 48 (.cons (.var 2) (.cons (.var 4) .nil)))) chK02) (fr2 ns k (some (.fz s.d)) (some (.fz (cntD a))) (some (.fz (.int h))) v5 (some (.fz (cntD b))) v7 v8 (some (.ow [])) v10) S)
      (fun ρ S' => S' = S ∧ ∃ w10, ρ = fr2 ns k (some (.fz s.d)) (some (.fz (cntD a))) (some (.fz (.int h))) v5 (some (.fz (cntD b))) v7 v8 (some (.ow ((changed s a b h).map lotD))) w10) Q := by
  have g := v.good
  have h18 : s.pools.length ≤ 18 := by have := v.hi; omega
  have el : call P (n + 10) 48 [s.d, .int h] S = .ok (.lst ((lots s h).map lotD)) S := law_lots_eq (n := n + 8) (S := S) (H.mono (by decide) (by decide)) g h18 h
  have su : ∀ (c : List Int) (l : List Str), call P (n + 10) 59 [s.d, cntD c, lotD l] S = .ok (.int (inLot s c l)) S := fun c l => law_sum_eq (n := n + 9) (S := S) (H.mono (by decide) (by decide)) g c l
  have ll := lots_len g h
  refine w_for (fun ts ρ S' => ∃ (don rest : List (List Str)) (w10 : Option Sl), S' = S ∧ ts = rest.map lotD ∧ don ++ rest = lots s h ∧ ρ = fr2 ns k (some (.fz s.d)) (some (.fz (cntD a))) (some (.fz (.int h))) v5 (some (.fz (cntD b))) v7 v8 (some (.ow ((don.filter (chgB s a b)).map lotD))) w10) (xs := (lots s h).map lotD) (S1 := S) ?_ (by simp; omega) ?_ ?_ ?_
  · simp only [ev_dcall, evs_cons, evs_nil, Ex.isPk, Bool.false_and, Bool.and_false, Bool.true_and, Bool.not_true, Bool.false_eq_true, if_false, if_true, ev_var, ev_pk, owAt_succ, owAt_zero, frAt_succ, frAt_zero, ofO_some, bind_ok, ev_int, ev_bl, ev_str, ev_non, Option.map_some, evi_walk, el, walk_lst]
  · exact ⟨[], lots s h, v10, rfl, rfl, rfl, rfl⟩
  · rintro x ts ρ S' ⟨don, rest, w10, rfl, ets, ed, rfl⟩
    cases rest with
    | nil => cases ets
    | cons l rest =>
      rw [List.map_cons, List.cons.injEq] at ets
      obtain ⟨rfl, rfl⟩ := ets
      have dl : (don.filter (chgB s a b)).length ≤ 1000 := by
        have h1 := List.length_filter_le (chgB s a b) don
        have h2 := congrArg List.length ed
        rw [List.length_append] at h2
        omega
      refine ⟨_, bind_at (by simp), ?_⟩
      simp only [List.set]
      refine w_seq (w_ite (t := chgB s a b l) (S1 := S') ?_ (fun hc => ?_) fun hc => ?_)
      · simp only [ev_dcall, evs_cons, evs_nil, Ex.isPk, Bool.false_and, Bool.and_false, Bool.true_and, Bool.not_true, Bool.false_eq_true, if_false, if_true, ev_var, ev_pk, owAt_succ, owAt_zero, frAt_succ, frAt_zero, ofO_some, bind_ok, ev_int, ev_bl, ev_str, ev_non, Option.map_some, evT_eq, ev_cmp, su, ne_int, asBl_bl, chgB]
      · refine w_seq (w_app (d := lotD l) (S1 := S') (xs := (don.filter (chgB s a b)).map lotD) ?_ rfl rfl (by simp; omega) ?_)
        · simp only [ev_dcall, evs_cons, evs_nil, Ex.isPk, Bool.false_and, Bool.and_false, Bool.true_and, Bool.not_true, Bool.false_eq_true, if_false, if_true, ev_var, ev_pk, owAt_succ, owAt_zero, frAt_succ, frAt_zero, ofO_some, bind_ok, ev_int, ev_bl, ev_str, ev_non, Option.map_some]
        simp only [List.set]
        refine w_skip (w_skip ⟨don ++ [l], rest, some (.fz (lotD l)), rfl, rfl, by rw [List.append_assoc]; exact ed, ?_⟩)
        rw [List.filter_append, List.filter_cons_of_pos hc]
        simp
      · refine w_skip (w_skip ⟨don ++ [l], rest, some (.fz (lotD l)), rfl, rfl, by rw [List.append_assoc]; exact ed, ?_⟩)
        rw [List.filter_append, List.filter_cons_of_neg (by rw [hc]; decide)]
        simp
  · rintro ρ S' ⟨don, rest, w10, rfl, ets, ed, rfl⟩
    cases rest with
    | cons l rest => cases ets
    | nil =>
      rw [List.append_nil] at ed
      subst ed
      exact ⟨rfl, w10, rfl⟩
noncomputable def lastN (s : Shr) (a b : List Int) (m : Nat) : Option Int := ((tenI.drop (10 - m)).filter fun h => followB s a b h).head?
theorem last_succ {m : Nat} (hm : m < 10) : lastN s a b (m + 1) = if followB s a b (9 - (m : Int)) = true then some (9 - (m : Int)) else lastN s a b m := by
  have e : tenI.drop (10 - (m + 1)) = (9 - (m : Int)) :: tenI.drop (10 - m) := by
    have : m = 0 ∨ m = 1 ∨ m = 2 ∨ m = 3 ∨ m = 4 ∨ m = 5 ∨ m = 6 ∨ m = 7 ∨ m = 8 ∨ m = 9 := by omega
    obtain rfl | rfl | rfl | rfl | rfl | rfl | rfl | rfl | rfl | rfl := this <;> rfl
  unfold lastN
  rw [e]
  by_cases q : followB s a b (9 - (m : Int)) = true
  · rw [List.filter_cons_of_pos (by simpa using q), if_pos q]
    rfl
  · rw [List.filter_cons_of_neg (by simpa using q), if_neg q]
theorem down_step (H : Has P c_law_k02 k_law_k02) (v : Val s) (ha : Cnt s a) (hb : Cnt s b) {m : Nat} (hm : m < 10) (v5 v8 v9 v10 : Option Sl) (Q : D → Sto → Prop) :
    Wx (exec ⟨P.con, call P (n + 10)⟩ dnK02 (fr2 ns k (some (.fz s.d)) (some (.fz (cntD a))) (some (.fz (.int (9 - (m : Int))))) v5 (some (.fz (cntD b))) (some (.fz (optD (lastN s a b m)))) v8 v9 v10) S)
      (fun ρ S' => S' = S ∧ ∃ w9 w10, ρ = fr2 ns k (some (.fz s.d)) (some (.fz (cntD a))) (some (.fz (.int (9 - (m : Int))))) v5 (some (.fz (cntD b))) (some (.fz (optD (lastN s a b (m + 1))))) v8 w9 w10) Q := by
  have g := v.good
  have h0 : (0 : Int) ≤ 9 - (m : Int) := by omega
  have h9 : 9 - (m : Int) ≤ 9 := by omega
  generalize hh : 9 - (m : Int) = h at h0 h9
  have ef : call P (n + 10) 22 [s.d, cntD a, cntD b, .int h] S = .ok (.bl (followB s a b h)) S := follow_ok (n := n + 4) (S := S) (H.mono (by decide) (by decide)) v ha hb h0 h9
  have ec : call P (n + 10) 53 [s.d, cntD a, cntD b, .int h] S = .ok (lotO (changed s a b h).head?) S := changed_lot_eq (n := n + 4) (S := S) (H.mono (by decide) (by decide)) v ha hb h0 h9
  have c1 := eq_lots0 (changed_sok g a b h)
  have c2 := ne_lots (changed_sok g a b h)
  have gl : ∀ ρ : Fr, ev ⟨P.con, call P (n + 10)⟩ (.lst .nil) ρ S = .ok (.lst []) S := fun ρ => by
    simp only [ev_dcall, evs_cons, evs_nil, Ex.isPk, Bool.false_and, Bool.and_false, Bool.true_and, Bool.not_true, Bool.false_eq_true, if_false, if_true, ev_var, ev_pk, owAt_succ, owAt_zero, frAt_succ, frAt_zero, ofO_some, bind_ok, ev_int, ev_bl, ev_str, ev_non, Option.map_some, ev_lst]
    rfl
  refine w_seq (w_own (xs := []) (S1 := S) (gl _) rfl (by simp) ?_)
  simp only [List.set]
  refine w_seq (w_mono (gather (n := n) H v h (some (.fz (.int h))) v5 (some (.fz (optD (lastN s a b m)))) v8 v10 Q) ?_)
  rintro ρ S' ⟨rfl, w10, rfl⟩
  refine w_seq (w_no (S1 := S') ?_ ?_)
  · simp only [ev_dcall, evs_cons, evs_nil, Ex.isPk, Bool.false_and, Bool.and_false, Bool.true_and, Bool.not_true, Bool.false_eq_true, if_false, if_true, ev_var, ev_pk, owAt_succ, owAt_zero, frAt_succ, frAt_zero, ofO_some, bind_ok, ev_int, ev_bl, ev_str, ev_non, Option.map_some, evT_eq, ev_cmp, ef, gl, c1, ne_bl, asBl_bl, followB]
    simp
  refine w_seq (w_no (S1 := S') ?_ ?_)
  · simp only [ev_dcall, evs_cons, evs_nil, Ex.isPk, Bool.false_and, Bool.and_false, Bool.true_and, Bool.not_true, Bool.false_eq_true, if_false, if_true, ev_var, ev_pk, owAt_succ, owAt_zero, frAt_succ, frAt_zero, ofO_some, bind_ok, ev_int, ev_bl, ev_str, ev_non, Option.map_some, evT_eq, ev_cmp, ec, ev_ife, gl, c2, ifR_bl, ev_ix]
    have e : (if (!(changed s a b h).isEmpty) = true then LP.ofO (ixD (.lst ((changed s a b h).map lotD)) (.int 0) S') S' else Re.ok D.non S') = .ok (lotO (changed s a b h).head?) S' := by
      cases changed s a b h <;> simp [lotO]
    rw [e, bind_ok, ne_lotO fun l el x hx => changed_sok g a b h l (List.mem_of_mem_head? (Option.mem_def.mpr el)) x hx]
    rfl
  refine w_seq (w_set (d := optD (lastN s a b (m + 1))) (S1 := S') ?_ rfl (by simp) ?_)
  · simp only [ev_dcall, evs_cons, evs_nil, Ex.isPk, Bool.false_and, Bool.and_false, Bool.true_and, Bool.not_true, Bool.false_eq_true, if_false, if_true, ev_var, ev_pk, owAt_succ, owAt_zero, frAt_succ, frAt_zero, ofO_some, bind_ok, ev_int, ev_bl, ev_str, ev_non, Option.map_some, ev_ife, ev_cmp, gl, c1, ifR_bl]
    rw [last_succ hm, hh]
    unfold followB
    cases (changed s a b h).isEmpty <;> simp [optD]
  simp only [List.set]
  exact w_skip ⟨rfl, _, _, rfl⟩
end
end LP.Q
namespace LP.Q
open PySem
section
variable {P : Prg} {S : Sto} {n : Nat} {ns : List Int} {k : Nat} {s : Shr} {a b : List Int}
def rimL (s : Shr) (a b : List Int) (don : List (List Str)) : List (Option Int) := some 0 :: rims s a b don
theorem rimL_pos {don : List (List Str)} {l : List Str} (h : chgB s a b l = true) : rimL s a b (don ++ [l]) = rimL s a b don ++ [rim s l] := by
  unfold rimL rims
  rw [List.filter_append, List.filter_cons_of_pos h]
  simp
theorem rimL_neg {don : List (List Str)} {l : List Str} (h : chgB s a b l = false) : rimL s a b (don ++ [l]) = rimL s a b don := by
  unfold rimL rims
  rw [List.filter_append, List.filter_cons_of_neg (by rw [h]; decide)]
  simp
theorem set_step (H : Has P c_law_k02 k_law_k02) (v : Val s) (ha : Cnt s a) (hb : Cnt s b) {don : List (List Str)} {l : List Str} (hl : LotOk s l) (dl : don.length ≤ 1000) (v4 v7 v9 v10 : Option Sl) (Q : D → Sto → Prop) :
    Wx (exec ⟨P.con, call P (n + 10)⟩ setK02 (fr2 ns k (some (.fz s.d)) (some (.fz (cntD a))) v4 (some (.fz (lotD l))) (some (.fz (cntD b))) v7 (some (.ow ((rimL s a b don).map optD))) v9 v10) S)
      (fun ρ S' => S' = S ∧ ρ = fr2 ns k (some (.fz s.d)) (some (.fz (cntD a))) v4 (some (.fz (lotD l))) (some (.fz (cntD b))) v7 (some (.ow ((rimL s a b (don ++ [l])).map optD))) v9 v10) Q := by
  have g := v.good
  have su : ∀ (c : List Int), call P (n + 10) 59 [s.d, cntD c, lotD l] S = .ok (.int (inLot s c l)) S := fun c => law_sum_eq (n := n + 9) (S := S) (H.mono (by decide) (by decide)) g c l
  have sh : call P (n + 10) 56 [s.d, cntD a, cntD b, lotD l] S = if chgB s a b l = true then .ok (optD (rim s l)) S else .ex "BadLot" S := shown_by_eq (n := n + 4) (S := S) (H.mono (by decide) (by decide)) v ha hb hl
  have lr : call P (n + 10) 61 [s.d, lotD l] S = .ok (optD (rim s l)) S := law_rim_eq (n := n + 9) (S := S) (H.mono (by decide) (by decide)) g l
  have rl : (rimL s a b don).length ≤ 2000 := by
    have := List.length_filter_le (chgB s a b) don
    unfold rimL rims
    simp
    omega
  refine w_seq (w_ite (t := decide (inLot s a l = inLot s b l)) (S1 := S) ?_ (fun hc => ?_) fun hc => ?_)
  · simp only [ev_dcall, evs_cons, evs_nil, Ex.isPk, Bool.false_and, Bool.and_false, Bool.true_and, Bool.not_true, Bool.false_eq_true, if_false, if_true, ev_var, ev_pk, owAt_succ, owAt_zero, frAt_succ, frAt_zero, ofO_some, bind_ok, ev_int, ev_bl, ev_str, ev_non, Option.map_some, evT_eq, ev_cmp, su, eq_int, asBl_bl]
  · have cf : chgB s a b l = false := by
      unfold chgB
      rw [hc]
      rfl
    rw [cf, if_neg (by decide)] at sh
    refine w_seq (w_no (S1 := S) (told_no (ds := [s.d, cntD a, cntD b, lotD l]) ?_ sh (by decide +kernel) (by decide +kernel)) ?_)
    · simp only [ev_dcall, evs_cons, evs_nil, Ex.isPk, Bool.false_and, Bool.and_false, Bool.true_and, Bool.not_true, Bool.false_eq_true, if_false, if_true, ev_var, ev_pk, owAt_succ, owAt_zero, frAt_succ, frAt_zero, ofO_some, bind_ok, ev_int, ev_bl, ev_str, ev_non, Option.map_some]
    exact w_skip (w_skip ⟨rfl, by rw [rimL_neg cf]⟩)
  · have cf : chgB s a b l = true := by
      unfold chgB
      rw [hc]
      rfl
    rw [cf, if_pos rfl] at sh
    refine w_seq (w_app (d := optD (rim s l)) (S1 := S) (xs := (rimL s a b don).map optD) ?_ rfl rfl (by simp; omega) ?_)
    · simp only [ev_dcall, evs_cons, evs_nil, Ex.isPk, Bool.false_and, Bool.and_false, Bool.true_and, Bool.not_true, Bool.false_eq_true, if_false, if_true, ev_var, ev_pk, owAt_succ, owAt_zero, frAt_succ, frAt_zero, ofO_some, bind_ok, ev_int, ev_bl, ev_str, ev_non, Option.map_some, lr]
    simp only [List.set]
    refine w_seq (w_no (S1 := S) ?_ ?_)
    · simp only [ev_dcall, evs_cons, evs_nil, Ex.isPk, Bool.false_and, Bool.and_false, Bool.true_and, Bool.not_true, Bool.false_eq_true, if_false, if_true, ev_var, ev_pk, owAt_succ, owAt_zero, frAt_succ, frAt_zero, ofO_some, bind_ok, ev_int, ev_bl, ev_str, ev_non, Option.map_some, evT_eq, ev_cmp, sh, ev_ix, ev_neg, asInt_int, ix_last, ne_opt]
      simp
    exact w_skip (w_skip ⟨rfl, by rw [rimL_pos cf, List.map_append]; rfl⟩)
theorem opts_ints : ∀ {os : List (Option Int)}, none ∉ os → os.map optD = (os.map fun o => o.getD 0).map .int
  | [], _ => rfl
  | none :: _, h => absurd (.head _) h
  | some i :: os, h => by
    rw [List.map_cons, List.map_cons, List.map_cons, opts_ints fun z => h (.tail _ z)]
    rfl
/-- the law's own greatest rim -/
theorem max_rims {Γ : Gam} {ρ : Fr} {don : List (List Str)} (hp : owAt ρ 8 = some ((rimL s a b don).map optD)) (nn : ∀ o ∈ rims s a b don, 0 ≤ o.getD 0) :
    ev Γ (.ife (.cmp .inn .non (.pk 8)) .non (.blt .max (.cons (.pk 8) .nil))) ρ S = .ok (optD (maxO (rims s a b don))) S := by
  have e1 : ev Γ (.cmp .inn .non (.pk 8)) ρ S = .ok (.bl (decide (none ∈ rims s a b don))) S := by
    rw [ev_cmp, ev_non, bind_ok, ev_pk, hp]
    simp only [Option.map_some, ofO_some, bind_ok, inn_opt]
    congr 2
    rw [Bool.eq_iff_iff, decide_eq_true_iff, decide_eq_true_iff]
    unfold rimL
    simp
  rw [ev_ife, e1, bind_ok, ifR_bl]
  unfold maxO
  by_cases h : none ∈ rims s a b don
  · rw [if_pos (decide_eq_true h), if_pos h, if_neg (by decide), ev_non]
    rfl
  · rw [if_neg (by simpa using h), if_neg h, if_neg (by decide), ev_blt, evs_cons, if_neg (by decide), ev_pk, hp]
    simp only [Option.map_some, ofO_some, bind_ok, evs_nil]
    have h' : none ∉ rimL s a b don := by
      unfold rimL
      simpa using h
    have hm : blt .max [.lst ((rimL s a b don).map optD)] S = some (.int (mx ((rimL s a b don).map fun o => o.getD 0))) := by
      rw [opts_ints h']
      have := max_ints (S := S) (fun x : Int => x) ((rimL s a b don).map fun o => o.getD 0) (by unfold rimL; simp) fun x hx => by
        obtain ⟨o, ho, rfl⟩ := List.mem_map.mp hx
        unfold rimL at ho
        obtain rfl | ho := List.mem_cons.mp ho
        · decide
        · exact nn o ho
      rw [List.map_id'] at this
      exact this
    rw [hm]
    have h0 := mx_nonneg ((rims s a b don).map fun o => o.getD 0)
    have : mx ((rimL s a b don).map fun o => o.getD 0) = mx ((rims s a b don).map fun o => o.getD 0) := by
      unfold rimL
      rw [List.map_cons]
      simp only [mx, Option.getD_some, if_pos h0]
    rw [this]
    rfl
theorem t2C_ok (H : Has P c_law_k02 k_law_k02) (v : Val s) (h6 : ∃ m, s.pools = six.take m) (ha : Cnt s a) (hb : Cnt s b) {S0 : Sto} (R : Rolled k S0 S) (v4 v5 v8 v9 v10 : Option Sl) (Q : D → Sto → Prop) :
    Wx (exec ⟨P.con, call P (n + 10)⟩ t2C (fr2 ns k (some (.fz s.d)) (some (.fz (cntD a))) v4 v5 (some (.fz (cntD b))) (some (.fz (optD (leastN s a b)))) v8 v9 v10) S)
      (fun ρ S' => (∃ w2 w3 w4 w5 w6 w7 w8 w9 w10, ρ = fr2 ns k w2 w3 w4 w5 w6 w7 w8 w9 w10) ∧ Rolled k S0 S') Q := by
  have lr : call P (n + 10) 62 [s.d, cntD a, cntD b] S = .ok (.bl true) S := lots_refused_ok (n := n + 3) (S := S) (H.mono (by decide) (by decide)) v h6 ha hb
  by_cases ne : a = b
  · subst ne
    have lf : call P (n + 10) 57 [s.d, cntD a, cntD a] S = .ex "Nothing" S := lot_for_same (n := n + 4) (S := S) (H.mono (by decide) (by decide)) v ha
    refine w_seq (w_set (d := refD "Nothing") (S1 := S) ?_ rfl (by simp) ?_)
    · rw [ev_told _ rfl]
      simp only [ev_dcall, evs_cons, evs_nil, Ex.isPk, Bool.false_and, Bool.and_false, Bool.true_and, Bool.not_true, Bool.false_eq_true, if_false, if_true, ev_var, ev_pk, owAt_succ, owAt_zero, frAt_succ, frAt_zero, ofO_some, bind_ok, ev_int, ev_bl, ev_str, ev_non, Option.map_some, lf]
      exact told_ex (by decide +kernel)
    simp only [List.set]
    have rt : ∀ ρ : Fr, ev ⟨P.con, call P (n + 10)⟩ (.tup (.cons (.str "refused") (.cons (.str "Nothing") .nil))) ρ S = .ok (.tup [.str "refused", .str "Nothing"]) S := fun ρ => by simp [Ex.isPk, lim]
    have nr := ne_refD (c := "Nothing") (by decide +kernel)
    refine w_seq (w_no (S1 := S) ?_ ?_)
    · simp only [ev_dcall, evs_cons, evs_nil, Ex.isPk, Bool.false_and, Bool.and_false, Bool.true_and, Bool.not_true, Bool.false_eq_true, if_false, if_true, ev_var, ev_pk, owAt_succ, owAt_zero, frAt_succ, frAt_zero, ofO_some, bind_ok, ev_int, ev_bl, ev_str, ev_non, Option.map_some, evT_eq, ev_and, ev_cmp, eq_cnt, andR_bl, rt, nr, decide_true, asBl_bl]
    refine w_seq (w_no (S1 := S) ?_ ?_)
    · simp only [ev_dcall, evs_cons, evs_nil, Ex.isPk, Bool.false_and, Bool.and_false, Bool.true_and, Bool.not_true, Bool.false_eq_true, if_false, if_true, ev_var, ev_pk, owAt_succ, owAt_zero, frAt_succ, frAt_zero, ofO_some, bind_ok, ev_int, ev_bl, ev_str, ev_non, Option.map_some, evT_eq, ev_and, ev_cmp, ne_cnt, andR_bl, decide_true, asBl_bl]
    refine w_seq (w_no (S1 := S) ?_ ?_)
    · simp only [ev_dcall, evs_cons, evs_nil, Ex.isPk, Bool.false_and, Bool.and_false, Bool.true_and, Bool.not_true, Bool.false_eq_true, if_false, if_true, ev_var, ev_pk, owAt_succ, owAt_zero, frAt_succ, frAt_zero, ofO_some, bind_ok, ev_int, ev_bl, ev_str, ev_non, Option.map_some, evT_eq, ev_not, lr, asBl_bl]
    exact w_skip ⟨⟨_, _, _, _, _, _, _, _, _, rfl⟩, R⟩
  · obtain ⟨l, ls, hc, hr, cg, lok⟩ := lot_shows v ha hb ne
    have lf : call P (n + 10) 57 [s.d, cntD a, cntD b] S = .ok (lotD l) S := lot_for_eq (n := n + 4) (S := S) (H.mono (by decide) (by decide)) v ha hb ne hc
    have sh : call P (n + 10) 56 [s.d, cntD a, cntD b, lotD l] S = if chgB s a b l = true then .ok (optD (rim s l)) S else .ex "BadLot" S := shown_by_eq (n := n + 4) (S := S) (H.mono (by decide) (by decide)) v ha hb lok
    rw [cg, if_pos rfl, hr] at sh
    refine w_seq (w_set (d := lotD l) (S1 := S) ?_ rfl (by simp) ?_)
    · rw [ev_told _ rfl]
      simp only [ev_dcall, evs_cons, evs_nil, Ex.isPk, Bool.false_and, Bool.and_false, Bool.true_and, Bool.not_true, Bool.false_eq_true, if_false, if_true, ev_var, ev_pk, owAt_succ, owAt_zero, frAt_succ, frAt_zero, ofO_some, bind_ok, ev_int, ev_bl, ev_str, ev_non, Option.map_some, lf, toldR_ok]
    simp only [List.set]
    refine w_seq (w_no (S1 := S) ?_ ?_)
    · simp only [ev_dcall, evs_cons, evs_nil, Ex.isPk, Bool.false_and, Bool.and_false, Bool.true_and, Bool.not_true, Bool.false_eq_true, if_false, if_true, ev_var, ev_pk, owAt_succ, owAt_zero, frAt_succ, frAt_zero, ofO_some, bind_ok, ev_int, ev_bl, ev_str, ev_non, Option.map_some, evT_eq, ev_and, ev_cmp, eq_cnt, andR_bl, ne, decide_false, asBl_bl]
    refine w_seq (w_no (S1 := S) ?_ ?_)
    · simp only [ev_dcall, evs_cons, evs_nil, Ex.isPk, Bool.false_and, Bool.and_false, Bool.true_and, Bool.not_true, Bool.false_eq_true, if_false, if_true, ev_var, ev_pk, owAt_succ, owAt_zero, frAt_succ, frAt_zero, ofO_some, bind_ok, ev_int, ev_bl, ev_str, ev_non, Option.map_some, evT_eq, ev_and, ev_cmp, ne_cnt, andR_bl, ne, decide_false, Bool.not_false, sh, ne_opt, decide_true, asBl_bl]
    refine w_seq (w_no (S1 := S) ?_ ?_)
    · simp only [ev_dcall, evs_cons, evs_nil, Ex.isPk, Bool.false_and, Bool.and_false, Bool.true_and, Bool.not_true, Bool.false_eq_true, if_false, if_true, ev_var, ev_pk, owAt_succ, owAt_zero, frAt_succ, frAt_zero, ofO_some, bind_ok, ev_int, ev_bl, ev_str, ev_non, Option.map_some, evT_eq, ev_not, lr, asBl_bl]
    exact w_skip ⟨⟨_, _, _, _, _, _, _, _, _, rfl⟩, R⟩
theorem t2B_ok (H : Has P c_law_k02 k_law_k02) (v : Val s) (h6 : ∃ m, s.pools = six.take m) (ha : Cnt s a) (hb : Cnt s b) {S0 : Sto} (R : Rolled k S0 S) (v4 v5 v8 v9 v10 : Option Sl) (Q : D → Sto → Prop) :
    Wx (exec ⟨P.con, call P (n + 10)⟩ t2B (fr2 ns k (some (.fz s.d)) (some (.fz (cntD a))) v4 v5 (some (.fz (cntD b))) (some (.fz (optD (leastN s a b)))) v8 v9 v10) S)
      (fun ρ S' => (∃ w2 w3 w4 w5 w6 w7 w8 w9 w10, ρ = fr2 ns k w2 w3 w4 w5 w6 w7 w8 w9 w10) ∧ Rolled k S0 S') Q := by
  have rg := least_rng (s := s) (a := a) (b := b)
  obtain ⟨t, ht⟩ : ∃ t, t = thr (leastN s a b) := ⟨_, rfl⟩
  rw [← ht] at rg
  have ll : (rngI t (10 - t).toNat).length ≤ 10 := by
    unfold rngI
    simp
    omega
  refine w_seq (w_for (fun ts ρ S' => ∃ (w4 : Option Sl), S' = S ∧ (∀ x ∈ ts, ∃ h, x = .int h ∧ t ≤ h ∧ h ≤ 9) ∧ ρ = fr2 ns k (some (.fz s.d)) (some (.fz (cntD a))) w4 v5 (some (.fz (cntD b))) (some (.fz (optD (leastN s a b)))) v8 v9 v10) (xs := rngI t (10 - t).toNat) (S1 := S) ?_ (by omega) ?_ ?_ ?_)
  · have e1 : ev ⟨P.con, call P (n + 10)⟩ (.ife (.cmp .isn (.var 7) .non) (.var 7) (.int 10)) (fr2 ns k (some (.fz s.d)) (some (.fz (cntD a))) v4 v5 (some (.fz (cntD b))) (some (.fz (optD (leastN s a b)))) v8 v9 v10) S = .ok (.int t) S := by
      simp only [ev_dcall, evs_cons, evs_nil, Ex.isPk, Bool.false_and, Bool.and_false, Bool.true_and, Bool.not_true, Bool.false_eq_true, if_false, if_true, ev_var, ev_pk, owAt_succ, owAt_zero, frAt_succ, frAt_zero, ofO_some, bind_ok, ev_int, ev_bl, ev_str, ev_non, Option.map_some, ev_ife, ev_cmp, isn_opt, ifR_bl]
      rw [ht]
      cases leastN s a b <;> simp [optD, thr]
    have e2 : ev ⟨P.con, call P (n + 10)⟩ (.int 10) (fr2 ns k (some (.fz s.d)) (some (.fz (cntD a))) v4 v5 (some (.fz (cntD b))) (some (.fz (optD (leastN s a b)))) v8 v9 v10) S = .ok (.int 10) S := by rw [ev_int]
    have e3 : rngD [.int t, .int 10] = some (rngI t (10 - t).toNat) := by
      have : (small62 t && small62 10) = true := by
        unfold small62
        simp
        omega
      show (if (small62 t && small62 10) = true then some (rngI t (10 - t).toNat) else none) = _
      rw [if_pos this]
    rw [evi_rng, evs_two e1 e2 rfl rfl, bind_ok, e3, ofO_some]
  · refine ⟨v4, rfl, fun x hx => ?_, rfl⟩
    unfold rngI at hx
    obtain ⟨i, hi, rfl⟩ := List.mem_map.mp hx
    have := List.mem_range.mp hi
    exact ⟨_, rfl, by omega, by omega⟩
  · rintro x ts ρ S' ⟨w4, rfl, hin, rfl⟩
    obtain ⟨h, rfl, h1, h2⟩ := hin x (.head _)
    have ef : call P (n + 10) 22 [s.d, cntD a, cntD b, .int h] S' = .ok (.bl (followB s a b h)) S' := follow_ok (n := n + 4) (S := S') (H.mono (by decide) (by decide)) v ha hb (by omega) h2
    have fh : followB s a b h = true := (least_thr (by omega) h2).mpr (by rw [← ht]; exact h1)
    rw [fh] at ef
    refine ⟨_, bind_at (by simp), ?_⟩
    simp only [List.set]
    refine w_seq (w_no (S1 := S') ?_ ?_)
    · simp only [ev_dcall, evs_cons, evs_nil, Ex.isPk, Bool.false_and, Bool.and_false, Bool.true_and, Bool.not_true, Bool.false_eq_true, if_false, if_true, ev_var, ev_pk, owAt_succ, owAt_zero, frAt_succ, frAt_zero, ofO_some, bind_ok, ev_int, ev_bl, ev_str, ev_non, Option.map_some, evT_eq, ev_not, ef, asBl_bl]
    exact w_skip ⟨_, rfl, fun y hy => hin y (.tail _ hy), rfl⟩
  · rintro ρ S' ⟨w4, rfl, -, rfl⟩
    exact t2C_ok (n := n) H v h6 ha hb R w4 v5 v8 v9 v10 Q
end
end LP.Q
namespace LP.Q
open PySem
section
variable {P : Prg} {S : Sto} {n : Nat} {ns : List Int} {k : Nat} {s : Shr} {a b : List Int}
theorem t2A_ok (H : Has P c_law_k02 k_law_k02) (v : Val s) (h6 : ∃ m, s.pools = six.take m) (ha : Cnt s a) (hb : Cnt s b) {S0 : Sto} (R : Rolled k S0 S) (v4 v5 v9 v10 : Option Sl) (Q : D → Sto → Prop) :
    Wx (exec ⟨P.con, call P (n + 10)⟩ t2A (fr2 ns k (some (.fz s.d)) (some (.fz (cntD a))) v4 v5 (some (.fz (cntD b))) (some (.fz (optD (leastN s a b)))) (some (.ow [.int 0])) v9 v10) S)
      (fun ρ S' => (∃ w2 w3 w4 w5 w6 w7 w8 w9 w10, ρ = fr2 ns k w2 w3 w4 w5 w6 w7 w8 w9 w10) ∧ Rolled k S0 S') Q := by
  have g := v.good
  have hp := v.hi
  have sl : (sets s.pools).length ≤ 64 := by
    unfold sets
    rw [List.length_tail, subs_len]
    have : 2 ^ s.pools.length ≤ 2 ^ 6 := Nat.pow_le_pow_right (by decide) (by omega)
    simp
    omega
  have es : call P (n + 10) 60 [.tup (s.pools.map .str)] S = .ok (.lst ((sets s.pools).map lotD)) S := law_sets_eq (n := n + 9) (S := S) (H.mono (by decide) (by decide)) (by omega)
  have i0 : ixD s.d (.int 0) S = some (.tup (s.pools.map .str)) := by unfold Shr.d; simp
  refine w_seq (w_for (fun ts ρ S' => ∃ (don rest : List (List Str)) (w5 : Option Sl), S' = S ∧ ts = rest.map lotD ∧ don ++ rest = sets s.pools ∧ ρ = fr2 ns k (some (.fz s.d)) (some (.fz (cntD a))) v4 w5 (some (.fz (cntD b))) (some (.fz (optD (leastN s a b)))) (some (.ow ((rimL s a b don).map optD))) v9 v10) (xs := (sets s.pools).map lotD) (S1 := S) ?_ (by simp; omega) ?_ ?_ ?_)
  · simp only [ev_dcall, evs_cons, evs_nil, Ex.isPk, Bool.false_and, Bool.and_false, Bool.true_and, Bool.not_true, Bool.false_eq_true, if_false, if_true, ev_var, ev_pk, owAt_succ, owAt_zero, frAt_succ, frAt_zero, ofO_some, bind_ok, ev_int, ev_bl, ev_str, ev_non, Option.map_some, evi_walk, ev_ix, i0, es, walk_lst]
  · exact ⟨[], sets s.pools, v5, rfl, rfl, rfl, rfl⟩
  · rintro x ts ρ S' ⟨don, rest, w5, rfl, ets, ed, rfl⟩
    cases rest with
    | nil => cases ets
    | cons l rest =>
      rw [List.map_cons, List.cons.injEq] at ets
      obtain ⟨rfl, rfl⟩ := ets
      have lm : l ∈ sets s.pools := by rw [← ed]; simp
      have dl : don.length ≤ 1000 := by
        have := congrArg List.length ed
        rw [List.length_append] at this
        omega
      refine ⟨_, bind_at (by simp), w_mono (set_step (n := n) H v ha hb (set_ok g lm) dl v4 (some (.fz (optD (leastN s a b)))) v9 v10 Q) ?_⟩
      rintro ρ' S'' ⟨rfl, rfl⟩
      exact ⟨don ++ [l], rest, _, rfl, rfl, by rw [List.append_assoc]; exact ed, rfl⟩
  rintro ρ S' ⟨don, rest, w5, rfl, ets, ed, rfl⟩
  cases rest with
  | cons l rest => cases ets
  | nil =>
    rw [List.append_nil] at ed
    subst ed
    have lh : call P (n + 10) 24 [s.d, cntD a, cntD b] S' = .ok (optD (leastN s a b)) S' := least_height_eq (n := n + 4) (S := S') (H.mono (by decide) (by decide)) v ha hb
    refine w_seq (w_no (S1 := S') ?_ ?_)
    · simp only [ev_dcall, evs_cons, evs_nil, Ex.isPk, Bool.false_and, Bool.and_false, Bool.true_and, Bool.not_true, Bool.false_eq_true, if_false, if_true, ev_var, ev_pk, owAt_succ, owAt_zero, frAt_succ, frAt_zero, ofO_some, bind_ok, ev_int, ev_bl, ev_str, ev_non, Option.map_some, evT_eq, ev_cmp, lh, ne_opt, decide_true, asBl_bl]
    have nn : ∀ o ∈ rims s a b (sets s.pools), 0 ≤ o.getD 0 := fun o ho => by
      obtain ⟨l, _, rfl⟩ := List.mem_map.mp ho
      cases e : rim s l with
      | none => decide
      | some m =>
        have := rim_rng (heights_in v) e
        show (0 : Int) ≤ m
        omega
    have mr := max_rims (S := S') (s := s) (a := a) (b := b) (Γ := ⟨P.con, call P (n + 10)⟩) (don := sets s.pools) (ρ := fr2 ns k (some (.fz s.d)) (some (.fz (cntD a))) v4 w5 (some (.fz (cntD b))) (some (.fz (optD (leastN s a b)))) (some (.ow ((rimL s a b (sets s.pools)).map optD))) v9 v10) rfl nn
    rw [← least_rims g (heights_in v)] at mr
    refine w_seq (w_no (S1 := S') ?_ ?_)
    · have v7 : ev ⟨P.con, call P (n + 10)⟩ (.var 7) (fr2 ns k (some (.fz s.d)) (some (.fz (cntD a))) v4 w5 (some (.fz (cntD b))) (some (.fz (optD (leastN s a b)))) (some (.ow ((rimL s a b (sets s.pools)).map optD))) v9 v10) S' = .ok (optD (leastN s a b)) S' := by simp only [ev_dcall, evs_cons, evs_nil, Ex.isPk, Bool.false_and, Bool.and_false, Bool.true_and, Bool.not_true, Bool.false_eq_true, if_false, if_true, ev_var, ev_pk, owAt_succ, owAt_zero, frAt_succ, frAt_zero, ofO_some, bind_ok, ev_int, ev_bl, ev_str, ev_non, Option.map_some]
      rw [evT_eq, ev_cmp, v7, bind_ok, mr, bind_ok, ne_opt]
      simp
    exact t2B_ok (n := n) H v h6 ha hb R v4 w5 _ v9 v10 Q
theorem body_k02 (H : Has P c_law_k02 k_law_k02) (hd : DiceAt S k) (v2 v3 v4 v5 v6 v7 v8 v9 v10 : Option Sl) (Q : D → Sto → Prop) :
    Wx (exec ⟨P.con, call P (n + 10)⟩ bodyK02 (fr2 ns k v2 v3 v4 v5 v6 v7 v8 v9 v10) S) (fun ρ S' => (∃ w2 w3 w4 w5 w6 w7 w8 w9 w10, ρ = fr2 ns k w2 w3 w4 w5 w6 w7 w8 w9 w10) ∧ Rolled k S S') Q := by
  obtain ⟨s, S1, e1, v, hp6, _, h6, R1⟩ := any_shore_ok (n := n + 6) (S := S) (H.mono (by decide) (by decide)) (size := 6) (high := 10) (by decide) (by decide) (by decide) hd
  obtain ⟨a, S2, e2, ha, _, R2⟩ := any_counts_ok (n := n + 7) (S := S1) (H.mono (by decide) (by decide)) v (most := 4) (by decide) (R1.dice hd)
  obtain ⟨b, S3, e3, hb, R3⟩ := any_after_ok (n := n + 6) (S := S2) (H.mono (by decide) (by decide)) v ha ((R1.trans R2).dice hd)
  have e1' : call P (n + 10) 45 [.obj k, .int 6, .int 10] S = .ok s.d S1 := e1
  have e2' : call P (n + 10) 46 [.obj k, s.d, .int 4] S1 = .ok (cntD a) S2 := e2
  have e3' : call P (n + 10) 58 [.obj k, s.d, cntD a] S2 = .ok (cntD b) S3 := e3
  refine w_seq (w_set (d := s.d) (S1 := S1) ?_ rfl (by simp) ?_)
  · simp only [ev_dcall, evs_cons, evs_nil, Ex.isPk, Bool.false_and, Bool.and_false, Bool.true_and, Bool.not_true, Bool.false_eq_true, if_false, if_true, ev_var, ev_pk, owAt_succ, owAt_zero, frAt_succ, frAt_zero, ofO_some, bind_ok, ev_int, ev_bl, ev_str, ev_non, Option.map_some, e1']
  simp only [List.set]
  refine w_seq (w_set (d := cntD a) (S1 := S2) ?_ rfl (by simp) ?_)
  · simp only [ev_dcall, evs_cons, evs_nil, Ex.isPk, Bool.false_and, Bool.and_false, Bool.true_and, Bool.not_true, Bool.false_eq_true, if_false, if_true, ev_var, ev_pk, owAt_succ, owAt_zero, frAt_succ, frAt_zero, ofO_some, bind_ok, ev_int, ev_bl, ev_str, ev_non, Option.map_some, e2']
  simp only [List.set]
  refine w_seq (w_par (ds := [cntD b, .non, .lst [.int 0]]) (S1 := S3) (ρ1 := fr2 ns k (some (.fz s.d)) (some (.fz (cntD a))) v4 v5 (some (.fz (cntD b))) (some (.fz .non)) (some (.ow [.int 0])) v9 v10) ?_ rfl rfl ?_)
  · simp only [ev_dcall, evs_cons, evs_nil, Ex.isPk, Bool.false_and, Bool.and_false, Bool.true_and, Bool.not_true, Bool.false_eq_true, if_false, if_true, ev_var, ev_pk, owAt_succ, owAt_zero, frAt_succ, frAt_zero, ofO_some, bind_ok, ev_int, ev_bl, ev_str, ev_non, Option.map_some, e3', ev_lst]
    rfl
  refine w_seq (w_for (fun ts ρ S' => ∃ (m : Nat) (w4 w9 w10 : Option Sl), S' = S3 ∧ m + ts.length = 10 ∧ ts = (List.range' m ts.length).map (fun j : Nat => D.int (9 - (j : Int))) ∧ ρ = fr2 ns k (some (.fz s.d)) (some (.fz (cntD a))) w4 v5 (some (.fz (cntD b))) (some (.fz (optD (lastN s a b m)))) (some (.ow [.int 0])) w9 w10) (xs := rngDn 9 10) (S1 := S3) ?_ (by unfold rngDn; simp) ?_ ?_ ?_)
  · simp only [ev_dcall, evs_cons, evs_nil, Ex.isPk, Bool.false_and, Bool.and_false, Bool.true_and, Bool.not_true, Bool.false_eq_true, if_false, if_true, ev_var, ev_pk, owAt_succ, owAt_zero, frAt_succ, frAt_zero, ofO_some, bind_ok, ev_int, ev_bl, ev_str, ev_non, Option.map_some, evi_rng, ev_neg, asInt_int]
    rfl
  · refine ⟨0, v4, v9, v10, rfl, by unfold rngDn; simp, ?_, rfl⟩
    unfold rngDn
    rw [List.length_map, List.length_range, List.range_eq_range']
  · rintro x ts ρ S' ⟨m, w4, w9, w10, rfl, ml, ets, rfl⟩
    rw [List.length_cons] at ml
    rw [List.length_cons, List.range'_succ, List.map_cons, List.cons.injEq] at ets
    obtain ⟨rfl, ets⟩ := ets
    refine ⟨_, bind_at (by simp), w_mono (down_step (n := n) H v ha hb (m := m) (by omega) v5 (some (.ow [.int 0])) w9 w10 Q) ?_⟩
    rintro ρ' S'' ⟨rfl, x9, x10, rfl⟩
    exact ⟨m + 1, _, x9, x10, rfl, by omega, ets, rfl⟩
  rintro ρ S' ⟨m, w4, w9, w10, rfl, ml, -, rfl⟩
  simp only [List.length_nil, Nat.add_zero] at ml
  subst ml
  have el : lastN s a b 10 = leastN s a b := rfl
  rw [el]
  exact t2A_ok (n := n) H v h6 ha hb ((R1.trans R2).trans R3) w4 v5 w9 w10 Q
theorem main_k02 (H : Has P c_law_k02 k_law_k02) (hn : ns.length ≤ 63) : ∃ S, call P (n + 11) i_law_k02 [.scr ns] [] = .ok (.bl true) S := by
  refine law_main H (by decide) (by decide) (d := d_law_k02) (high := 4) (N := 9) (body := bodyK02) (by decide) rfl hn (by decide) rfl rfl rfl fun k S ρ hd hl h0 h1 => ?_
  match ρ, hl with
  | [a0, a1, v2, v3, v4, v5, v6, v7, v8, v9, v10], _ =>
    cases h0
    cases h1
    refine w_mono (body_k02 (n := n) (ns := ns) H hd v2 v3 v4 v5 v6 v7 v8 v9 v10 _) ?_
    rintro ρ' S' ⟨⟨_, _, _, _, _, _, _, _, _, rfl⟩, R⟩
    exact ⟨⟨rfl, rfl⟩, R⟩
end
end LP.Q
namespace LP
open PySem
def ids : List Nat := [0, 1, 2, 3, 4, 5, 6, 7, 8, 14, 16, 17, 18, 19, 20, 21, 22, 23, 24, 53, 54, 55, 56, 57, 40, 41, 42, 43, 44, 45, 46, 58, 47, 48, 59, 60, 61, 62, 63]
def tab : List (Nat × Df) := Gtab.filter fun p => ids.contains p.1
def cnms : List Str := ["SMALL", "HIGHEST", "MOST"]
def consL : List (Str × D) := Gcon.filter fun p => cnms.contains p.1
def con (x : Str) : Option D := consL.lookup x
def tls : List Nat := [62, 63]
def P : Prg := ⟨tab, con⟩
end LP
namespace LP
open PySem PySem.Spec
open PyProof.Rows L2
def bodyP : List Stmt := PySem.Challenge.pw_lowpools_k02_whole_one_night.main.body
def dfOf : Stmt → Option He.DefD
  | .FunctionDef name args body _ _ _ scope _ _ _ => some ⟨(name, none), name, name, args, body, scope, [], []⟩
  | _ => none
def fn : List He.DefD := bodyP.filterMap dfOf
def gl0 : List Str := ["is_whole", "is_word", "rise", "is_pool", "is_ridge", "is_shore", "need_shore", "need_height", "all_lots", "are_good_counts", "need_counts", "in_lot", "need_both", "is_changed", "all_changed", "does_follow", "follow", "least_of_night", "least_height", "changed_lot", "is_lot", "rim_of", "shown_by", "lot_for", "_law_cell", "_law_drawn", "_law_roll", "_law_rounds", "_law_term", "_law_told"]
def gl1 : List Str := ["_law_any_ridges", "_law_any_shore", "_law_any_counts", "_law_any_after", "_law_with", "_law_lots", "_law_sum", "_law_sets", "_law_rim", "_law_lots_refused", "law", "PoolError", "BadShore", "BadPool", "BadHeight", "BadCounts", "BadLot", "BadKinds", "BadBounds", "BadDays", "BadSeen", "Nothing", "Full", "BadText"]
def gl : List Str := gl0 ++ gl1
def loose0 : List Str := ["PoolError", "BadShore", "BadPool", "BadHeight", "BadCounts", "BadLot", "BadKinds", "BadBounds", "BadDays", "BadSeen", "Nothing", "Full", "BadText", "SMALL", "HIGHEST", "MOST", "is_whole", "is_word", "rise", "is_pool", "is_ridge", "is_shore", "need_shore", "need_height", "all_lots", "are_good_counts", "need_counts", "in_lot", "need_both", "is_changed"]
def loose1 : List Str := ["all_changed", "does_follow", "follow", "least_of_night", "least_height", "changed_lot", "is_lot", "rim_of", "shown_by", "lot_for", "_law_cell", "_law_drawn", "_law_roll", "_law_rounds", "_law_term", "_law_told", "_law_any_ridges", "_law_any_shore", "_law_any_counts", "_law_any_after", "_law_with", "_law_lots", "_law_sum", "_law_sets", "_law_rim", "_law_lots_refused"]
def loose : List Str := loose0 ++ loose1
def tf : List He.Defn := [("_law_lots_refused", none), ("law", none)]
abbrev R : PySem.W.OpenRow := PySem.W.OpenLaw.row PySem.Challenge.rw_lowpools_k02_whole_one_night
abbrev hk : PySem.W.Hook := He.hookX 4 (faOf gl consL) fn [] tf (exK tf)
def ob (s : PySem.W.SharedT) : He.AlX := He.obsX 4 (faOf gl consL) fn [] tf (exK tf) (HandSHeadRun.getT s)
theorem ob_eq (s : PySem.W.SharedT) : ob s = hk.obs s.abs := He.obsX_eq (HandSHeadRun.getT_eq s)
theorem run (w : World) : HandSHeadRun.RunEq R (PySem.W.view R.prog [60]) hk ob 100000 loose w := by
  intro os
  kernel_rfl
theorem chkDefs : defsB fn tf gl (fnsOf P) tls P.tab = true := by kernel_rfl
def topAt (i : Nat) : Stmt := bodyP.getD i (.Pass ⟨0, 0, 0, 0⟩)
def recAt (i : Nat) : He.DefD := (dfOf (topAt i)).getD ⟨("", none), "", "", ⟨[], [], none, [], [], none, []⟩, [], ⟨.function, [], false, false, []⟩, [], []⟩
theorem memFn {i : Nat} {r : He.DefD} (h : i < bodyP.length) (e : dfOf (topAt i) = some r) : r ∈ fn := by
  refine List.mem_filterMap.mpr ⟨topAt i, ?_, e⟩
  unfold topAt
  rw [List.getD_eq_getElem?_getD, List.getElem?_eq_getElem h]
  exact List.getElem_mem h
theorem termSh : TermShape (recAt 48).body := TermShape.mk (by decide +kernel) (by decide +kernel)
theorem toldSh : ToldShape (recAt 49).body := ⟨_, _, _, _, _, _, _, _, _, _, rfl⟩
theorem tellOk : TellOk fn gl where
  term := ⟨recAt 48, memFn (i := 48) (by decide +kernel) rfl, rfl, rfl, rfl, rfl, ⟨_, rfl, rfl⟩, by kernel_rfl, by kernel_rfl, termSh⟩
  told := ⟨recAt 49, memFn (i := 49) (by decide +kernel) rfl, rfl, rfl, rfl, rfl, ⟨_, rfl, rfl⟩, by kernel_rfl, by kernel_rfl, toldSh⟩
  g := ⟨by decide +kernel, by decide +kernel⟩
theorem tellW (_ : ∃ j, tls.contains j = true) : TellOk fn gl := tellOk
end LP
open PySem PySem.W
open PySem.Calls PyProof.Rows
theorem LP.lawEnd (main : ∀ ns : List Int, ns.length ≤ 63 → (∀ z ∈ ns, Builtin.Int.intBits z ≤ 1048576) → ∃ S, LP.call LP.P 25 LP.i_law_k02 [.scr ns] [] = .ok (.bl true) S) : PySem.Challenge.rw_lowpools_k02_whole_one_night.Holds := by
  w_on; o_law
  refine HandSHeadRun.head_any (r := OpenLaw.row PySem.Challenge.rw_lowpools_k02_whole_one_night) (q := view (OpenLaw.row PySem.Challenge.rw_lowpools_k02_whole_one_night).prog [60]) (H := LP.hk) (ob := LP.ob) (M := 100000) (loose := LP.loose) (d := HandSHeadRun.topDef (OpenLaw.row PySem.Challenge.rw_lowpools_k02_whole_one_night).prog 60) (kwd := []) LP.ob_eq
    (by kernel_rfl) (fun s => by kernel_rfl) LP.run (by kernel_rfl) (by kernel_rfl) (by kernel_rfl) (by rfl) (by first | assumption | decide +kernel) (by decide +kernel) ⟨rfl, rfl, rfl, rfl, rfl, by decide +kernel⟩ ?hw ?hc
  case hw => w_witness2
  case hc =>
    refine LamX.walk_ofTsE (l := PySem.Challenge.rw_lowpools_k02_whole_one_night) (n := 63) (k := 75) (x := "script") (CX := fun w => L2N.CX (PySem.Challenge.rw_lowpools_k02_whole_one_night).prog w) rfl (by decide) (by kernel_rfl) ⟨rfl, by decide, by decide⟩ ?F (fun w H s e s' ⟨_, _, _, _, _, _, _, _, _, _, _, _, z⟩ => z)
    intro w mg fa h Y G hmg0
    obtain ⟨K, KX, c⟩ := Y
    have hmg : mg "law" = some (.ref fa) := by
      have e : (HandSHeadRun.topDef (OpenLaw.row PySem.Challenge.rw_lowpools_k02_whole_one_night).prog 60).name = ("law" : PySem.Str) := by kernel_rfl
      rw [← e]
      exact hmg0
    exact ⟨K, KX, LP.lawAt (n := 25) (j := LP.i_law_k02) (d := LP.d_law_k02) c KX G (fun _ => rfl) (by kernel_rfl) (by decide +kernel) (by decide +kernel) LP.chkDefs LP.tellW rfl rfl rfl rfl hmg main⟩
theorem PySem.Challenge.cw_lowpools_k02_whole_one_night_holds : PySem.Challenge.rw_lowpools_k02_whole_one_night.Holds :=
  LP.lawEnd fun ns hn _ => LP.Q.main_k02 (n := 14) ((LP.Q.hasOf (js := LP.ids) (ks := LP.cnms) rfl fun _ => rfl).mono (by decide +kernel) (by decide +kernel)) hn
