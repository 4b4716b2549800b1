import PyProof.Rows.All
import Wide.All
import OpenK.AllK
import Wide.FinOn
import HandS.ForMost
import HandS.ForExc
import HandS.Defaults
import HandS.ExcIs
import HandS.IsInst
import HandS.TupAny
import HandS.TupMul
import HandS.Style
import HandS.Wide
import PyProof.StrOps2
import PyProof.NeData
import HandS.More
import HandS.Conv
import HandS.Text
import HandS.Zip
import HandS.Flow
import HandS.Comp
import HandS.Small
import HandS.HeadEnd
import KE.KStateDown
import Lean
import HandS.Head0
import HandS.Head1
import HandS.Head2
import HandS.HeadHook1
import HandS.HeadHook2
import HandS.HeadHook4
import PySem.Challenge.RW_threeproofs_k04_names_and_sizes
section
set_option Elab.async false
set_option linter.all false
namespace Ev
open PySem

/-- a value: lst, dct are lists and dicts that nobody else holds; fz a list that is never changed; ref n is object n of the store -/
inductive D where
  | non | bl (b : Bool) | int (i : Int) | str (x : Str)
  | tup (ds : List D) | lst (ds : List D) | dct (ks vs : List D)
  | fz (ds : List D) | ref (n : Nat) | exc (c : Nat)

abbrev Sto := List D
abbrev Env := List (Option D)

inductive R (α : Type) where
  | ok (a : α) (S : Sto)
  | ex (c : Nat) (S : Sto)

def bnd {α β : Type} (m : Option (R α)) (f : α → Sto → Option (R β)) : Option (R β) := match m with
  | some (.ok a S) => f a S
  | some (.ex c S) => some (.ex c S)
  | none => none
section
variable {α β : Type}
@[simp] theorem bnd_ok {a : α} {S : Sto} {f : α → Sto → Option (R β)} : bnd (some (.ok a S)) f = f a S := rfl
@[simp] theorem bnd_ex {c : Nat} {S : Sto} {f : α → Sto → Option (R β)} : bnd (some (.ex c S)) f = some (.ex c S) := rfl
@[simp] theorem bnd_none {f : α → Sto → Option (R β)} : bnd none f = none := rfl
theorem bnd_ite {c : Prop} [Decidable c] {x y : Option (R α)} {f : α → Sto → Option (R β)} : bnd (if c then x else y) f = if c then bnd x f else bnd y f := by split <;> rfl
end

/-! ### walks over a value -/
mutual
/-- every object that is named stands below b -/
def D.under (b : Nat) : D → Bool
  | .ref n => decide (n < b)
  | .tup ds => unders b ds
  | .lst ds => unders b ds
  | .fz ds => unders b ds
  | .dct ks vs => unders b ks && unders b vs
  | _ => true
def unders (b : Nat) : List D → Bool
  | [] => true
  | d :: ds => d.under b && unders b ds
end
mutual
/-- plain data: None, bools, ints, texts, tuples of such -/
def D.pure : D → Bool
  | .non => true
  | .bl _ => true
  | .int _ => true
  | .str _ => true
  | .tup ds => pures ds
  | _ => false
def pures : List D → Bool
  | [] => true
  | d :: ds => d.pure && pures ds
end
mutual
/-- no list or dict of its own within -/
def D.settled : D → Bool
  | .tup ds => settleds ds
  | .lst _ => false
  | .dct _ _ => false
  | _ => true
def settleds : List D → Bool
  | [] => true
  | d :: ds => d.settled && settleds ds
end
mutual
/-- own lists and dicts are put into the store -/
def settle : D → Sto → D × Sto
  | .tup ds, S => let r := settles ds S; (.tup r.1, r.2)
  | .lst ds, S => let r := settles ds S; (.ref r.2.length, r.2 ++ [.lst r.1])
  | .dct ks vs, S => let r := settles vs S; (.ref r.2.length, r.2 ++ [.dct ks r.1])
  | d, S => (d, S)
def settles : List D → Sto → List D × Sto
  | [], S => ([], S)
  | d :: ds, S => let r := settle d S; let q := settles ds r.2; (r.1 :: q.1, q.2)
end
mutual
def D.depth : D → Nat
  | .tup ds => depths ds + 1
  | .lst ds => depths ds + 1
  | .fz ds => depths ds + 1
  | .dct ks vs => max (depths ks) (depths vs) + 1
  | _ => 0
def depths : List D → Nat
  | [] => 0
  | d :: ds => max d.depth (depths ds)
end
mutual
/-- == of data without refs -/
def D.eqv : D → D → Bool
  | .non, .non => true
  | .bl a, .bl b => a == b
  | .bl a, .int b => decide ((if a then 1 else 0) = b)
  | .int a, .bl b => decide (a = (if b then 1 else 0))
  | .int a, .int b => decide (a = b)
  | .str a, .str b => decide (a = b)
  | .tup a, .tup b => eqvs a b
  | .lst a, .lst b => eqvs a b
  | _, _ => false
def eqvs : List D → List D → Bool
  | [], [] => true
  | a :: as, b :: bs => a.eqv b && eqvs as bs
  | _, _ => false
end

/-! ### out of the store -/
/-- what is named at or behind b, taken out as own -/
def reify (S : Sto) (b : Nat) : Nat → D → Option D
  | 0, _ => none
  | k + 1, d => if d.under b then some d else match d with
    | .tup ds => (ds.mapM (reify S b k)).map .tup
    | .lst ds => (ds.mapM (reify S b k)).map .lst
    | .dct ks vs => (vs.mapM (reify S b k)).map (.dct ks)
    | .ref n => match S[n]? with
      | some (.lst ds) => (ds.mapM (reify S b k)).map .lst
      | some (.dct ks vs) => (vs.mapM (reify S b k)).map (.dct ks)
      | _ => none
    | _ => none
/-- the objects that reify takes out -/
def taken (S : Sto) (b : Nat) : Nat → D → List Nat
  | 0, _ => []
  | k + 1, d => if d.under b then [] else match d with
    | .tup ds => ds.flatMap (taken S b k)
    | .lst ds => ds.flatMap (taken S b k)
    | .dct _ vs => vs.flatMap (taken S b k)
    | .ref n => match S[n]? with
      | some (.lst ds) => ds.flatMap (taken S b k) ++ [n]
      | some (.dct _ vs) => vs.flatMap (taken S b k) ++ [n]
      | _ => []
    | _ => []
def closed (b : Nat) (S : Sto) : Bool := unders b (S.take b)
/-- a def is left: its own objects go, what is handed back is the caller's own -/
def leave (b : Nat) (d : D) (S : Sto) : Option (R D) :=
  if closed b S then match reify S b 9 d with
    | some d' => if (taken S b 9 d).Nodup then some (.ok d' (S.take b)) else none
    | none => none
  else some (.ok d S)
def leaveX (b : Nat) (c : Nat) (S : Sto) : Option (R D) := some (.ex c (if closed b S then S.take b else S))

/-- all that is named put in place -/
def res (S : Sto) : Nat → D → Option D
  | 0, _ => none
  | k + 1, d => if d.pure then some d else match d with
    | .tup ds => (ds.mapM (res S k)).map .tup
    | .lst ds => (ds.mapM (res S k)).map .lst
    | .fz ds => (ds.mapM (res S k)).map .lst
    | .ref n => match S[n]? with
      | some (.lst ds) => (ds.mapM (res S k)).map .lst
      | _ => none
    | _ => none

/-! ### primitive operations -/
def listOf (S : Sto) : D → Option (List D)
  | .lst ds => some ds
  | .fz ds => some ds
  | .ref n => match S[n]? with
    | some (.lst ds) => some ds
    | _ => none
  | _ => none
/-- a list that is no locked one -/
def mutOf (S : Sto) : D → Option (List D)
  | .lst ds => some ds
  | .ref n => match S[n]? with
    | some (.lst ds) => some ds
    | _ => none
  | _ => none
def seqOf (S : Sto) : D → Option (List D)
  | .tup ds => some ds
  | d => listOf S d
def dictOf (S : Sto) : D → Option (List D × List D)
  | .dct ks vs => some (ks, vs)
  | .ref n => match S[n]? with
    | some (.dct ks vs) => some (ks, vs)
    | _ => none
  | _ => none
def truth (S : Sto) : D → Option Bool
  | .non => some false
  | .bl b => some b
  | .int i => some (i != 0)
  | .str x => if x.length ≤ 16777216 then some (x.length != 0) else none
  | .tup ds => some (!ds.isEmpty)
  | d => match listOf S d with
    | some ds => some (!ds.isEmpty)
    | none => none
def eqE (S : Sto) (a b : D) : Option Bool := match res S 60 a, res S 60 b with
  | some x, some y => if min x.depth y.depth ≤ 150 then some (x.eqv y) else none
  | _, _ => none

inductive Bin where | add | sub | mul | fdiv | mod | pow
  deriving DecidableEq
inductive Cmp where | eq | ne | lt | le | gt | ge | in_ | notin
  deriving DecidableEq
inductive Ty where | int | str | tuple | list | dict | bool | valueError | cls (c : Nat)
  deriving DecidableEq

def mulOk (i j : Int) : Bool := decide (i.natAbs.log2 + j.natAbs.log2 < 1000000)
def divOk (j : Int) : Bool := decide (j ≠ 0) && decide (j.natAbs.log2 < 9000)
def repL (n : Int) (ds : List D) : List D := (List.replicate n.toNat ds).flatten
def repS (n : Int) (x : Str) : Str := ⟨((List.replicate n.toNat x.cps.toList).flatten).toArray⟩
def lenOk (n : Nat) : Bool := decide (n ≤ 16777216)
def binE (S : Sto) : Bin → D → D → Option D
  | .add, .int i, .int j => some (.int (i + j))
  | .add, .str x, .str y => if lenOk (x.length + y.length) then some (.str (x ++ y)) else none
  | .add, .tup a, .tup b => if lenOk (a.length + b.length) then some (.tup (a ++ b)) else none
  | .add, a, b => match mutOf S a, mutOf S b with
    | some x, some y => if lenOk (x.length + y.length) then some (.lst (x ++ y)) else none
    | _, _ => none
  | .sub, .int i, .int j => some (.int (i - j))
  | .mul, .int i, .int j => if mulOk i j then some (.int (i * j)) else none
  | .mul, .str x, .int n => if decide (0 ≤ n) && decide (n ≤ 1000) && decide (x.length ≤ 1000) then some (.str (repS n x)) else none
  | .mul, .tup a, .int n => if decide (2 ≤ n) && decide (n ≤ 1000) && decide (a.length ≤ 1000) && !a.isEmpty && settleds a then some (.tup (repL n a)) else none
  | .fdiv, .int i, .int j => if divOk j then some (.int (i.fdiv j)) else none
  | .mod, .int i, .int j => if decide (j ≠ 0) then some (.int (i.fmod j)) else none
  | .pow, .int i, .int j => if decide (0 ≤ j) && decide (j ≤ 1000000) && decide (i.natAbs < 2 ^ 64) then some (.int (i ^ j.toNat)) else none
  | _, _, _ => none

/-- the place of an index of any sign -/
def atI {α : Type} (xs : List α) (i : Int) : Option α := if 0 ≤ i then xs[i.toNat]? else if -(xs.length : Int) ≤ i then xs[(i + xs.length).toNat]? else none
def find (ks : List D) (k : D) : Option Nat := ks.findIdx? fun x => x.eqv k
/-- what may be a dict's key -/
def keyOk : D → Bool
  | .int _ => true
  | .str _ => true
  | _ => false
def getK (ks vs : List D) (k : D) : Option D := match find ks k with
  | some i => vs[i]?
  | none => none
def putK (ks vs : List D) (k v : D) : List D × List D := match find ks k with
  | some i => (ks, vs.set i v)
  | none => (ks ++ [k], vs ++ [v])
def resL (S : Sto) (k : Nat) (ds : List D) : Option (List D) := if pures ds then some ds else ds.mapM (res S k)
def inL (S : Sto) (x : D) (ds : List D) : Option Bool := match res S 60 x, resL S 60 ds with
  | some y, some ys => if min (depths ys) y.depth ≤ 150 then some (ys.any fun z => z.eqv y) else none
  | _, _ => none
def intOf : D → Option Int
  | .int i => some i
  | .bl b => some (if b then 1 else 0)
  | _ => none
def strLt (x y : Str) : Bool := decide (x.cps.toList < y.cps.toList)
def ltE (a b : D) : Option Bool := match a, b with
  | .int i, .int j => some (decide (i < j))
  | .str x, .str y => some (strLt x y)
  | _, _ => none
def inStr (x y : Str) : Bool := !(Builtin.Str.occurrences y x 0 y.length 1).isEmpty
def inE (S : Sto) (a b : D) : Option Bool := match b with
  | .str y => match a with
    | .str x => some (inStr x y)
    | _ => none
  | _ => match seqOf S b with
    | some ds => inL S a ds
    | none => match dictOf S b with
      | some (ks, _) => if keyOk a then some (find ks a).isSome else none
      | none => none
def cmpE (S : Sto) : Cmp → D → D → Option Bool
  | .eq, a, b => eqE S a b
  | .ne, a, b => (eqE S a b).map (!·)
  | .lt, a, b => ltE a b
  | .gt, a, b => ltE b a
  | .le, .int i, .int j => some (decide (i ≤ j))
  | .ge, .int i, .int j => some (decide (j ≤ i))
  | .in_, a, b => inE S a b
  | .notin, a, b => (inE S a b).map (!·)
  | _, _, _ => none
def idxE (S : Sto) (a i : D) : Option D := match a with
  | .tup ds => match i with
    | .int k => atI ds k
    | _ => none
  | .str x => match i with
    | .int k => if x.length ≤ 16777216 then (atI x.cps.toList k).map fun c => .str ⟨#[c]⟩ else none
    | _ => none
  | _ => match listOf S a with
    | some ds => match i with
      | .int k => atI ds k
      | _ => none
    | none => match dictOf S a with
      | some (ks, vs) => if keyOk i then getK ks vs i else none
      | none => none
def sIx (n d : Nat) : D → Option Nat
  | .non => some d
  | .int v => some (if v < 0 then (v + (n : Int)).toNat else min v.toNat n)
  | _ => none
def isPart : D → Bool
  | .non => true
  | .int _ => true
  | _ => false
def cut {α : Type} (xs : List α) (i j : Nat) : List α := (xs.drop i).take (j - i)
def slE (S : Sto) (a lo hi : D) : Option D := match a with
  | .tup ds => match sIx ds.length 0 lo, sIx ds.length ds.length hi with
    | some i, some j => some (.tup (cut ds i j))
    | _, _ => none
  | .str x => match sIx x.length 0 lo, sIx x.length x.length hi with
    | some i, some j => if x.length ≤ 16777216 then some (.str ⟨(cut x.cps.toList i j).toArray⟩) else none
    | _, _ => none
  | _ => match listOf S a with
    | some ds => match sIx ds.length 0 lo, sIx ds.length ds.length hi with
      | some i, some j => some (.lst (cut ds i j))
      | _, _ => none
    | none => none

/-- the built-in type of a value -/
inductive VT where | non | bl | int | str | tup | lst | dct
  deriving DecidableEq
def vtOf (S : Sto) : D → Option VT
  | .non => some .non
  | .bl _ => some .bl
  | .int _ => some .int
  | .str _ => some .str
  | .tup _ => some .tup
  | .lst _ => some .lst
  | .fz _ => some .lst
  | .dct _ _ => some .dct
  | .ref n => match S[n]? with
    | some (.lst _) => some .lst
    | some (.dct _ _) => some .dct
    | _ => none
  | .exc _ => none
def isVT (t : Ty) : VT → Option Bool
  | v => match t with
    | .int => some (v == .int || v == .bl)
    | .str => some (v == .str)
    | .tuple => some (v == .tup)
    | .list => some (v == .lst)
    | .dict => some (v == .dct)
    | .bool => some (v == .bl)
    | _ => none
def isTy (isa : Nat → Ty → Bool) (S : Sto) (t : Ty) (d : D) : Option Bool := match d with
  | .exc c => match t with
    | .valueError => some (isa c t)
    | .cls _ => some (isa c t)
    | _ => none
  | _ => match vtOf S d with
    | some v => isVT t v
    | none => none
def isTys (isa : Nat → Ty → Bool) (S : Sto) (d : D) : List Ty → Option Bool
  | [] => some false
  | t :: ts => match isTy isa S t d with
    | some true => some true
    | some false => isTys isa S d ts
    | none => none

inductive Blt where | len | abs | min2 | max2 | maxL | minL | sum | sorted | tuple | list | int | str
  deriving DecidableEq
def intsOf : List D → Option (List Int)
  | [] => some []
  | .int i :: r => (intsOf r).map (i :: ·)
  | _ => none
def strsOf : List D → Option (List Str)
  | [] => some []
  | .str i :: r => (strsOf r).map (i :: ·)
  | _ => none
def sortedStrs (xs : List Str) : List Str := xs.mergeSort fun x y => !strLt y x
def maxOf : List Int → Int
  | [] => 0
  | x :: r => r.foldl max x
def bltE (S : Sto) : Blt → List D → Option D
  | .len, [a] => match a with
    | .str x => if x.length ≤ 16777216 then some (.int x.length) else none
    | _ => match seqOf S a with
      | some ds => some (.int ds.length)
      | none => match dictOf S a with
        | some (ks, _) => some (.int ks.length)
        | none => none
  | .abs, [.int i] => some (.int (if i < 0 then -i else i))
  | .min2, [.int i, .int j] => some (.int (if j < i then j else i))
  | .max2, [.int i, .int j] => some (.int (if j > i then j else i))
  | .maxL, [a] => match (listOf S a).bind intsOf with
    | some (x :: r) => some (.int (maxOf (x :: r)))
    | _ => none
  | .sum, [a] => match (listOf S a).bind intsOf with
    | some ns => some (.int ns.sum)
    | none => none
  | .sorted, [a] => match listOf S a with
    | some ds => match strsOf ds with
      | some xs => if xs.length < 64 then some (.lst ((sortedStrs xs).map .str)) else none
      | none => none
    | none => match dictOf S a with
      | some (ks, _) => match strsOf ks with
        | some xs => if xs.length < 64 then some (.lst ((sortedStrs xs).map .str)) else none
        | none => none
      | none => none
  | .tuple, [a] => (seqOf S a).map .tup
  | .list, [a] => (seqOf S a).map .lst
  | .int, [.int i] => some (.int i)
  | .int, [.bl b] => some (.int (if b then 1 else 0))
  | _, _ => none

inductive Mth where | append | pop | extend | join | upper | get
  deriving DecidableEq
def mthE : Mth → D → List D → Sto → Option (D × Sto)
  | .append, .ref n, [v], S => match S[n]? with
    | some (.lst ds) => if ds.length < 16777216 then let r := settle v S; some (.non, r.2.set n (.lst (ds ++ [r.1]))) else none
    | _ => none
  | .pop, .ref n, [], S => match S[n]? with
    | some (.lst ds) => match ds.getLast? with
      | some d => some (d, S.set n (.lst ds.dropLast))
      | none => none
    | _ => none
  | .extend, .ref n, [.tup es], S => match S[n]? with
    | some (.lst ds) => if lenOk (ds.length + es.length) then let r := settles es S; some (.non, r.2.set n (.lst (ds ++ r.1))) else none
    | _ => none
  | .join, .str x, [v], S => match (listOf S v).bind strsOf with
    | some ys => if decide ((ys.map (·.length)).sum + ys.length * x.length ≤ 16777216) then some (.str (Txt.join x ys), S) else none
    | none => none
  | .upper, .str x, [], S => if x.length ≤ 5592405 then some (.str (Txt.upper x), S) else none
  | .get, d, [k, v], S => match dictOf S d with
    | some (ks, vs) => if keyOk k then some ((getK ks vs k).getD v, S) else none
    | none => none
  | _, _, _, _ => none

/-- what a method is called on -/
def recvOk : Mth → D → Sto → Bool
  | .append, d, S => (listOf S d).isSome
  | .pop, d, S => (listOf S d).isSome
  | .extend, d, S => (listOf S d).isSome
  | .join, .str _, _ => true
  | .upper, .str _, _ => true
  | .get, d, S => (dictOf S d).isSome
  | _, _, _ => false
/-! ### the syntax -/
inductive ItK where | val | rng1 | rng2 | zip | enum | items
  deriving DecidableEq
inductive Tg where | nm (i : Nat) | tp (is : List Nat)
inductive PE where
  | var (i : Nat) | cst (d : D)
  | tup (es : List PE) | lst (es : List PE) | dct0
  | bin (o : Bin) (a b : PE) | neg (a : PE) | not (a : PE) | and (a b : PE) | or (a b : PE)
  | cmp (o : Cmp) (a b : PE) | cmp2 (o o' : Cmp) (a b c : PE)
  | is_ (neg : Bool) (a : PE) (c : D)
  | ife (c a b : PE)
  | idx (a i : PE) | sl (a lo hi : PE)
  | call (f : Nat) (es : List PE) | blt (b : Blt) (es : List PE) | mth (m : Mth) (o : PE) (es : List PE)
  | isi (a : PE) (ts : List Ty)
  | comp (tg : Tg) (k : ItK) (es : List PE) (ifs : List PE) (elt : PE)
inductive PS where
  | set (i : Nat) (e : PE) | setT (is : List Nat) (e : PE) | par (is : List Nat) (es : List PE) | setI (o i v : PE)
  | aug (i : Nat) (o : Bin) (e : PE)
  | expr (e : PE) | ret (e : PE)
  | ife (c : PE) (a b : List PS)
  | for_ (tg : Tg) (k : ItK) (es : List PE) (body : List PS)
  | while_ (c : PE) (body : List PS)
  | raise (c : Nat)
  | try_ (body : List PS) (c : Nat) (i j : Nat)

structure G where
  F : Nat → List D → Sto → Option (R D)
  isa : Nat → Ty → Bool

def tests {α : Type} (m : Option (R D)) (f : Bool → Sto → Option α) (g : Nat → Sto → Option α) : Option α := match m with
  | some (.ok d S) => match truth S d with
    | some b => f b S
    | none => none
  | some (.ex c S) => g c S
  | none => none
section
variable {α : Type} {f : Bool → Sto → Option α} {g : Nat → Sto → Option α}
@[simp] theorem tests_ok {d : D} {S : Sto} : tests (some (.ok d S)) f g = match truth S d with | some b => f b S | none => none := rfl
@[simp] theorem tests_ex {c : Nat} {S : Sto} : tests (some (.ex c S)) f g = g c S := rfl
@[simp] theorem tests_none : tests none f g = none := rfl
end

/-- what a for walks: the items; the object that has to stay as it is -/
def itemsOf (S : Sto) : ItK → List D → Option (List D × Option (Nat × List D))
  | .val, [.tup ds] => some (ds, none)
  | .val, [.lst ds] => some (ds, none)
  | .val, [.fz ds] => some (ds, none)
  | .val, [.str x] => if x.length ≤ 16777216 then some (x.cps.toList.map fun c => .str ⟨#[c]⟩, none) else none
  | .val, [.ref n] => match S[n]? with
    | some (.lst ds) => some (ds, some (n, ds))
    | _ => none
  | .rng1, [.int j] => if decide (j ≤ 1000000) && decide (-1000000 ≤ j) then some ((List.range j.toNat).map fun (k : Nat) => .int k, none) else none
  | .rng2, [.int i, .int j] => if decide (j ≤ 1000000) && decide (-1000000 ≤ j) && decide (i ≤ 1000000) && decide (-1000000 ≤ i) then some ((List.range (j - i).toNat).map fun (k : Nat) => .int (i + k), none) else none
  | .zip, [.tup a, .tup b] => if settleds a && settleds b then some (a.zipWith (fun x y => .tup [x, y]) b, none) else none
  | _, _ => none
/-- the walked list stands as it stood -/
def stays (lk : Option (Nat × List D)) (S : Sto) : Prop := match lk with
  | none => True
  | some (n, ds) => S[n]? = some (.lst ds)
open Classical in
noncomputable def guardS {α : Type} (lk : Option (Nat × List D)) (S : Sto) (x : Option α) : Option α := if stays lk S then x else none

def setNames : List Nat → List D → Env → Option Env
  | [], [], ρ => some ρ
  | i :: is, d :: ds, ρ => setNames is ds (ρ.set i (some d))
  | _, _, _ => none
/-- a target is given a value -/
def setTg (tg : Tg) (d : D) (ρ : Env) (S : Sto) : Option (Env × Sto) := match tg with
  | .nm i => let r := settle d S; some (ρ.set i (some r.1), r.2)
  | .tp is => match d with
    | .tup ds => let r := settles ds S; (setNames is r.1 ρ).map fun ρ' => (ρ', r.2)
    | _ => none
/-- .. where nothing may be raised -/
def bndN {α β : Type} (m : Option (R α)) (f : α → Sto → Option β) : Option β := match m with
  | some (.ok a S) => f a S
  | _ => none
@[simp] theorem bndN_ok {α β : Type} {a : α} {S : Sto} {f : α → Sto → Option β} : bndN (some (.ok a S)) f = f a S := rfl
@[simp] theorem bndN_ex {α β : Type} {c : Nat} {S : Sto} {f : α → Sto → Option β} : bndN (some (.ex c S)) f = none := rfl
@[simp] theorem bndN_none {α β : Type} {f : α → Sto → Option β} : bndN none f = none := rfl
noncomputable def compL (lk : Option (Nat × List D)) (f : D → Sto → Option (R (Option D))) : List D → Sto → Option (List D × Sto)
  | [], S => guardS lk S (some ([], S))
  | d :: ds, S => guardS lk S (bndN (f d S) fun x S => (compL lk f ds S).map fun r => (match x with | some y => y :: r.1 | none => r.1, r.2))

/-- x is c, x is not c, c written: None, True or False -/
def isC (ng : Bool) : D → D → Option Bool
  | .non, .non => some (!ng)
  | .bl b, .bl b' => some (ng != (b == b'))
  | .non, _ => some ng
  | .bl _, _ => some ng
  | _, _ => none
mutual
noncomputable def evalE (g : G) : PE → Env → Sto → Option (R D)
  | .var i, ρ, S => match ρ[i]? with
    | some (some d) => some (.ok d S)
    | _ => none
  | .cst d, _, S => some (.ok d S)
  | .tup es, ρ, S => bnd (evalEs g es ρ S) fun ds S => some (.ok (.tup ds) S)
  | .lst es, ρ, S => bnd (evalEs g es ρ S) fun ds S => some (.ok (.lst ds) S)
  | .dct0, _, S => some (.ok (.dct [] []) S)
  | .bin o a b, ρ, S => bnd (evalE g a ρ S) fun x S => bnd (evalE g b ρ S) fun y S => (binE S o x y).map fun z => .ok z S
  | .neg a, ρ, S => bnd (evalE g a ρ S) fun x S => match x with
    | .int i => some (.ok (.int (-i)) S)
    | _ => none
  | .not a, ρ, S => tests (evalE g a ρ S) (fun b S => some (.ok (.bl (!b)) S)) fun c S => some (.ex c S)
  | .and a b, ρ, S => bnd (evalE g a ρ S) fun x S => match truth S x with
    | some true => evalE g b ρ S
    | some false => some (.ok x S)
    | none => none
  | .or a b, ρ, S => bnd (evalE g a ρ S) fun x S => match truth S x with
    | some true => some (.ok x S)
    | some false => evalE g b ρ S
    | none => none
  | .cmp o a b, ρ, S => bnd (evalE g a ρ S) fun x S => bnd (evalE g b ρ S) fun y S => (cmpE S o x y).map fun z => .ok (.bl z) S
  | .cmp2 o o' a b c, ρ, S => bnd (evalE g a ρ S) fun x S => bnd (evalE g b ρ S) fun y S => match cmpE S o x y with
    | some true => bnd (evalE g c ρ S) fun z S => (cmpE S o' y z).map fun u => .ok (.bl u) S
    | some false => some (.ok (.bl false) S)
    | none => none
  | .is_ n a c, ρ, S => bnd (evalE g a ρ S) fun x S => (isC n c x).map fun b => .ok (.bl b) S
  | .ife c a b, ρ, S => tests (evalE g c ρ S) (fun t S => if t then evalE g a ρ S else evalE g b ρ S) fun c S => some (.ex c S)
  | .idx a i, ρ, S => bnd (evalE g a ρ S) fun x S => bnd (evalE g i ρ S) fun y S => (idxE S x y).map fun z => .ok z S
  | .sl a lo hi, ρ, S => bnd (evalE g a ρ S) fun x S => bnd (evalE g lo ρ S) fun l S => if isPart l then bnd (evalE g hi ρ S) fun h S => (slE S x l h).map fun z => .ok z S else none
  | .call f es, ρ, S => bnd (evalEs g es ρ S) fun ds S => g.F f ds S
  | .blt b es, ρ, S => bnd (evalEs g es ρ S) fun ds S => (bltE S b ds).map fun z => .ok z S
  | .mth m o es, ρ, S => bnd (evalE g o ρ S) fun x S => if recvOk m x S then bnd (evalEs g es ρ S) fun ds S => (mthE m x ds S).map fun r => .ok r.1 r.2 else none
  | .isi a ts, ρ, S => bnd (evalE g a ρ S) fun x S => (isTys g.isa S x ts).map fun b => .ok (.bl b) S
  | .comp tg k es ifs elt, ρ, S => bnd (evalEs g es ρ S) fun ds S => match itemsOf S k ds with
    | some (its, lk) => (compL lk (fun d S => match setTg tg d ρ S with
        | some (ρ', S) => bnd (evalIfs g ifs ρ' S) fun b S => if b then bnd (evalE g elt ρ' S) fun x S => some (.ok (some x) S) else some (.ok none S)
        | none => none) its S).map fun r => .ok (.lst r.1) r.2
    | none => none
noncomputable def evalEs (g : G) : List PE → Env → Sto → Option (R (List D))
  | [], _, S => some (.ok [] S)
  | e :: es, ρ, S => bnd (evalE g e ρ S) fun d S => bnd (evalEs g es ρ S) fun ds S => some (.ok (d :: ds) S)
noncomputable def evalIfs (g : G) : List PE → Env → Sto → Option (R Bool)
  | [], _, S => some (.ok true S)
  | e :: es, ρ, S => tests (evalE g e ρ S) (fun b S => if b then evalIfs g es ρ S else some (.ok false S)) fun c S => some (.ex c S)
end

inductive Fl where
  | nx (ρ : Env)
  | ret (d : D)
  | ex (c : Nat)

def bndS {α : Type} (m : Option (R α)) (f : α → Sto → Option (Fl × Sto)) : Option (Fl × Sto) := match m with
  | some (.ok a S) => f a S
  | some (.ex c S) => some (.ex c, S)
  | none => none
def seqS (m : Option (Fl × Sto)) (f : Env → Sto → Option (Fl × Sto)) : Option (Fl × Sto) := match m with
  | some (.nx ρ, S) => f ρ S
  | r => r
section
variable {α : Type}
@[simp] theorem bndS_ok {a : α} {S : Sto} {f : α → Sto → Option (Fl × Sto)} : bndS (some (.ok a S)) f = f a S := rfl
@[simp] theorem bndS_ex {c : Nat} {S : Sto} {f : α → Sto → Option (Fl × Sto)} : bndS (some (.ex c S)) f = some (.ex c, S) := rfl
@[simp] theorem bndS_none {f : α → Sto → Option (Fl × Sto)} : bndS none f = none := rfl
@[simp] theorem seqS_nx {ρ : Env} {S : Sto} {f : Env → Sto → Option (Fl × Sto)} : seqS (some (.nx ρ, S)) f = f ρ S := rfl
@[simp] theorem seqS_ret {d : D} {S : Sto} {f : Env → Sto → Option (Fl × Sto)} : seqS (some (.ret d, S)) f = some (.ret d, S) := rfl
@[simp] theorem seqS_ex {c : Nat} {S : Sto} {f : Env → Sto → Option (Fl × Sto)} : seqS (some (.ex c, S)) f = some (.ex c, S) := rfl
@[simp] theorem seqS_none {f : Env → Sto → Option (Fl × Sto)} : seqS none f = none := rfl
end

noncomputable def forL (lk : Option (Nat × List D)) (f : D → Env → Sto → Option (Fl × Sto)) : List D → Env → Sto → Option (Fl × Sto)
  | [], ρ, S => guardS lk S (some (.nx ρ, S))
  | d :: ds, ρ, S => guardS lk S (seqS (f d ρ S) fun ρ S => forL lk f ds ρ S)
def whileL (c : Env → Sto → Option (R D)) (b : Env → Sto → Option (Fl × Sto)) (ρ : Env) (S : Sto) : Option (Fl × Sto) :=
  match c ρ S with
  | none => none
  | some (.ex x S) => some (.ex x, S)
  | some (.ok d S) => match truth S d with
    | none => none
    | some false => some (.nx ρ, S)
    | some true => match b ρ S with
      | none => none
      | some (.ret d, S) => some (.ret d, S)
      | some (.ex x, S) => some (.ex x, S)
      | some (.nx ρ', S') => whileL c b ρ' S'
partial_fixpoint

def setItE (o i v : D) (S : Sto) : Option Sto := match o with
  | .ref n => match S[n]? with
    | some (.lst ds) => match i with
      | .int k => let r := settle v S; if 0 ≤ k ∧ k < ds.length then some (r.2.set n (.lst (ds.set k.toNat r.1))) else none
      | _ => none
    | some (.dct ks vs) => if keyOk i && decide (ks.length < 16777216) then let r := settle v S; let q := putK ks vs i r.1; some (r.2.set n (.dct q.1 q.2)) else none
    | _ => none
  | _ => none

mutual
noncomputable def execS (g : G) : PS → Env → Sto → Option (Fl × Sto)
  | .set i e, ρ, S => bndS (evalE g e ρ S) fun d S => let r := settle d S; some (.nx (ρ.set i (some r.1)), r.2)
  | .setT is e, ρ, S => bndS (evalE g e ρ S) fun d S => match setTg (.tp is) d ρ S with
    | some (ρ', S) => some (.nx ρ', S)
    | none => none
  | .par is es, ρ, S => bndS (evalEs g es ρ S) fun ds S => match setTg (.tp is) (.tup ds) ρ S with
    | some (ρ', S) => some (.nx ρ', S)
    | none => none
  | .setI o i v, ρ, S => bndS (evalE g v ρ S) fun x S => bndS (evalE g o ρ S) fun a S => bndS (evalE g i ρ S) fun k S => (setItE a k x S).map fun S => (.nx ρ, S)
  | .aug i o e, ρ, S => match ρ[i]? with
    | some (some x) => bndS (evalE g e ρ S) fun y S => match x, y with
      | .int _, .int _ => (binE S o x y).map fun z => (.nx (ρ.set i (some z)), S)
      | _, _ => none
    | _ => none
  | .expr e, ρ, S => bndS (evalE g e ρ S) fun _ S => some (.nx ρ, S)
  | .ret e, ρ, S => bndS (evalE g e ρ S) fun d S => some (.ret d, S)
  | .ife c a b, ρ, S => tests (evalE g c ρ S) (fun t S => if t then execB g a ρ S else execB g b ρ S) fun c S => some (.ex c, S)
  | .for_ tg k es body, ρ, S => bndS (evalEs g es ρ S) fun ds S => match itemsOf S k ds with
    | some (its, lk) => forL lk (fun d ρ S => match setTg tg d ρ S with
        | some (ρ', S) => execB g body ρ' S
        | none => none) its ρ S
    | none => none
  | .while_ c body, ρ, S => whileL (fun ρ S => evalE g c ρ S) (fun ρ S => execB g body ρ S) ρ S
  | .raise c, _, S => some (.ex c, S)
  | .try_ body c i j, ρ, S => match execB g body ρ S with
    | some (.ex x, S) => if g.isa x (.cls c) then some (.nx ((ρ.set i (some (.exc x))).set j none), S) else some (.ex x, S)
    | r => r
noncomputable def execB (g : G) : List PS → Env → Sto → Option (Fl × Sto)
  | [], ρ, S => some (.nx ρ, S)
  | s :: ss, ρ, S => seqS (execS g s ρ S) fun ρ S => execB g ss ρ S
end

structure Fn where
  np : Nat
  ns : Nat
  body : List PS
def startE (ns : Nat) (ds : List D) : Env := ds.map some ++ List.replicate (ns - ds.length) none
/-- the def f called, at most n calls one in another -/
noncomputable def callN (fns : List Fn) (isa : Nat → Ty → Bool) : Nat → Nat → List D → Sto → Option (R D)
  | 0, _, _, _ => none
  | n + 1, f, ds, S => match fns[f]? with
    | none => none
    | some fd => if ds.length = fd.np then
        match execB ⟨callN fns isa n, isa⟩ fd.body (startE fd.ns (settles ds S).1) (settles ds S).2 with
        | some (.nx _, S') => leave S.length .non S'
        | some (.ret d, S') => leave S.length d S'
        | some (.ex c, S') => leaveX S.length c S'
        | none => none
      else none
end Ev
end
section
set_option Elab.async false
set_option linter.all false
set_option maxRecDepth 100000
namespace Ev
open PySem PySem.Spec PyProof.Rows L2
abbrev Slots := List (Option V)
/-- a list that is never changed -/
def FzAt (K : PySem.W.Frag) (H : Hp) (a : Addr) (xs : List V) : Prop := (∃ o, H a = some (.frz o (.lst xs))) ∨ ∃ (o : Obj) (its : Array Value) (n : Nat), K.lookup a = some o ∧ o.cls = .type "list" ∧ o.dict = none ∧ o.data = .seq its n ∧ its.size ≤ sizeLine ∧ Vals xs its.toList
theorem FzAt.sq {K : PySem.W.Frag} {H : Hp} {a : Addr} {xs : List V} (h : FzAt K H a xs) : SqL K H a xs := h.elim (fun ⟨o, e⟩ => .inl (.inr ⟨o, e⟩)) .inr

/-- what is fixed through a program: the written part, the world, where the classes stand -/
structure Pgm where
  K : PySem.W.Frag
  w : World
  C : Nat → Addr

def excHO (C a : Addr) : HO := .ext fun h => ∃ o vs, h.get? a = some o ∧ o.cls = .ref C ∧ o.dict = none ∧ o.data = .fields vs
def keyD : Key → D
  | .inl i => .int i
  | .inr x => .str x

section
variable (T : Pgm) (H : Hp) (μ : List Addr)
/-- at a stands a dict with these keys and values -/
def DictAt (a : Addr) (ks : List D) (us : List V) : Prop := ∃ kvs : List (Key × V), H a = some (.dK kvs) ∧ ks = kvs.map (fun p => keyD p.1) ∧ us = kvs.map (·.2) ∧ (kvs.map (·.1)).Nodup
mutual
/-- d is what v stands for; fp: the objects that it holds alone, in the order in which settle lays them -/
def Rep : D → V → List Addr → Prop
  | .non, v, fp => v = .non ∧ fp = []
  | .bl b, v, fp => v = .bl b ∧ fp = []
  | .int i, v, fp => v = .int i ∧ fp = []
  | .str x, v, fp => v = .str x ∧ fp = []
  | .tup ds, v, fp => ∃ a vs, v = .ref a ∧ SqT T.K H a vs ∧ Reps ds vs fp
  | .lst ds, v, fp => ∃ a vs fp', v = .ref a ∧ H a = some (.lst vs) ∧ Reps ds vs fp' ∧ fp = fp' ++ [a]
  | .fz ds, v, fp => ∃ a vs, v = .ref a ∧ FzAt T.K H a vs ∧ Reps ds vs fp ∧ fp = []
  | .dct ks vs, v, fp => ∃ a us fp', v = .ref a ∧ DictAt H a ks us ∧ Reps vs us fp' ∧ fp = fp' ++ [a]
  | .ref n, v, fp => ∃ a, v = .ref a ∧ μ[n]? = some a ∧ fp = []
  | .exc c, v, fp => ∃ a, v = .ref a ∧ H a = some (excHO (T.C c) a) ∧ (a ∉ μ ∧ T.C c ≠ 0) ∧ fp = []
def Reps : List D → List V → List Addr → Prop
  | [], vs, fp => vs = [] ∧ fp = []
  | d :: ds, vs, fp => ∃ v r f1 f2, vs = v :: r ∧ Rep d v f1 ∧ Reps ds r f2 ∧ fp = f1 ++ f2
end
def ObjAt : D → Addr → Prop
  | .lst ds, a => ∃ vs, H a = some (.lst vs) ∧ Reps T H μ ds vs []
  | .dct ks vs, a => ∃ us, DictAt H a ks us ∧ Reps T H μ vs us []
  | _, _ => False
structure StOk (S : Sto) : Prop where
  len : S.length = μ.length
  nd : μ.Nodup
  at_ : ∀ (n : Nat) (d : D) (a : Addr), S[n]? = some d → μ[n]? = some a → ObjAt T H μ d a
def EnvOk (σ : Slots) (ρ : Env) : Prop := σ.length = ρ.length ∧ ∀ (i : Nat) (d : D), ρ[i]? = some (some d) → ∃ v, σ[i]? = some (some v) ∧ Rep T H μ d v []
end

/-- from (H, μ) on to (H', μ'): what is not in μ stays -/
structure Stp (H : Hp) (μ : List Addr) (H' : Hp) (μ' : List Addr) : Prop where
  ext : ∃ e, μ' = μ ++ e ∧ ∀ a ∈ e, H a = none
  fr : ∀ b o, H b = some o → b ∉ μ → H' b = some o
  dom : ∀ b o, H b = some o → ∃ o', H' b = some o'

section
variable {T : Pgm} {H H1 H2 H' : Hp} {μ μ1 μ2 μ' : List Addr} {S : Sto}
theorem Stp.refl : Stp H μ H μ := ⟨⟨[], by simp, by simp⟩, fun _ _ h _ => h, fun _ o h => ⟨o, h⟩⟩
theorem Stp.mem (s : Stp H μ H1 μ1) {a : Addr} (h : a ∈ μ) : a ∈ μ1 := by
  obtain ⟨e, rfl, _⟩ := s.ext
  exact List.mem_append_left _ h
theorem Stp.new (s : Stp H μ H1 μ1) {a : Addr} (h : a ∈ μ1) (n : a ∉ μ) : H a = none := by
  obtain ⟨e, rfl, f⟩ := s.ext
  exact f a ((List.mem_append.mp h).resolve_left n)
theorem Stp.free (s : Stp H μ H1 μ1) {a : Addr} (h : H1 a = none) : H a = none := by
  cases q : H a with
  | none => rfl
  | some o =>
    obtain ⟨o', e⟩ := s.dom a o q
    rw [h] at e; cases e
theorem Stp.trans (a : Stp H μ H1 μ1) (b : Stp H1 μ1 H2 μ2) : Stp H μ H2 μ2 := by
  refine ⟨?_, fun c o h n => ?_, fun c o h => ?_⟩
  · obtain ⟨e, rfl, f⟩ := a.ext
    obtain ⟨e', rfl, f'⟩ := b.ext
    refine ⟨e ++ e', by simp, fun x hx => ?_⟩
    rcases List.mem_append.mp hx with hx | hx
    · exact f x hx
    · exact a.free (f' x hx)
  · refine b.fr c o (a.fr c o h n) fun m => ?_
    rw [a.new m n] at h; cases h
  · obtain ⟨o', e⟩ := a.dom c o h
    exact b.dom c o' e
theorem Stp.get (s : Stp H μ H1 μ1) {n : Nat} {a : Addr} (h : μ[n]? = some a) : μ1[n]? = some a := by
  obtain ⟨e, rfl, _⟩ := s.ext
  rw [List.getElem?_append_left (List.getElem?_eq_some_iff.mp h).1]
  exact h
/-- a new object that is tracked, outside of the store -/
theorem Stp.upd {p : Addr} {o : HO} (n : H p = none) : Stp H μ (upd H p o) μ := ⟨⟨[], by simp, by simp⟩, fun b u h _ => by
  rw [upd_ne (ne_of_none h n)]
  exact h, fun b u h => by
  rw [upd_ne (ne_of_none h n)]
  exact ⟨u, h⟩⟩
end

/-- what stands in the store is a list or a dict -/
def Kinds (H : Hp) (μ : List Addr) : Prop := ∀ a ∈ μ, (∃ vs, H a = some (.lst vs)) ∨ ∃ kvs, H a = some (.dK kvs)
section
variable {T : Pgm} {H H' : Hp} {μ μ' : List Addr} {S : Sto}
theorem StOk.kinds (h : StOk T H μ S) : Kinds H μ := fun a ha => by
  obtain ⟨n, hn, e⟩ := List.mem_iff_getElem.mp ha
  have hS : n < S.length := by rw [h.len]; exact hn
  have := h.at_ n S[n] a (List.getElem?_eq_getElem hS) (by rw [List.getElem?_eq_getElem hn, e])
  unfold ObjAt at this
  split at this
  · obtain ⟨vs, e, _⟩ := this; exact .inl ⟨vs, e⟩
  · obtain ⟨us, ⟨es, e, _⟩, _⟩ := this; exact .inr ⟨_, e⟩
  · exact this.elim
/-- a tuple is not in the store -/
theorem SqT.out {a : Addr} {vs : List V} {K : PySem.W.Frag} (k : Kinds H μ) (h : SqT K H a vs) : (∃ o, H a = some o ∧ a ∉ μ) ∨ ∀ H', SqT K H' a vs := by
  rcases h with (h | ⟨o, h⟩) | h
  · exact .inl ⟨_, h, fun m => by rcases k a m with ⟨_, e⟩ | ⟨_, e⟩ <;> (rw [h] at e; cases e)⟩
  · exact .inl ⟨_, h, fun m => by rcases k a m with ⟨_, e⟩ | ⟨_, e⟩ <;> (rw [h] at e; cases e)⟩
  · exact .inr fun _ => .inr h
theorem SqT.keep {a : Addr} {vs : List V} {K : PySem.W.Frag} (k : Kinds H μ) (fr : ∀ b o, H b = some o → b ∉ μ → H' b = some o) (h : SqT K H a vs) : SqT K H' a vs := by
  rcases SqT.out k h with ⟨o, e, n⟩ | q
  · have e' := fr a o e n
    rcases h with (h | ⟨o2, h⟩) | h
    · rw [h] at e; cases e; exact .inl (.inl e')
    · rw [h] at e; cases e; exact .inl (.inr ⟨_, e'⟩)
    · exact .inr h
  · exact q H'
theorem FzAt.keep {a : Addr} {vs : List V} {K : PySem.W.Frag} (k : Kinds H μ) (fr : ∀ b o, H b = some o → b ∉ μ → H' b = some o) (h : FzAt K H a vs) : FzAt K H' a vs := by
  rcases h with ⟨o, h⟩ | h
  · exact .inl ⟨o, fr _ _ h fun m => by rcases k a m with ⟨_, e⟩ | ⟨_, e⟩ <;> (rw [h] at e; cases e)⟩
  · exact .inr h
theorem DictAt.keep {a : Addr} {ks : List D} {us : List V} (e : H' a = H a) (h : DictAt H a ks us) : DictAt H' a ks us := by
  obtain ⟨es, h1, h2⟩ := h
  exact ⟨es, e.trans h1, h2⟩
section
variable {ν : List Addr}
mutual
theorem Rep.keepG (k : Kinds H ν) (fr : ∀ b o, H b = some o → b ∉ ν → H' b = some o) (gt : ∀ (n : Nat) a, μ[n]? = some a → μ'[n]? = some a) (hx : ∀ a c, H a = some (excHO c a) → a ∉ μ → a ∉ μ' ∧ a ∉ ν) :
    ∀ (d : D) (v : V) (fp : List Addr), Rep T H μ d v fp → (∀ a ∈ fp, a ∉ ν) → Rep T H' μ' d v fp
  | .non, v, fp, h, _ => h
  | .bl _, v, fp, h, _ => h
  | .int _, v, fp, h, _ => h
  | .str _, v, fp, h, _ => h
  | .tup ds, v, fp, h, n => by
    obtain ⟨a, vs, e, q, r⟩ := h
    exact ⟨a, vs, e, SqT.keep k fr q, Reps.keepG k fr gt hx ds vs fp r n⟩
  | .lst ds, v, fp, h, n => by
    obtain ⟨a, vs, fp', e, q, r, rfl⟩ := h
    exact ⟨a, vs, fp', e, fr _ _ q (n a (by simp)), Reps.keepG k fr gt hx ds vs fp' r fun b hb => n b (List.mem_append_left _ hb), rfl⟩
  | .fz ds, v, fp, h, n => by
    obtain ⟨a, vs, e, q, r, z⟩ := h
    exact ⟨a, vs, e, FzAt.keep k fr q, Reps.keepG k fr gt hx ds vs fp r n, z⟩
  | .dct ks ds, v, fp, h, n => by
    obtain ⟨a, us, fp', e, q, r, rfl⟩ := h
    refine ⟨a, us, fp', e, DictAt.keep ?_ q, Reps.keepG k fr gt hx ds us fp' r fun b hb => n b (List.mem_append_left _ hb), rfl⟩
    obtain ⟨es, q, _⟩ := q
    rw [q]; exact fr _ _ q (n a (by simp))
  | .ref i, v, fp, h, _ => by
    obtain ⟨a, e, q, z⟩ := h
    exact ⟨a, e, gt _ _ q, z⟩
  | .exc c, v, fp, h, _ => by
    obtain ⟨a, e, q, na, z⟩ := h
    obtain ⟨h1, h2⟩ := hx a _ q na.1
    exact ⟨a, e, fr _ _ q h2, ⟨h1, na.2⟩, z⟩
theorem Reps.keepG (k : Kinds H ν) (fr : ∀ b o, H b = some o → b ∉ ν → H' b = some o) (gt : ∀ (n : Nat) a, μ[n]? = some a → μ'[n]? = some a) (hx : ∀ a c, H a = some (excHO c a) → a ∉ μ → a ∉ μ' ∧ a ∉ ν) :
    ∀ (ds : List D) (vs : List V) (fp : List Addr), Reps T H μ ds vs fp → (∀ a ∈ fp, a ∉ ν) → Reps T H' μ' ds vs fp
  | [], vs, fp, h, _ => h
  | d :: ds, vs, fp, h, n => by
    obtain ⟨v, r, f1, f2, e, h1, h2, rfl⟩ := h
    exact ⟨v, r, f1, f2, e, Rep.keepG k fr gt hx d v f1 h1 fun a ha => n a (List.mem_append_left _ ha), Reps.keepG k fr gt hx ds r f2 h2 fun a ha => n a (List.mem_append_right _ ha), rfl⟩
end
end
theorem Stp.out (s : Stp H μ H' μ') (a : Addr) (o : HO) (e : H a = some o) (n : a ∉ μ) : a ∉ μ' ∧ a ∉ μ := ⟨fun m => (by rw [s.new m n] at e; cases e), n⟩
theorem Rep.keep (k : Kinds H μ) (s : Stp H μ H' μ') (d : D) (v : V) (fp : List Addr) (h : Rep T H μ d v fp) (n : ∀ a ∈ fp, a ∉ μ) : Rep T H' μ' d v fp := Rep.keepG k s.fr (fun _ _ => s.get) (fun a c => s.out a _) d v fp h n
theorem Reps.keep (k : Kinds H μ) (s : Stp H μ H' μ') (ds : List D) (vs : List V) (fp : List Addr) (h : Reps T H μ ds vs fp) (n : ∀ a ∈ fp, a ∉ μ) : Reps T H' μ' ds vs fp := Reps.keepG k s.fr (fun _ _ => s.get) (fun a c => s.out a _) ds vs fp h n
theorem Same.k0 : Kinds H [] := fun _ h => nomatch h
theorem Rep.same (s : Same H H') (d : D) (v : V) (fp : List Addr) (h : Rep T H μ d v fp) : Rep T H' μ d v fp := Rep.keepG Same.k0 (fun b o e _ => s b o e) (fun _ _ e => e) (fun _ _ _ n => ⟨n, by simp⟩) d v fp h (fun _ _ => by simp)
theorem Reps.same (s : Same H H') (ds : List D) (vs : List V) (fp : List Addr) (h : Reps T H μ ds vs fp) : Reps T H' μ ds vs fp := Reps.keepG Same.k0 (fun b o e _ => s b o e) (fun _ _ e => e) (fun _ _ _ n => ⟨n, by simp⟩) ds vs fp h (fun _ _ => by simp)
theorem DictAt.same {a : Addr} {ks : List D} {us : List V} (s : Same H H') (h : DictAt H a ks us) : DictAt H' a ks us := by
  refine DictAt.keep ?_ h
  obtain ⟨es, q, _⟩ := h
  rw [q]; exact s _ _ q
theorem widen_x {e : List Addr} (k : Kinds H e) (a c : Addr) (q : H a = some (excHO c a)) (n : a ∉ μ) : a ∉ μ ++ e ∧ a ∉ ([] : List Addr) := ⟨fun m => (List.mem_append.mp m).elim n fun m => by
  rcases k a m with ⟨_, z⟩ | ⟨_, z⟩ <;> (rw [q] at z; cases z), by simp⟩
theorem widen_g {e : List Addr} (n : Nat) (a : Addr) (h : μ[n]? = some a) : (μ ++ e)[n]? = some a := by
  rw [List.getElem?_append_left (List.getElem?_eq_some_iff.mp h).1]; exact h
theorem Rep.widen {e : List Addr} (k : Kinds H e) (d : D) (v : V) (fp : List Addr) (h : Rep T H μ d v fp) : Rep T H (μ ++ e) d v fp := Rep.keepG Same.k0 (fun b o e _ => e) widen_g (widen_x k) d v fp h (fun _ _ => by simp)
theorem Reps.widen {e : List Addr} (k : Kinds H e) (ds : List D) (vs : List V) (fp : List Addr) (h : Reps T H μ ds vs fp) : Reps T H (μ ++ e) ds vs fp := Reps.keepG Same.k0 (fun b o e _ => e) widen_g (widen_x k) ds vs fp h (fun _ _ => by simp)
theorem StOk.same (s : Same H H') (h : StOk T H μ S) : StOk T H' μ S := ⟨h.len, h.nd, fun n d a h1 h2 => by
  have q := h.at_ n d a h1 h2
  cases d with
  | lst ds => obtain ⟨vs, e, r⟩ := q; exact ⟨vs, s _ _ e, Reps.same s _ _ _ r⟩
  | dct ks ds => obtain ⟨us, e, r⟩ := q; exact ⟨us, DictAt.same s e, Reps.same s _ _ _ r⟩
  | _ => exact q.elim⟩
theorem Same.stp (s : Same H H') : Stp H μ H' μ := ⟨⟨[], by simp, by simp⟩, fun b o h _ => s b o h, fun b o h => ⟨o, s b o h⟩⟩
theorem Same.upd {p : Addr} {o : HO} (n : H p = none) : Same H (upd H p o) := fun b u h => by
  rw [upd_ne (ne_of_none h n)]
  exact h
theorem EnvOk.keep {σ : Slots} {ρ : Env} (k : Kinds H μ) (s : Stp H μ H' μ') (h : EnvOk T H μ σ ρ) : EnvOk T H' μ' σ ρ := ⟨h.1, fun i d e => by
  obtain ⟨v, q, r⟩ := h.2 i d e
  exact ⟨v, q, Rep.keep k s d v [] r (by simp)⟩⟩
end
end Ev
end
section
set_option Elab.async false
set_option linter.all false
set_option maxRecDepth 100000
namespace Ev
open PySem PySem.Spec PyProof.Rows L2

/-- a computation came through with what is wanted, or raised as it is wished -/
def Ran {α : Type} (T : Pgm) (W : WX) (σ : Slots) (H : Hp) (μ : List Addr) (m : Option (R α)) (Q : α → Sto → Prop) : Prop := match m with
  | some (.ok a S) => Q a S
  | some (.ex c S) => ∀ H' μ', Stp H μ H' μ' → StOk T H' μ' S → W (.ref (T.C c)) none σ H'
  | none => False
section
variable {α β : Type} {T : Pgm} {W : WX} {σ : Slots} {H H1 : Hp} {μ μ1 : List Addr} {m : Option (R α)} {Q Q' : α → Sto → Prop}
theorem Ran.bnd {f : α → Sto → Option (R β)} {Q : β → Sto → Prop} (h : Ran T W σ H μ (bnd m f) Q) : Ran T W σ H μ m fun a S => Ran T W σ H μ (f a S) Q := by
  match m, h with
  | some (.ok a S), h => exact h
  | some (.ex c S), h => exact h
theorem Ran.imp (h : Ran T W σ H μ m Q) (f : ∀ a S, m = some (.ok a S) → Q a S → Q' a S) : Ran T W σ H μ m Q' := by
  match m, h with
  | some (.ok a S), h => exact f a S rfl h
  | some (.ex c S), h => exact h
theorem Ran.on (h : Ran T W σ H μ m Q) (s : Stp H μ H1 μ1) : Ran T W σ H1 μ1 m Q := by
  match m, h with
  | some (.ok a S), h => exact h
  | some (.ex c S), h => exact fun H' μ' s' => h H' μ' (s.trans s')
theorem Ran.map {x : Option α} {f : α → R β} {Q : β → Sto → Prop} (h : Ran T W σ H μ (x.map f) Q) : ∃ a, x = some a ∧ Ran T W σ H μ (some (f a)) Q := by
  match x, h with
  | some a, h => exact ⟨a, rfl, h⟩
end

/-- behind an expression -/
structure Pst (T : Pgm) (H : Hp) (μ : List Addr) (d : D) (S' : Sto) (v : V) (H' : Hp) (μ' fp : List Addr) : Prop where
  stp : Stp H μ H' μ'
  ok : StOk T H' μ' S'
  rep : Rep T H' μ' d v fp
  nd : (μ' ++ fp).Nodup
  new : ∀ a ∈ fp, H a = none
structure Psts (T : Pgm) (H : Hp) (μ : List Addr) (ds : List D) (S' : Sto) (vs : List V) (H' : Hp) (μ' fp : List Addr) : Prop where
  stp : Stp H μ H' μ'
  ok : StOk T H' μ' S'
  rep : Reps T H' μ' ds vs fp
  nd : (μ' ++ fp).Nodup
  new : ∀ a ∈ fp, H a = none
abbrev Fin1 (T : Pgm) (H : Hp) (μ : List Addr) (Q : VK) : D → Sto → Prop := fun d S' => ∀ v H' μ' fp, Pst T H μ d S' v H' μ' fp → Q v H'
abbrev FinL (T : Pgm) (H : Hp) (μ : List Addr) (Q : List V → Hp → Prop) : List D → Sto → Prop := fun d S' => ∀ v H' μ' fp, Psts T H μ d S' v H' μ' fp → Q v H'
abbrev FinB (T : Pgm) (H : Hp) (μ : List Addr) (Q : Bool → Hp → Prop) : Bool → Sto → Prop := fun b S' => ∀ H' μ', Stp H μ H' μ' → StOk T H' μ' S' → Q b H'
def tEv (T : Pgm) (W : WX) (g : G) (e : PE) : TE := fun σ H Q => ∃ ρ S μ, EnvOk T H μ σ ρ ∧ StOk T H μ S ∧ Ran T W σ H μ (evalE g e ρ S) (Fin1 T H μ Q)
def tEvs (T : Pgm) (W : WX) (g : G) (es : List PE) : TA := fun σ H Q => ∃ ρ S μ, EnvOk T H μ σ ρ ∧ StOk T H μ S ∧ Ran T W σ H μ (evalEs g es ρ S) (FinL T H μ Q)
/-- as a test -/
def testE (m : Option (R D)) : Option (R Bool) := tests m (fun b S => some (.ok b S)) fun c S => some (.ex c S)
def tEvT (T : Pgm) (W : WX) (g : G) (e : PE) : TT := fun σ H Q => ∃ ρ S μ, EnvOk T H μ σ ρ ∧ StOk T H μ S ∧ Ran T W σ H μ (testE (evalE g e ρ S)) (FinB T H μ Q)

theorem PE.mono {X : Cx} {e : Expr} {t t' : TE} (h : L2.PE X e t) (m : ∀ σ H Q, t' σ H Q → t σ H Q) : L2.PE X e t' := ⟨fun pins s σ H Q I q => h.run pins s σ H Q I (m σ H Q q)⟩
theorem PT.mono {X : Cx} {e : Expr} {t t' : TT} (h : PT X e t) (m : ∀ σ H Q, t' σ H Q → t σ H Q) : PT X e t' := ⟨fun pins s σ H Q I q => h.run pins s σ H Q I (m σ H Q q)⟩
theorem PA.mono {X : Cx} {e : List Expr} {t t' : TA} (h : PA X e t) (m : ∀ σ H Q, t' σ H Q → t σ H Q) : PA X e t' := ⟨fun pos pins s σ H Q I q => h.run pos pins s σ H Q I (m σ H Q q)⟩
/-- the rule may be chosen by the reading -/
theorem PE.dep {X : Cx} {e : Expr} {t : TE} (h : ∀ σ H Q, t σ H Q → ∃ t', L2.PE X e t' ∧ t' σ H Q) : L2.PE X e t := ⟨fun pins s σ H Q I q => by
  obtain ⟨t', h1, h2⟩ := h σ H Q q
  exact h1.run pins s σ H Q I h2⟩
theorem PT.dep {X : Cx} {e : Expr} {t : TT} (h : ∀ σ H Q, t σ H Q → ∃ t', PT X e t' ∧ t' σ H Q) : PT X e t := ⟨fun pins s σ H Q I q => by
  obtain ⟨t', h1, h2⟩ := h σ H Q q
  exact h1.run pins s σ H Q I h2⟩
theorem PS.dep {X : Cx} {e : Stmt} {t : TS} (h : ∀ D σ H, t D σ H → ∃ t', L2.PS X e t' ∧ t' D σ H) : L2.PS X e t := ⟨fun pins s σ H D I q => by
  obtain ⟨t', h1, h2⟩ := h D σ H q
  exact h1.run pins s σ H D I h2⟩

section
variable {T : Pgm} {W : WX} {g : G} {σ : Slots} {H H1 H2 : Hp} {μ μ1 μ2 : List Addr} {ρ : Env} {S S1 S2 : Sto} {a b : PE}
theorem StOk.kd (h : StOk T H μ S) : Kinds H μ := h.kinds
theorem nd_left {l1 l2 : List Addr} (h : (l1 ++ l2).Nodup) : l1.Nodup := (List.nodup_append.mp h).1
theorem nd_out {l1 l2 : List Addr} (h : (l1 ++ l2).Nodup) : ∀ x ∈ l2, x ∉ l1 := fun x hx m => (List.nodup_append.mp h).2.2 x m x hx rfl
/-- what is owned ahead of a step is owned behind it -/
theorem nd_step {fp f2 : List Addr} (s : Stp H1 μ1 H2 μ2) (h1 : (μ1 ++ fp).Nodup) (h2 : (μ2 ++ f2).Nodup) (d : ∀ a ∈ fp, ∃ o, H1 a = some o) (n : ∀ a ∈ f2, H1 a = none) : (μ2 ++ (fp ++ f2)).Nodup := by
  obtain ⟨n1, n2, n3⟩ := List.nodup_append.mp h1
  obtain ⟨m1, m2, m3⟩ := List.nodup_append.mp h2
  refine List.nodup_append.mpr ⟨m1, List.nodup_append.mpr ⟨n2, m2, fun x hx y hy e => ?_⟩, fun x hx y hy e => ?_⟩
  · subst e
    obtain ⟨o, ho⟩ := d x hx
    rw [n x hy] at ho; cases ho
  · subst e
    rcases List.mem_append.mp hy with hy | hy
    · by_cases m : x ∈ μ1
      · exact n3 x m x hy rfl
      · obtain ⟨o, ho⟩ := d x hy
        rw [s.new hx m] at ho; cases ho
    · exact m3 x hx x hy rfl
mutual
theorem Rep.there : ∀ (d : D) (v : V) (fp : List Addr), Rep T H μ d v fp → ∀ a ∈ fp, ∃ o, H a = some o
  | .non, _, _, h, a, m => by rw [h.2] at m; cases m
  | .bl _, _, _, h, a, m => by rw [h.2] at m; cases m
  | .int _, _, _, h, a, m => by rw [h.2] at m; cases m
  | .str _, _, _, h, a, m => by rw [h.2] at m; cases m
  | .tup ds, _, fp, h, a, m => by
    obtain ⟨p, vs, _, _, r⟩ := h
    exact Reps.there ds vs fp r a m
  | .lst ds, _, fp, h, a, m => by
    obtain ⟨p, vs, fp', _, q, r, rfl⟩ := h
    rcases List.mem_append.mp m with m | m
    · exact Reps.there ds vs fp' r a m
    · have : a = p := by simpa using m
      subst this; exact ⟨_, q⟩
  | .fz ds, _, fp, h, a, m => by
    obtain ⟨p, vs, _, _, r, z⟩ := h
    rw [z] at m; cases m
  | .dct ks ds, _, fp, h, a, m => by
    obtain ⟨p, vs, fp', _, ⟨es, q, _⟩, r, rfl⟩ := h
    rcases List.mem_append.mp m with m | m
    · exact Reps.there ds vs fp' r a m
    · have : a = p := by simpa using m
      subst this; exact ⟨_, q⟩
  | .ref _, _, fp, h, a, m => by
    obtain ⟨p, _, _, z⟩ := h
    rw [z] at m; cases m
  | .exc _, _, fp, h, a, m => by
    obtain ⟨p, _, _, _, z⟩ := h
    rw [z] at m; cases m
theorem Reps.there : ∀ (ds : List D) (vs : List V) (fp : List Addr), Reps T H μ ds vs fp → ∀ a ∈ fp, ∃ o, H a = some o
  | [], _, fp, h, a, m => by rw [h.2] at m; cases m
  | d :: ds, _, fp, h, a, m => by
    obtain ⟨v, r, f1, f2, _, h1, h2, rfl⟩ := h
    rcases List.mem_append.mp m with m | m
    · exact Rep.there d v f1 h1 a m
    · exact Reps.there ds r f2 h2 a m
end
theorem evr (env : EnvOk T H μ σ ρ) (st : StOk T H μ S) {Q : VK} (h : Ran T W σ H μ (evalE g a ρ S) (Fin1 T H μ Q)) : tEv T W g a σ H Q := ⟨ρ, S, μ, env, st, h⟩
/-- one operand -/
theorem ev1 (env : EnvOk T H μ σ ρ) (st : StOk T H μ S) {K : D → Sto → Prop} {Q : VK} (h : Ran T W σ H μ (evalE g a ρ S) K)
    (f : ∀ x S1 v H1 μ1 fp, Pst T H μ x S1 v H1 μ1 fp → K x S1 → Q v H1) : tEv T W g a σ H Q :=
  ⟨ρ, S, μ, env, st, h.imp fun x S1 _ k v H1 μ1 fp p => f x S1 v H1 μ1 fp p k⟩
/-- two operands -/
theorem ev2 (env : EnvOk T H μ σ ρ) (st : StOk T H μ S) {K : D → D → Sto → Prop} {Q : V → V → Hp → Prop} (h : Ran T W σ H μ (evalE g a ρ S) fun x S1 => Ran T W σ H μ (evalE g b ρ S1) fun y S2 => K x y S2)
    (f : ∀ x y S2 u v H2 μ2 f1 f2, Psts T H μ [x, y] S2 [u, v] H2 μ2 (f1 ++ f2) → Rep T H2 μ2 x u f1 → Rep T H2 μ2 y v f2 → K x y S2 → Q u v H2) : tEv T W g a σ H fun u H1 => tEv T W g b σ H1 fun v H2 => Q u v H2 := by
  refine ev1 env st h fun x S1 u H1 μ1 f1 p1 k => ?_
  have kd := st.kinds
  refine ev1 (env.keep kd p1.stp) p1.ok (k.on p1.stp) fun y S2 v H2 μ2 f2 p2 k2 => ?_
  have r1 : Rep T H2 μ2 x u f1 := Rep.keep p1.ok.kinds p2.stp x u f1 p1.rep (nd_out p1.nd)
  refine f x y S2 u v H2 μ2 f1 f2 ⟨p1.stp.trans p2.stp, p2.ok, ⟨u, [v], f1, f2, rfl, r1, ⟨v, [], f2, [], rfl, p2.rep, ⟨rfl, rfl⟩, by simp⟩, rfl⟩, ?_, fun a m => ?_⟩ r1 p2.rep k2
  · exact nd_step p2.stp p1.nd p2.nd (Rep.there x u f1 p1.rep) p2.new
  · rcases List.mem_append.mp m with m | m
    · exact p1.new a m
    · exact p1.stp.free (p2.new a m)
/-- a value that holds nothing alone -/
theorem Pst.flat {d : D} {v : V} (s : Stp H μ H1 μ1) (ok : StOk T H1 μ1 S) (r : Rep T H1 μ1 d v []) : Pst T H μ d S v H1 μ1 [] := ⟨s, ok, r, by simpa using ok.nd, by simp⟩
end

/-! ### what the text is, and where one stands -/
structure CC where
  N : List Str
  fnames : List Str
  cnames : List Str
  consts : List (Str × D)
  sc : Scope
def vis (sc : Scope) (x : Str) : Bool := match sc.names.lookup x with
  | some .local => true
  | some .cell => true
  | some .free => true
  | _ => false
theorem vis_ok {sc : Scope} {x : Str} (h : vis sc x = true) : Vis sc x := by
  unfold vis at h
  split at h
  · exact .inl (by assumption)
  · exact .inr (.inl (by assumption))
  · exact .inr (.inr (by assumption))
  · cases h
def glob (sc : Scope) (x : Str) : Bool := decide (sc.names.lookup x = some .globalImplicit) && decide (x ≠ "__debug__") && decide (x ≠ "__name__")
def all2 {α β : Type} (f : α → β → Bool) : List α → List β → Bool
  | [], [] => true
  | a :: as, b :: bs => f a b && all2 f as bs
  | _, _ => false
def noStar : Expr → Bool
  | .Starred _ _ => false
  | _ => true
theorem star_of {e : Expr} {es : List Expr} {env : PySem.Env} (h : noStar e = true) : starEach (e :: es) env = (false, eval e env) :: starEach es env := by
  cases e <;> first | rfl | cases h
theorem stars_none {es : List Expr} {env : PySem.Env} {pos : Pos} (h : es.all noStar = true) : (backTo pos (starEach es env)).any (·.1) = false := by
  induction es with
  | nil => rfl
  | cons e es ih =>
    rw [List.all_cons, Bool.and_eq_true] at h
    rw [star_of h.1]
    unfold backTo
    rw [List.map_cons, List.any_cons]
    simp only [Bool.false_or]
    exact ih h.2
theorem stars_all {es : List Expr} {env : PySem.Env} {pos : Pos} (h : es.all noStar = true) : (backTo pos (starEach es env)).all (fun x => !x.1) = true := by
  induction es with
  | nil => rfl
  | cons e es ih =>
    rw [List.all_cons, Bool.and_eq_true] at h
    rw [star_of h.1]
    unfold backTo
    rw [List.map_cons, List.all_cons]
    simp only [Bool.not_false, Bool.true_and]
    exact ih h.2
/-- a test that is its value's truth -/
def plainTest : Expr → Bool
  | .UnaryOp .Not _ _ => false
  | .BoolOp _ _ _ => false
  | .IfExp _ _ _ _ => false
  | .Compare _ _ _ _ => false
  | _ => true
theorem test_of {e : Expr} {env : PySem.Env} (h : plainTest e = true) : ∀ whole, isTrue e env whole = (do let v ← whole; standAt e.pos; holding [v] (truthy v)) := by
  intro whole
  cases e with
  | UnaryOp op x p => cases op <;> first | rfl | cases h
  | _ => first | rfl | cases h
end Ev
end
section
set_option Elab.async false
set_option linter.all false
set_option maxRecDepth 100000
namespace Ev
open PySem PySem.Spec PyProof.Rows L2
abbrev tOf (X : Cx) (C : Nat → Addr) : Pgm := ⟨X.K, X.w, C⟩
/-- what a step from values gives -/
abbrev Out (T : Pgm) (H : Hp) (μ : List Addr) (S : Sto) (z : D) (own : List Addr) (Q : VK) : Prop :=
  ∀ v H' fp, Same H H' → Rep T H' μ z v fp → (μ ++ fp).Nodup → (∀ a ∈ fp, a ∈ own ∨ H a = none) → Q v H'
structure In2 (T : Pgm) (H : Hp) (μ : List Addr) (S : Sto) (d e : D) (x y : V) (f1 f2 : List Addr) : Prop where
  r1 : Rep T H μ d x f1
  r2 : Rep T H μ e y f2
  ok : StOk T H μ S
  nd : (μ ++ (f1 ++ f2)).Nodup
def opOf : Bin → Operator
  | .add => .Add
  | .sub => .Sub
  | .mul => .Mult
  | .fdiv => .FloorDiv
  | .mod => .Mod
  | .pow => .Pow
def rBin (T : Pgm) (o : Bin) : R2 := fun x y H Q => ∃ d e S μ f1 f2 z, In2 T H μ S d e x y f1 f2 ∧ binE S o d e = some z ∧ Out T H μ S z (f1 ++ f2) Q
section
variable {T : Pgm} {H H' : Hp} {μ : List Addr} {S : Sto}
theorem Reps.len : ∀ (ds : List D) (vs : List V) (fp : List Addr), Reps T H μ ds vs fp → vs.length = ds.length
  | [], _, _, h => by rw [h.1]; rfl
  | d :: ds, _, _, h => by
    obtain ⟨v, r, f1, f2, rfl, h1, h2, rfl⟩ := h
    rw [List.length_cons, List.length_cons, Reps.len ds r f2 h2]
theorem Reps.append : ∀ (as bs : List D) (us vs : List V) (f1 f2 : List Addr), Reps T H μ as us f1 → Reps T H μ bs vs f2 → Reps T H μ (as ++ bs) (us ++ vs) (f1 ++ f2)
  | [], bs, us, vs, f1, f2, h1, h2 => by obtain ⟨rfl, rfl⟩ := h1; exact h2
  | a :: as, bs, us, vs, f1, f2, h1, h2 => by
    obtain ⟨v, r, g1, g2, rfl, h3, h4, rfl⟩ := h1
    exact ⟨v, r ++ vs, g1, g2 ++ f2, rfl, h3, Reps.append as bs r vs g2 f2 h4 h2, by rw [List.append_assoc]⟩
/-- a list that may be written: the object's items -/
theorem mut_at {d : D} {v : V} {fp : List Addr} {ds : List D} (ok : StOk T H μ S) (r : Rep T H μ d v fp) (e : mutOf S d = some ds) : ∃ a vs f1, v = .ref a ∧ H a = some (.lst vs) ∧ Reps T H μ ds vs f1 ∧ f1.Sublist fp := by
  unfold mutOf at e
  split at e
  · cases e
    obtain ⟨a, vs, f1, rfl, q, r, rfl⟩ := r
    exact ⟨a, vs, f1, rfl, q, r, List.sublist_append_left _ _⟩
  · rename_i n
    split at e
    · rename_i ds' hS
      cases e
      obtain ⟨a, rfl, hm, rfl⟩ := r
      obtain ⟨vs, q, r⟩ := ok.at_ n _ a hS hm
      exact ⟨a, vs, [], rfl, q, r, List.Sublist.refl _⟩
    · cases e
  · cases e
theorem nd_sub {l1 l2 l3 : List Addr} (h : (l1 ++ l2).Nodup) (s : l3.Sublist l2) : (l1 ++ l3).Nodup := h.sublist (List.Sublist.append (List.Sublist.refl _) s)
/-- a new list of these values -/
theorem out_lst {ds : List D} {vs : List V} {fp own : List Addr} {Q : VK} (ok : StOk T H μ S) (r : Reps T H μ ds vs fp) (nd : (μ ++ fp).Nodup) (ow : ∀ a ∈ fp, a ∈ own) (q : Out T H μ S (.lst ds) own Q) : ∀ p, H p = none → Q (.ref p) (upd H p (.lst vs)) := fun p np => by
  have hp : p ∉ fp := fun m => by
    obtain ⟨o, e⟩ := Reps.there ds vs fp r p m
    rw [np] at e; cases e
  have hm : p ∉ μ := fun m => by
    rcases ok.kinds p m with ⟨_, e⟩ | ⟨_, e⟩ <;> (rw [np] at e; cases e)
  refine q _ _ (fp ++ [p]) (Same.upd np) ⟨p, vs, fp, rfl, upd_same, Reps.same (Same.upd np) _ _ _ r, rfl⟩ ?_ fun a m => ?_
  · rw [← List.append_assoc]
    refine List.nodup_append.mpr ⟨nd, by simp, fun a ha b hb e => ?_⟩
    have : b = p := by simpa using hb
    subst this; subst e
    exact (List.mem_append.mp ha).elim hm hp
  · rcases List.mem_append.mp m with m | m
    · exact .inl (ow a m)
    · have : a = p := by simpa using m
      subst this; exact .inr np
/-- a new tuple of these values -/
theorem out_tup {ds : List D} {vs : List V} {fp own : List Addr} {Q : VK} (r : Reps T H μ ds vs fp) (nd : (μ ++ fp).Nodup) (ow : ∀ a ∈ fp, a ∈ own) (q : Out T H μ S (.tup ds) own Q) : ∀ p, H p = none → Q (.ref p) (upd H p (.tup vs)) := fun p np =>
  q _ _ fp (Same.upd np) ⟨p, vs, rfl, .inl (.inl upd_same), Reps.same (Same.upd np) _ _ _ r⟩ nd fun a m => .inl (ow a m)
theorem out_flat {z : D} {v : V} {own : List Addr} {Q : VK} (ok : StOk T H μ S) (r : Rep T H μ z v []) (q : Out T H μ S z own Q) : Q v H := q v H [] (fun _ _ e => e) r (by simpa using ok.nd) (by simp)
theorem out_int {i : Int} {own : List Addr} {Q : VK} (ok : StOk T H μ S) (q : Out T H μ S (.int i) own Q) : Q (.int i) H := out_flat ok (show Rep T H μ (.int i) (.int i) [] from ⟨rfl, rfl⟩) q
theorem out_str {i : Str} {own : List Addr} {Q : VK} (ok : StOk T H μ S) (q : Out T H μ S (.str i) own Q) : Q (.str i) H := out_flat ok (show Rep T H μ (.str i) (.str i) [] from ⟨rfl, rfl⟩) q
theorem out_bl {i : Bool} {own : List Addr} {Q : VK} (ok : StOk T H μ S) (q : Out T H μ S (.bl i) own Q) : Q (.bl i) H := out_flat ok (show Rep T H μ (.bl i) (.bl i) [] from ⟨rfl, rfl⟩) q
theorem out_non {own : List Addr} {Q : VK} (ok : StOk T H μ S) (q : Out T H μ S .non own Q) : Q .non H := out_flat ok (show Rep T H μ .non .non [] from ⟨rfl, rfl⟩) q
theorem sub_l {l1 l2 l3 : List Addr} (s : l1.Sublist l2) : l1.Sublist (l2 ++ l3) := s.trans (List.sublist_append_left _ _)
mutual
/-- what is settled holds nothing alone -/
theorem Rep.settled : ∀ (d : D) (v : V) (fp : List Addr), Rep T H μ d v fp → d.settled = true → fp = []
  | .non, _, _, h, _ => h.2
  | .bl _, _, _, h, _ => h.2
  | .int _, _, _, h, _ => h.2
  | .str _, _, _, h, _ => h.2
  | .tup ds, _, fp, h, s => by
    obtain ⟨a, vs, _, _, r⟩ := h
    exact Reps.settled ds vs fp r s
  | .fz _, _, _, h, _ => by obtain ⟨_, _, _, _, _, z⟩ := h; exact z
  | .ref _, _, _, h, _ => by obtain ⟨_, _, _, z⟩ := h; exact z
  | .exc _, _, _, h, _ => by obtain ⟨_, _, _, _, z⟩ := h; exact z
  | .lst _, _, _, _, s => nomatch s
  | .dct _ _, _, _, _, s => nomatch s
theorem Reps.settled : ∀ (ds : List D) (vs : List V) (fp : List Addr), Reps T H μ ds vs fp → settleds ds = true → fp = []
  | [], _, _, h, _ => h.2
  | d :: ds, _, _, h, s => by
    obtain ⟨v, r, f1, f2, rfl, h1, h2, rfl⟩ := h
    obtain ⟨s1, s2⟩ := Bool.and_eq_true_iff.mp (show (d.settled && settleds ds) = true from s)
    rw [Rep.settled d v f1 h1 s1, Reps.settled ds r f2 h2 s2]; rfl
end
theorem Reps.rep {ds : List D} {vs : List V} (r : Reps T H μ ds vs []) : ∀ k : Nat, Reps T H μ (List.replicate k ds).flatten (List.replicate k vs).flatten []
  | 0 => ⟨rfl, rfl⟩
  | k + 1 => by
    rw [List.replicate_succ, List.replicate_succ, List.flatten_cons, List.flatten_cons]
    exact Reps.append _ _ _ _ _ _ r (Reps.rep r k)
end
theorem foldl_rep_nat (l : List Nat) : ∀ (k : Nat) (acc : List Nat), List.foldl (fun x1 x2 => x1 ++ x2) acc.toArray (List.replicate k l.toArray) = (acc ++ (List.replicate k l).flatten).toArray
  | 0, acc => by simp
  | k + 1, acc => by
    have e : acc.toArray ++ l.toArray = (acc ++ l).toArray := by simp
    rw [List.replicate_succ, List.foldl_cons, e, foldl_rep_nat l k, List.replicate_succ, List.flatten_cons, List.append_assoc]
section
variable {X : Cx} {C : Nat → Addr}
theorem op_mulS : OpR X (binaryOp .Mult) (fun x y H Q => ∃ z n, x = .str z ∧ y = .int n ∧ 0 ≤ n ∧ n ≤ 1000 ∧ z.length ≤ 1000 ∧ Q (.str (repS n z)) H) := by
  intro pins s σ H x y v u Q I rx ry ⟨z, n, e1, e2, h0, h1, h2, q⟩
  subst e1; subst e2
  obtain ⟨t, rfl⟩ := rx
  obtain ⟨t', rfl⟩ := ry
  have fin : ∀ w : Str, w = repS n z → ∀ t k, EP X pins σ Q (.str w t) { s with toks := k } := fun w e t k => ⟨.str (repS n z), H, I.tok _, ⟨t, by rw [e]⟩, q⟩
  have hlen : z.length * n.toNat ≤ 1000000 := by
    have : n.toNat ≤ 1000 := by omega
    calc z.length * n.toNat ≤ 1000 * 1000 := Nat.mul_le_mul h2 this
      _ = 1000000 := rfl
  refine PySem.P.mul_str ?_ (fun a b => ?_) (fun a b => ?_) ?_
  · have a1 : ¬ n < -(2 ^ 63 : Int) := by omega
    have a2 : ¬ n ≥ 2 ^ 63 := by omega
    rw [decide_eq_false a1, decide_eq_false a2]; rfl
  · have h4 : (z.length : Int) ≤ 1000 := by omega
    have h3 : (z.length : Int) ≤ (2 ^ 63 - 1 : Int) / n := (Int.le_ediv_iff_mul_le (by omega)).mpr (by
      have h6 : (z.length : Int) * n ≤ 1000 * 1000 := Int.mul_le_mul h4 h1 h0 (by decide)
      omega)
    omega
  · unfold Builtin.Str.tooLong
    rw [decide_eq_false_iff_not]
    have : sizeLine = 16777216 := by decide
    omega
  · split
    · rename_i hn
      have e0 : n = 0 := by omega
      refine ⟨by decide, fin _ ?_ _ _⟩
      subst e0
      show Str.empty = repS 0 z
      unfold repS Str.empty
      simp
    · rename_i hn
      split
      · rename_i hb
        show EP X pins σ Q (.str z t) s
        refine ⟨.str (repS n z), H, I, ⟨t, ?_⟩, q⟩
        have : repS n z = z := by
          rcases Bool.or_eq_true_iff.mp hb with hb | hb
          · have e1 : n = 1 := by simpa using hb
            subst e1
            unfold repS
            simp
          · have e1 : z.cps.size = 0 := by simpa [Str.length] using hb
            have e2 : z.cps = #[] := Array.eq_empty_of_size_eq_zero e1
            unfold repS
            rw [e2]
            cases z with
            | mk c =>
              have e3 : c = #[] := e2
              subst e3
              simp
        rw [this]
      · rename_i hb
        refine ⟨?_, fin _ ?_ _ _⟩
        · have e := foldl_rep_nat z.cps.toList n.toNat []
          simp only [List.nil_append, Array.toArray_toList] at e
          rw [e]
          have hs : sizeLine = 16777216 := by decide
          show ((List.replicate n.toNat z.cps.toList).flatten.toArray).size ≤ sizeLine
          have e2 : z.cps.toList.length = z.length := by simp [Str.length]
          rw [List.size_toArray, List.length_flatten, List.map_replicate, List.sum_replicate_nat, e2, hs, Nat.mul_comm]
          omega
        · unfold repS
          have := foldl_rep_nat z.cps.toList n.toNat []
          simp only [List.nil_append, Array.toArray_toList] at this
          rw [← this]
theorem op_fdivA : OpR X (binaryOp .FloorDiv) (rI (fun _ j => j ≠ 0 ∧ j.natAbs.log2 < 9000) fun i j => .int (i.fdiv j)) := opI fun i j _ _ _ _ _ hc q => floordiv_int hc.1 q (.inl (PyProof.noPylong_of_log2 hc.2))
theorem op_bin : ∀ o : Bin, OpR X (binaryOp (opOf o)) (rBin (tOf X C) o) := by
  intro o pins s σ H x y v u Q I rx ry ⟨d, e, S, μ, f1, f2, z, i, b, q⟩
  unfold binE at b
  split at b
  · cases b
    obtain ⟨rfl, rfl⟩ := i.r1; obtain ⟨rfl, rfl⟩ := i.r2
    exact op_add pins s σ H _ _ v u Q I rx ry ⟨_, _, rfl, rfl, out_int i.ok q⟩
  · split at b
    · rename_i hl
      cases b
      obtain ⟨rfl, rfl⟩ := i.r1; obtain ⟨rfl, rfl⟩ := i.r2
      exact op_add_str pins s σ H _ _ v u Q I rx ry ⟨_, _, rfl, rfl, of_decide_eq_true hl, out_str i.ok q⟩
    · cases b
  · split at b
    · rename_i as bs hl
      cases b
      obtain ⟨p1, vs, rfl, s1, r1⟩ := i.r1
      obtain ⟨p2, us, rfl, s2, r2⟩ := i.r2
      have ll : vs.length + us.length ≤ sizeLine := by
        rw [Reps.len _ _ _ r1, Reps.len _ _ _ r2]; exact of_decide_eq_true hl
      refine op_catA pins s σ H _ _ v u Q I rx ry ⟨p1, p2, vs, us, rfl, rfl, s1, s2, ll, fun e0 => ?_, fun _ e0 => ?_, fun _ _ => ?_⟩
      · subst e0
        have ea : as = [] := List.eq_nil_of_length_eq_zero (by rw [← Reps.len _ _ _ r1]; rfl)
        subst ea
        obtain ⟨_, rfl⟩ := r1
        exact q _ H f2 (fun _ _ e => e) ⟨p2, us, rfl, s2, r2⟩ (by simpa using i.nd) fun a m => .inl (by simpa using m)
      · subst e0
        have ea : bs = [] := List.eq_nil_of_length_eq_zero (by rw [← Reps.len _ _ _ r2]; rfl)
        subst ea
        obtain ⟨_, rfl⟩ := r2
        refine q _ H f1 (fun _ _ e => e) ⟨p1, vs, rfl, s1, by simpa using r1⟩ (by simpa using i.nd) fun a m => .inl (by simpa using m)
      · exact out_tup (Reps.append _ _ _ _ _ _ r1 r2) i.nd (fun a m => m) q
    · cases b
  · split at b
    · rename_i as bs h1 h2
      split at b
      · rename_i hl
        cases b
        obtain ⟨p1, vs, g1, rfl, s1, r1, t1⟩ := mut_at i.ok i.r1 h1
        obtain ⟨p2, us, g2, rfl, s2, r2, t2⟩ := mut_at i.ok i.r2 h2
        have ll : vs.length + us.length ≤ sizeLine := by
          rw [Reps.len _ _ _ r1, Reps.len _ _ _ r2]; exact of_decide_eq_true hl
        have sb := List.Sublist.append t1 t2
        exact op_cat pins s σ H _ _ v u Q I rx ry ⟨p1, p2, vs, us, rfl, rfl, s1, s2, ll, out_lst i.ok (Reps.append _ _ _ _ _ _ r1 r2) (nd_sub i.nd sb) (fun a m => sb.mem m) q⟩
      · cases b
    · cases b
  · cases b
    obtain ⟨rfl, rfl⟩ := i.r1; obtain ⟨rfl, rfl⟩ := i.r2
    exact op_sub pins s σ H _ _ v u Q I rx ry ⟨_, _, rfl, rfl, out_int i.ok q⟩
  · split at b
    · rename_i hl
      cases b
      obtain ⟨rfl, rfl⟩ := i.r1; obtain ⟨rfl, rfl⟩ := i.r2
      exact op_mulW pins s σ H _ _ v u Q I rx ry ⟨_, _, rfl, rfl, show _ < _ from of_decide_eq_true hl, out_int i.ok q⟩
    · cases b
  · split at b
    · rename_i hl
      cases b
      simp only [Bool.and_eq_true, decide_eq_true_eq] at hl
      obtain ⟨rfl, rfl⟩ := i.r1; obtain ⟨rfl, rfl⟩ := i.r2
      exact op_mulS pins s σ H _ _ v u Q I rx ry ⟨_, _, rfl, rfl, hl.1.1, hl.1.2, hl.2, out_str i.ok q⟩
    · cases b
  · split at b
    · rename_i as n hl
      cases b
      simp only [Bool.and_eq_true, decide_eq_true_eq, Bool.not_eq_true', List.isEmpty_eq_false_iff] at hl
      obtain ⟨⟨⟨⟨l1, l2⟩, l3⟩, l4⟩, l5⟩ := hl
      obtain ⟨p1, vs, rfl, s1, r1⟩ := i.r1
      obtain ⟨rfl, rfl⟩ := i.r2
      have e1 := Reps.settled _ _ _ r1 l5
      subst e1
      refine op_repT pins s σ H _ _ v u Q I rx ry ⟨p1, n, vs, rfl, rfl, s1, fun e => ?_, l1, l2, by rw [Reps.len _ _ _ r1]; exact l3, ?_⟩
      · subst e
        exact l4 (List.eq_nil_of_length_eq_zero (by rw [← Reps.len _ _ _ r1]; rfl))
      · exact out_tup (Reps.rep r1 _) (by simpa using i.ok.nd) (by simp) q
    · cases b
  · split at b
    · rename_i hl
      cases b
      obtain ⟨h1, h2⟩ := Bool.and_eq_true_iff.mp hl
      obtain ⟨rfl, rfl⟩ := i.r1; obtain ⟨rfl, rfl⟩ := i.r2
      exact op_fdivA pins s σ H _ _ v u Q I rx ry ⟨_, _, rfl, rfl, ⟨of_decide_eq_true h1, of_decide_eq_true h2⟩, out_int i.ok q⟩
    · cases b
  · split at b
    · rename_i hl
      cases b
      obtain ⟨rfl, rfl⟩ := i.r1; obtain ⟨rfl, rfl⟩ := i.r2
      exact op_modN pins s σ H _ _ v u Q I rx ry ⟨_, _, rfl, rfl, of_decide_eq_true hl, out_int i.ok q⟩
    · cases b
  · split at b
    · rename_i hl
      cases b
      simp only [Bool.and_eq_true, decide_eq_true_eq] at hl
      obtain ⟨rfl, rfl⟩ := i.r1; obtain ⟨rfl, rfl⟩ := i.r2
      exact op_pow pins s σ H _ _ v u Q I rx ry ⟨_, _, rfl, rfl, ⟨hl.1.1, hl.1.2, hl.2⟩, out_int i.ok q⟩
    · cases b
  · cases b
end
end Ev
end
section
set_option Elab.async false
set_option linter.all false
set_option maxRecDepth 100000
namespace Ev
open PySem PySem.Spec PyProof.Rows L2 PySem.SeqAt
mutual
/-- the value u is the data x in the heap -/
def Tree (h : Heap) : D → Value → Prop
  | .non, u => u = .none
  | .bl b, u => u = .bool b
  | .int i, u => ∃ t, u = .int i t
  | .str x, u => ∃ t, u = .str x t
  | .tup ds, u => ∃ a its, u = .ref a ∧ h.IsTuple a its ∧ Trees h ds its.toList
  | .lst ds, u => ∃ a its, u = .ref a ∧ h.IsList a its ∧ Trees h ds its.toList
  | _, _ => False
def Trees (h : Heap) : List D → List Value → Prop
  | [], us => us = []
  | d :: ds, us => ∃ u r, us = u :: r ∧ Tree h d u ∧ Trees h ds r
end
theorem Trees.length {h : Heap} : ∀ (ds : List D) (us : List Value), Trees h ds us → us.length = ds.length
  | [], _, e => by rw [e]; rfl
  | d :: ds, _, e => by
    obtain ⟨u, r, rfl, _, q⟩ := e
    rw [List.length_cons, List.length_cons, Trees.length ds r q]
theorem IsTuple.inj {h : Heap} {a : Addr} {i j : Array Value} (x : h.IsTuple a i) (y : h.IsTuple a j) : i = j := by
  obtain ⟨o, e, _, n, d⟩ := x
  obtain ⟨o', e', _, n', d'⟩ := y
  rw [e] at e'; cases e'; rw [d] at d'; cases d'; rfl
theorem IsList.inj {h : Heap} {a : Addr} {i j : Array Value} (x : h.IsList a i) (y : h.IsList a j) : i = j := by
  obtain ⟨o, e, _, n, d⟩ := x
  obtain ⟨o', e', _, n', d'⟩ := y
  rw [e] at e'; cases e'; rw [d] at d'; cases d'; rfl
mutual
theorem Tree.unique {h : Heap} : ∀ (x y : D) (u : Value), Tree h x u → Tree h y u → x = y
  | .non, .non, u, _, _ => rfl
  | .non, .bl b, u, ha, hb => by
    have ea : u = Value.none := ha
    have eb : u = Value.bool b := hb
    rw [ea] at eb; cases eb
  | .non, .int b, u, ha, hb => by
    have ea : u = Value.none := ha
    obtain ⟨tb, eb⟩ := hb
    rw [ea] at eb; cases eb
  | .non, .str b, u, ha, hb => by
    have ea : u = Value.none := ha
    obtain ⟨tb, eb⟩ := hb
    rw [ea] at eb; cases eb
  | .non, .tup bs, u, ha, hb => by
    have ea : u = Value.none := ha
    obtain ⟨lb, ib, eb, qb, rb⟩ := hb
    rw [ea] at eb; cases eb
  | .non, .lst bs, u, ha, hb => by
    have ea : u = Value.none := ha
    obtain ⟨lb, ib, eb, qb, rb⟩ := hb
    rw [ea] at eb; cases eb
  | .bl a, .non, u, ha, hb => by
    have ea : u = Value.bool a := ha
    have eb : u = Value.none := hb
    rw [ea] at eb; cases eb
  | .bl a, .bl b, u, ha, hb => by
    cases (show u = Value.bool a from ha)
    cases (show Value.bool a = Value.bool b from hb)
    rfl
  | .bl a, .int b, u, ha, hb => by
    have ea : u = Value.bool a := ha
    obtain ⟨tb, eb⟩ := hb
    rw [ea] at eb; cases eb
  | .bl a, .str b, u, ha, hb => by
    have ea : u = Value.bool a := ha
    obtain ⟨tb, eb⟩ := hb
    rw [ea] at eb; cases eb
  | .bl a, .tup bs, u, ha, hb => by
    have ea : u = Value.bool a := ha
    obtain ⟨lb, ib, eb, qb, rb⟩ := hb
    rw [ea] at eb; cases eb
  | .bl a, .lst bs, u, ha, hb => by
    have ea : u = Value.bool a := ha
    obtain ⟨lb, ib, eb, qb, rb⟩ := hb
    rw [ea] at eb; cases eb
  | .int a, .non, u, ha, hb => by
    obtain ⟨ta, ea⟩ := ha
    have eb : u = Value.none := hb
    rw [ea] at eb; cases eb
  | .int a, .bl b, u, ha, hb => by
    obtain ⟨ta, ea⟩ := ha
    have eb : u = Value.bool b := hb
    rw [ea] at eb; cases eb
  | .int a, .int b, u, ha, hb => by
    obtain ⟨ta, rfl⟩ := ha
    obtain ⟨tb, e⟩ := hb
    cases e
    rfl
  | .int a, .str b, u, ha, hb => by
    obtain ⟨ta, ea⟩ := ha
    obtain ⟨tb, eb⟩ := hb
    rw [ea] at eb; cases eb
  | .int a, .tup bs, u, ha, hb => by
    obtain ⟨ta, ea⟩ := ha
    obtain ⟨lb, ib, eb, qb, rb⟩ := hb
    rw [ea] at eb; cases eb
  | .int a, .lst bs, u, ha, hb => by
    obtain ⟨ta, ea⟩ := ha
    obtain ⟨lb, ib, eb, qb, rb⟩ := hb
    rw [ea] at eb; cases eb
  | .str a, .non, u, ha, hb => by
    obtain ⟨ta, ea⟩ := ha
    have eb : u = Value.none := hb
    rw [ea] at eb; cases eb
  | .str a, .bl b, u, ha, hb => by
    obtain ⟨ta, ea⟩ := ha
    have eb : u = Value.bool b := hb
    rw [ea] at eb; cases eb
  | .str a, .int b, u, ha, hb => by
    obtain ⟨ta, ea⟩ := ha
    obtain ⟨tb, eb⟩ := hb
    rw [ea] at eb; cases eb
  | .str a, .str b, u, ha, hb => by
    obtain ⟨ta, rfl⟩ := ha
    obtain ⟨tb, e⟩ := hb
    cases e
    rfl
  | .str a, .tup bs, u, ha, hb => by
    obtain ⟨ta, ea⟩ := ha
    obtain ⟨lb, ib, eb, qb, rb⟩ := hb
    rw [ea] at eb; cases eb
  | .str a, .lst bs, u, ha, hb => by
    obtain ⟨ta, ea⟩ := ha
    obtain ⟨lb, ib, eb, qb, rb⟩ := hb
    rw [ea] at eb; cases eb
  | .tup as, .non, u, ha, hb => by
    obtain ⟨la, ia, ea, qa, ra⟩ := ha
    have eb : u = Value.none := hb
    rw [ea] at eb; cases eb
  | .tup as, .bl b, u, ha, hb => by
    obtain ⟨la, ia, ea, qa, ra⟩ := ha
    have eb : u = Value.bool b := hb
    rw [ea] at eb; cases eb
  | .tup as, .int b, u, ha, hb => by
    obtain ⟨la, ia, ea, qa, ra⟩ := ha
    obtain ⟨tb, eb⟩ := hb
    rw [ea] at eb; cases eb
  | .tup as, .str b, u, ha, hb => by
    obtain ⟨la, ia, ea, qa, ra⟩ := ha
    obtain ⟨tb, eb⟩ := hb
    rw [ea] at eb; cases eb
  | .tup as, .tup bs, u, ha, hb => by
    obtain ⟨la, ia, rfl, qa, ra⟩ := ha
    obtain ⟨lb, ib, e, qb, rb⟩ := hb
    cases e
    cases IsTuple.inj qa qb
    rw [Trees.unique as bs _ ra rb]
  | .tup as, .lst bs, u, ha, hb => by
    obtain ⟨la, ia, ea, qa, ra⟩ := ha
    obtain ⟨lb, ib, eb, qb, rb⟩ := hb
    exfalso; rw [ea] at eb; cases eb; obtain ⟨o, h1, h2, _⟩ := qa; obtain ⟨o2, h3, h4, _⟩ := qb; rw [h1] at h3; cases h3; rw [h2] at h4; exact absurd h4 (by decide)
  | .lst as, .non, u, ha, hb => by
    obtain ⟨la, ia, ea, qa, ra⟩ := ha
    have eb : u = Value.none := hb
    rw [ea] at eb; cases eb
  | .lst as, .bl b, u, ha, hb => by
    obtain ⟨la, ia, ea, qa, ra⟩ := ha
    have eb : u = Value.bool b := hb
    rw [ea] at eb; cases eb
  | .lst as, .int b, u, ha, hb => by
    obtain ⟨la, ia, ea, qa, ra⟩ := ha
    obtain ⟨tb, eb⟩ := hb
    rw [ea] at eb; cases eb
  | .lst as, .str b, u, ha, hb => by
    obtain ⟨la, ia, ea, qa, ra⟩ := ha
    obtain ⟨tb, eb⟩ := hb
    rw [ea] at eb; cases eb
  | .lst as, .tup bs, u, ha, hb => by
    obtain ⟨la, ia, ea, qa, ra⟩ := ha
    obtain ⟨lb, ib, eb, qb, rb⟩ := hb
    exfalso; rw [ea] at eb; cases eb; obtain ⟨o, h1, h2, _⟩ := qa; obtain ⟨o2, h3, h4, _⟩ := qb; rw [h1] at h3; cases h3; rw [h2] at h4; exact absurd h4 (by decide)
  | .lst as, .lst bs, u, ha, hb => by
    obtain ⟨la, ia, rfl, qa, ra⟩ := ha
    obtain ⟨lb, ib, e, qb, rb⟩ := hb
    cases e
    cases IsList.inj qa qb
    rw [Trees.unique as bs _ ra rb]
  | .dct _ _, _, u, ha, _ => ha.elim
  | .fz _, _, u, ha, _ => ha.elim
  | .ref _, _, u, ha, _ => ha.elim
  | .exc _, _, u, ha, _ => ha.elim
  | .non, .dct _ _, u, _, hb => hb.elim
  | .non, .fz _, u, _, hb => hb.elim
  | .non, .ref _, u, _, hb => hb.elim
  | .non, .exc _, u, _, hb => hb.elim
  | .bl a, .dct _ _, u, _, hb => hb.elim
  | .bl a, .fz _, u, _, hb => hb.elim
  | .bl a, .ref _, u, _, hb => hb.elim
  | .bl a, .exc _, u, _, hb => hb.elim
  | .int a, .dct _ _, u, _, hb => hb.elim
  | .int a, .fz _, u, _, hb => hb.elim
  | .int a, .ref _, u, _, hb => hb.elim
  | .int a, .exc _, u, _, hb => hb.elim
  | .str a, .dct _ _, u, _, hb => hb.elim
  | .str a, .fz _, u, _, hb => hb.elim
  | .str a, .ref _, u, _, hb => hb.elim
  | .str a, .exc _, u, _, hb => hb.elim
  | .tup as, .dct _ _, u, _, hb => hb.elim
  | .tup as, .fz _, u, _, hb => hb.elim
  | .tup as, .ref _, u, _, hb => hb.elim
  | .tup as, .exc _, u, _, hb => hb.elim
  | .lst as, .dct _ _, u, _, hb => hb.elim
  | .lst as, .fz _, u, _, hb => hb.elim
  | .lst as, .ref _, u, _, hb => hb.elim
  | .lst as, .exc _, u, _, hb => hb.elim
theorem Trees.unique {h : Heap} : ∀ (xs ys : List D) (us : List Value), Trees h xs us → Trees h ys us → xs = ys
  | [], [], _, _, _ => rfl
  | [], y :: ys, us, ha, hb => by
    obtain ⟨u, r, e, _⟩ := hb
    rw [show us = [] from ha] at e; cases e
  | x :: xs, [], us, ha, hb => by
    obtain ⟨u, r, e, _⟩ := ha
    rw [show us = [] from hb] at e; cases e
  | x :: xs, y :: ys, us, ha, hb => by
    obtain ⟨u, r, rfl, h1, h2⟩ := ha
    obtain ⟨u', r', e, h3, h4⟩ := hb
    cases e
    rw [Tree.unique x y u h1 h3, Trees.unique xs ys r h2 h4]
end
mutual
theorem eqv_self {h : Heap} : ∀ (x : D) (u : Value), Tree h x u → x.eqv x = true
  | .non, _, _ => rfl
  | .bl _, _, _ => by simp [D.eqv]
  | .int _, _, _ => by simp [D.eqv]
  | .str _, _, _ => by simp [D.eqv]
  | .tup ds, u, q => by
    obtain ⟨a, its, _, _, r⟩ := q
    exact eqvs_self ds _ r
  | .lst ds, u, q => by
    obtain ⟨a, its, _, _, r⟩ := q
    exact eqvs_self ds _ r
  | .dct _ _, u, q => q.elim
  | .fz _, u, q => q.elim
  | .ref _, u, q => q.elim
  | .exc _, u, q => q.elim
theorem eqvs_self {h : Heap} : ∀ (xs : List D) (us : List Value), Trees h xs us → eqvs xs xs = true
  | [], _, _ => rfl
  | x :: xs, us, q => by
    obtain ⟨u, r, _, h1, h2⟩ := q
    show (x.eqv x && eqvs xs xs) = true
    rw [eqv_self x u h1, eqvs_self xs r h2]; rfl
end
def pairQ (xs ys : List D) (j : Nat) : Bool := match xs[j]?, ys[j]? with
  | some x, some y => x.eqv y
  | _, _ => false
theorem eqvs_len : ∀ xs ys : List D, ((List.range (min xs.length ys.length)).all (pairQ xs ys) && xs.length == ys.length) = eqvs xs ys
  | [], [] => rfl
  | [], y :: ys => by
    show ((List.range (min 0 _)).all _ && _) = false
    simp
  | x :: xs, [] => by
    show ((List.range (min _ 0)).all _ && _) = false
    simp
  | x :: xs, y :: ys => by
    have ih := eqvs_len xs ys
    have e1 : min (x :: xs).length (y :: ys).length = min xs.length ys.length + 1 := by simp only [List.length_cons]; omega
    have e2 : ((x :: xs).length == (y :: ys).length) = (xs.length == ys.length) := by simp
    have e3 : (List.range (min xs.length ys.length + 1)).all (pairQ (x :: xs) (y :: ys)) = (x.eqv y && (List.range (min xs.length ys.length)).all (pairQ xs ys)) := by
      rw [List.range_succ_eq_map, List.all_cons, List.all_map]
      first | rfl | simp [pairQ, Function.comp_def]
    rw [e1, e2, e3]
    show _ = (x.eqv y && eqvs xs ys)
    rw [← ih, Bool.and_assoc]
theorem eqvs_same {xs ys : List D} (h : xs.length = ys.length) : (List.range xs.length).all (pairQ xs ys) = eqvs xs ys := by
  rw [← eqvs_len, h]
  simp
theorem eqvs_other {xs ys : List D} (h : xs.length ≠ ys.length) : eqvs xs ys = false := by
  rw [← eqvs_len]
  simp [h]
section
variable {A : Around} {s : Shared} {u v : Value} {b c : Bool}
theorem eqc (h : EqAt A s u v b) (e : b = c) : EqAt A s u v c := e ▸ h
theorem rcc (h : RcAt A s u v b) (e : b = c) : RcAt A s u v c := e ▸ h
theorem rnc (h : RcNeAt A s u v b) (e : b = c) : RcNeAt A s u v c := e ▸ h
end
theorem dec_beq {α : Type} [DecidableEq α] (a b : α) : (a == b) = decide (a = b) := by
  by_cases h : a = b
  · subst h; simp
  · simp [h]
mutual
theorem eqAt_tree : ∀ (x y : D) (A : Around) (s : Shared) (u v : Value), Tree s.heap x u → Tree s.heap y v → A.units + min x.depth y.depth < cLine → EqAt A s u v (x.eqv y)
  | .non, .non, A, s, u, v, ha, hb, hu => by
    cases (show u = Value.none from ha)
    cases (show v = Value.none from hb)
    exact EqAt.same _
  | .non, .bl b, A, s, u, v, ha, hb, hu => by
    cases (show u = Value.none from ha)
    cases (show v = Value.bool b from hb)
    exact eqc (EqAt.none_bool b) rfl
  | .non, .int b, A, s, u, v, ha, hb, hu => by
    cases (show u = Value.none from ha)
    obtain ⟨tb, rfl⟩ := hb
    exact eqc (EqAt.none_int b tb) rfl
  | .non, .str b, A, s, u, v, ha, hb, hu => by
    cases (show u = Value.none from ha)
    obtain ⟨tb, rfl⟩ := hb
    exact eqc (EqAt.none_str b tb) rfl
  | .non, .tup bs, A, s, u, v, ha, hb, hu => by
    cases (show u = Value.none from ha)
    obtain ⟨lb, ib, rfl, qb, rb⟩ := hb
    exact eqc (EqAt.none_tuple qb (room_here hu)) rfl
  | .non, .lst bs, A, s, u, v, ha, hb, hu => by
    cases (show u = Value.none from ha)
    obtain ⟨lb, ib, rfl, qb, rb⟩ := hb
    exact eqc (EqAt.none_list qb (room_here hu)) rfl
  | .bl a, .non, A, s, u, v, ha, hb, hu => by
    cases (show u = Value.bool a from ha)
    cases (show v = Value.none from hb)
    exact eqc (EqAt.bool_none a) rfl
  | .bl a, .bl b, A, s, u, v, ha, hb, hu => by
    cases (show u = Value.bool a from ha)
    cases (show v = Value.bool b from hb)
    exact eqc (EqAt.bool_bool a b) rfl
  | .bl a, .int b, A, s, u, v, ha, hb, hu => by
    cases (show u = Value.bool a from ha)
    obtain ⟨tb, rfl⟩ := hb
    exact eqc (EqAt.bool_int a b tb) (by simp only [D.eqv, dec_beq, bne])
  | .bl a, .str b, A, s, u, v, ha, hb, hu => by
    cases (show u = Value.bool a from ha)
    obtain ⟨tb, rfl⟩ := hb
    exact eqc (EqAt.bool_str a b tb) rfl
  | .bl a, .tup bs, A, s, u, v, ha, hb, hu => by
    cases (show u = Value.bool a from ha)
    obtain ⟨lb, ib, rfl, qb, rb⟩ := hb
    exact eqc (EqAt.bool_tuple a qb (room_here hu)) rfl
  | .bl a, .lst bs, A, s, u, v, ha, hb, hu => by
    cases (show u = Value.bool a from ha)
    obtain ⟨lb, ib, rfl, qb, rb⟩ := hb
    exact eqc (EqAt.bool_list a qb (room_here hu)) rfl
  | .int a, .non, A, s, u, v, ha, hb, hu => by
    obtain ⟨ta, rfl⟩ := ha
    cases (show v = Value.none from hb)
    exact eqc (EqAt.int_none a ta) rfl
  | .int a, .bl b, A, s, u, v, ha, hb, hu => by
    obtain ⟨ta, rfl⟩ := ha
    cases (show v = Value.bool b from hb)
    exact eqc (EqAt.int_bool a ta b) (by simp only [D.eqv, dec_beq, bne])
  | .int a, .int b, A, s, u, v, ha, hb, hu => by
    obtain ⟨ta, rfl⟩ := ha
    obtain ⟨tb, rfl⟩ := hb
    exact eqc (EqAt.int_int a ta b tb) (by simp only [D.eqv, dec_beq, bne])
  | .int a, .str b, A, s, u, v, ha, hb, hu => by
    obtain ⟨ta, rfl⟩ := ha
    obtain ⟨tb, rfl⟩ := hb
    exact eqc (EqAt.int_str a ta b tb) rfl
  | .int a, .tup bs, A, s, u, v, ha, hb, hu => by
    obtain ⟨ta, rfl⟩ := ha
    obtain ⟨lb, ib, rfl, qb, rb⟩ := hb
    exact eqc (EqAt.int_tuple a ta qb (room_here hu)) rfl
  | .int a, .lst bs, A, s, u, v, ha, hb, hu => by
    obtain ⟨ta, rfl⟩ := ha
    obtain ⟨lb, ib, rfl, qb, rb⟩ := hb
    exact eqc (EqAt.int_list a ta qb (room_here hu)) rfl
  | .str a, .non, A, s, u, v, ha, hb, hu => by
    obtain ⟨ta, rfl⟩ := ha
    cases (show v = Value.none from hb)
    exact eqc (EqAt.str_none a ta) rfl
  | .str a, .bl b, A, s, u, v, ha, hb, hu => by
    obtain ⟨ta, rfl⟩ := ha
    cases (show v = Value.bool b from hb)
    exact eqc (EqAt.str_bool a ta b) rfl
  | .str a, .int b, A, s, u, v, ha, hb, hu => by
    obtain ⟨ta, rfl⟩ := ha
    obtain ⟨tb, rfl⟩ := hb
    exact eqc (EqAt.str_int a ta b tb) rfl
  | .str a, .str b, A, s, u, v, ha, hb, hu => by
    obtain ⟨ta, rfl⟩ := ha
    obtain ⟨tb, rfl⟩ := hb
    exact eqc (EqAt.str_str a ta b tb) (by simp only [D.eqv, dec_beq, bne])
  | .str a, .tup bs, A, s, u, v, ha, hb, hu => by
    obtain ⟨ta, rfl⟩ := ha
    obtain ⟨lb, ib, rfl, qb, rb⟩ := hb
    exact eqc (EqAt.str_tuple a ta qb (room_here hu)) rfl
  | .str a, .lst bs, A, s, u, v, ha, hb, hu => by
    obtain ⟨ta, rfl⟩ := ha
    obtain ⟨lb, ib, rfl, qb, rb⟩ := hb
    exact eqc (EqAt.str_list a ta qb (room_here hu)) rfl
  | .tup as, .non, A, s, u, v, ha, hb, hu => by
    obtain ⟨la, ia, rfl, qa, ra⟩ := ha
    cases (show v = Value.none from hb)
    exact eqc (EqAt.tuple_none qa (room_here hu)) rfl
  | .tup as, .bl b, A, s, u, v, ha, hb, hu => by
    obtain ⟨la, ia, rfl, qa, ra⟩ := ha
    cases (show v = Value.bool b from hb)
    exact eqc (EqAt.tuple_bool b qa (room_here hu)) rfl
  | .tup as, .int b, A, s, u, v, ha, hb, hu => by
    obtain ⟨la, ia, rfl, qa, ra⟩ := ha
    obtain ⟨tb, rfl⟩ := hb
    exact eqc (EqAt.tuple_int b tb qa (room_here hu)) rfl
  | .tup as, .str b, A, s, u, v, ha, hb, hu => by
    obtain ⟨la, ia, rfl, qa, ra⟩ := ha
    obtain ⟨tb, rfl⟩ := hb
    exact eqc (EqAt.tuple_str b tb qa (room_here hu)) rfl
  | .tup as, .tup bs, A, s, u, v, ha, hb, hu => by
    obtain ⟨la, ia, rfl, qa, ra⟩ := ha
    obtain ⟨lb, ib, rfl, qb, rb⟩ := hb
    have n1 : ia.size = as.length := by simpa using Trees.length _ _ ra
    have n2 : ib.size = bs.length := by simpa using Trees.length _ _ rb
    have hu2 : A.units + min (depths as + 1) (depths bs + 1) < cLine := hu
    have he : ∀ j (j1 : j < ia.size) (j2 : j < ib.size), EqAt A.in1 s ia[j] ib[j] (pairQ as bs j) := fun j j1 j2 => by
      have := eqAt_trees as bs A.in1 s ia.toList ib.toList ra rb (room_in hu2) j (by simpa using j1) (by simpa using j2)
      simpa using this
    show EqAt A s (.ref la) (.ref lb) (eqvs as bs)
    by_cases hll : la = lb
    · subst hll
      cases IsTuple.inj qa qb
      rw [Trees.unique as bs _ ra rb, eqvs_self bs _ rb]
      exact EqAt.same _
    · rw [← eqvs_len as bs, ← n1, ← n2]
      exact EqAt.of_refs hll (RcAt.tuples qa qb (room_here hu) he)
  | .tup as, .lst bs, A, s, u, v, ha, hb, hu => by
    obtain ⟨la, ia, rfl, qa, ra⟩ := ha
    obtain ⟨lb, ib, rfl, qb, rb⟩ := hb
    exact eqc (EqAt.tuple_list qa qb (room_here hu)) rfl
  | .lst as, .non, A, s, u, v, ha, hb, hu => by
    obtain ⟨la, ia, rfl, qa, ra⟩ := ha
    cases (show v = Value.none from hb)
    exact eqc (EqAt.list_none qa (room_here hu)) rfl
  | .lst as, .bl b, A, s, u, v, ha, hb, hu => by
    obtain ⟨la, ia, rfl, qa, ra⟩ := ha
    cases (show v = Value.bool b from hb)
    exact eqc (EqAt.list_bool b qa (room_here hu)) rfl
  | .lst as, .int b, A, s, u, v, ha, hb, hu => by
    obtain ⟨la, ia, rfl, qa, ra⟩ := ha
    obtain ⟨tb, rfl⟩ := hb
    exact eqc (EqAt.list_int b tb qa (room_here hu)) rfl
  | .lst as, .str b, A, s, u, v, ha, hb, hu => by
    obtain ⟨la, ia, rfl, qa, ra⟩ := ha
    obtain ⟨tb, rfl⟩ := hb
    exact eqc (EqAt.list_str b tb qa (room_here hu)) rfl
  | .lst as, .tup bs, A, s, u, v, ha, hb, hu => by
    obtain ⟨la, ia, rfl, qa, ra⟩ := ha
    obtain ⟨lb, ib, rfl, qb, rb⟩ := hb
    exact eqc (EqAt.list_tuple qa qb (room_here hu)) rfl
  | .lst as, .lst bs, A, s, u, v, ha, hb, hu => by
    obtain ⟨la, ia, rfl, qa, ra⟩ := ha
    obtain ⟨lb, ib, rfl, qb, rb⟩ := hb
    have n1 : ia.size = as.length := by simpa using Trees.length _ _ ra
    have n2 : ib.size = bs.length := by simpa using Trees.length _ _ rb
    have hu2 : A.units + min (depths as + 1) (depths bs + 1) < cLine := hu
    have he : ∀ j (j1 : j < ia.size) (j2 : j < ib.size), EqAt A.in1 s ia[j] ib[j] (pairQ as bs j) := fun j j1 j2 => by
      have := eqAt_trees as bs A.in1 s ia.toList ib.toList ra rb (room_in hu2) j (by simpa using j1) (by simpa using j2)
      simpa using this
    show EqAt A s (.ref la) (.ref lb) (eqvs as bs)
    by_cases hll : la = lb
    · subst hll
      cases IsList.inj qa qb
      rw [Trees.unique as bs _ ra rb, eqvs_self bs _ rb]
      exact EqAt.same _
    · by_cases hsz : ia.size = ib.size
      · rw [← eqvs_same (by omega : as.length = bs.length), ← n1]
        exact EqAt.of_refs hll (RcAt.lists qa qb hsz (room_here hu) he)
      · rw [eqvs_other (by omega : as.length ≠ bs.length)]
        exact EqAt.of_refs hll (RcAt.lists_lengths qa qb (by simpa using hsz) (room_here hu))
  | .dct _ _, _, A, s, u, v, ha, _, _ => ha.elim
  | .fz _, _, A, s, u, v, ha, _, _ => ha.elim
  | .ref _, _, A, s, u, v, ha, _, _ => ha.elim
  | .exc _, _, A, s, u, v, ha, _, _ => ha.elim
  | .non, .dct _ _, A, s, u, v, _, hb, _ => hb.elim
  | .non, .fz _, A, s, u, v, _, hb, _ => hb.elim
  | .non, .ref _, A, s, u, v, _, hb, _ => hb.elim
  | .non, .exc _, A, s, u, v, _, hb, _ => hb.elim
  | .bl a, .dct _ _, A, s, u, v, _, hb, _ => hb.elim
  | .bl a, .fz _, A, s, u, v, _, hb, _ => hb.elim
  | .bl a, .ref _, A, s, u, v, _, hb, _ => hb.elim
  | .bl a, .exc _, A, s, u, v, _, hb, _ => hb.elim
  | .int a, .dct _ _, A, s, u, v, _, hb, _ => hb.elim
  | .int a, .fz _, A, s, u, v, _, hb, _ => hb.elim
  | .int a, .ref _, A, s, u, v, _, hb, _ => hb.elim
  | .int a, .exc _, A, s, u, v, _, hb, _ => hb.elim
  | .str a, .dct _ _, A, s, u, v, _, hb, _ => hb.elim
  | .str a, .fz _, A, s, u, v, _, hb, _ => hb.elim
  | .str a, .ref _, A, s, u, v, _, hb, _ => hb.elim
  | .str a, .exc _, A, s, u, v, _, hb, _ => hb.elim
  | .tup as, .dct _ _, A, s, u, v, _, hb, _ => hb.elim
  | .tup as, .fz _, A, s, u, v, _, hb, _ => hb.elim
  | .tup as, .ref _, A, s, u, v, _, hb, _ => hb.elim
  | .tup as, .exc _, A, s, u, v, _, hb, _ => hb.elim
  | .lst as, .dct _ _, A, s, u, v, _, hb, _ => hb.elim
  | .lst as, .fz _, A, s, u, v, _, hb, _ => hb.elim
  | .lst as, .ref _, A, s, u, v, _, hb, _ => hb.elim
  | .lst as, .exc _, A, s, u, v, _, hb, _ => hb.elim
theorem eqAt_trees : ∀ (xs ys : List D) (A : Around) (s : Shared) (us vs : List Value), Trees s.heap xs us → Trees s.heap ys vs → A.units + min (depths xs) (depths ys) < cLine → ∀ j (h1 : j < us.length) (h2 : j < vs.length), EqAt A s us[j] vs[j] (pairQ xs ys j)
  | [], _, _, _, us, _, ra, _, _, j, h1, _ => by
    cases (show us = [] from ra); exact absurd h1 (Nat.not_lt_zero _)
  | _ :: _, [], _, _, _, vs, _, rb, _, j, _, h2 => by
    cases (show vs = [] from rb); exact absurd h2 (Nat.not_lt_zero _)
  | x :: xs, y :: ys, A, s, us, vs, ra, rb, hu, j, h1, h2 => by
    obtain ⟨u, r, rfl, h3, h4⟩ := ra
    obtain ⟨v, r', rfl, h5, h6⟩ := rb
    cases j with
    | zero => exact eqAt_tree x y A s u v h3 h5 (room_head hu)
    | succ j => exact eqAt_trees xs ys A s r r' h4 h6 (room_tail hu) j (Nat.lt_of_succ_lt_succ h1) (Nat.lt_of_succ_lt_succ h2)
end
theorem rcAt_tree : ∀ (x y : D) (A : Around) (s : Shared) (u v : Value), Tree s.heap x u → Tree s.heap y v → A.units + min x.depth y.depth < cLine → RcAt A s u v (x.eqv y)
  | .non, .non, A, s, u, v, ha, hb, hu => by
    cases (show u = Value.none from ha)
    cases (show v = Value.none from hb)
    exact RcAt.none_none
  | .non, .bl b, A, s, u, v, ha, hb, hu => by
    cases (show u = Value.none from ha)
    cases (show v = Value.bool b from hb)
    exact rcc (RcAt.none_bool b) rfl
  | .non, .int b, A, s, u, v, ha, hb, hu => by
    cases (show u = Value.none from ha)
    obtain ⟨tb, rfl⟩ := hb
    exact rcc (RcAt.none_int b tb) rfl
  | .non, .str b, A, s, u, v, ha, hb, hu => by
    cases (show u = Value.none from ha)
    obtain ⟨tb, rfl⟩ := hb
    exact rcc (RcAt.none_str b tb) rfl
  | .non, .tup bs, A, s, u, v, ha, hb, hu => by
    cases (show u = Value.none from ha)
    obtain ⟨lb, ib, rfl, qb, rb⟩ := hb
    exact rcc (RcAt.none_tuple qb (room_here hu)) rfl
  | .non, .lst bs, A, s, u, v, ha, hb, hu => by
    cases (show u = Value.none from ha)
    obtain ⟨lb, ib, rfl, qb, rb⟩ := hb
    exact rcc (RcAt.none_list qb (room_here hu)) rfl
  | .bl a, .non, A, s, u, v, ha, hb, hu => by
    cases (show u = Value.bool a from ha)
    cases (show v = Value.none from hb)
    exact rcc (RcAt.bool_none a) rfl
  | .bl a, .bl b, A, s, u, v, ha, hb, hu => by
    cases (show u = Value.bool a from ha)
    cases (show v = Value.bool b from hb)
    exact rcc (RcAt.bool_bool a b) rfl
  | .bl a, .int b, A, s, u, v, ha, hb, hu => by
    cases (show u = Value.bool a from ha)
    obtain ⟨tb, rfl⟩ := hb
    exact rcc (RcAt.bool_int a b tb) (by simp only [D.eqv, dec_beq, bne])
  | .bl a, .str b, A, s, u, v, ha, hb, hu => by
    cases (show u = Value.bool a from ha)
    obtain ⟨tb, rfl⟩ := hb
    exact rcc (RcAt.bool_str a b tb) rfl
  | .bl a, .tup bs, A, s, u, v, ha, hb, hu => by
    cases (show u = Value.bool a from ha)
    obtain ⟨lb, ib, rfl, qb, rb⟩ := hb
    exact rcc (RcAt.bool_tuple a qb (room_here hu)) rfl
  | .bl a, .lst bs, A, s, u, v, ha, hb, hu => by
    cases (show u = Value.bool a from ha)
    obtain ⟨lb, ib, rfl, qb, rb⟩ := hb
    exact rcc (RcAt.bool_list a qb (room_here hu)) rfl
  | .int a, .non, A, s, u, v, ha, hb, hu => by
    obtain ⟨ta, rfl⟩ := ha
    cases (show v = Value.none from hb)
    exact rcc (RcAt.int_none a ta) rfl
  | .int a, .bl b, A, s, u, v, ha, hb, hu => by
    obtain ⟨ta, rfl⟩ := ha
    cases (show v = Value.bool b from hb)
    exact rcc (RcAt.int_bool a ta b) (by simp only [D.eqv, dec_beq, bne])
  | .int a, .int b, A, s, u, v, ha, hb, hu => by
    obtain ⟨ta, rfl⟩ := ha
    obtain ⟨tb, rfl⟩ := hb
    exact rcc (RcAt.int_int a ta b tb) (by simp only [D.eqv, dec_beq, bne])
  | .int a, .str b, A, s, u, v, ha, hb, hu => by
    obtain ⟨ta, rfl⟩ := ha
    obtain ⟨tb, rfl⟩ := hb
    exact rcc (RcAt.int_str a ta b tb) rfl
  | .int a, .tup bs, A, s, u, v, ha, hb, hu => by
    obtain ⟨ta, rfl⟩ := ha
    obtain ⟨lb, ib, rfl, qb, rb⟩ := hb
    exact rcc (RcAt.int_tuple a ta qb (room_here hu)) rfl
  | .int a, .lst bs, A, s, u, v, ha, hb, hu => by
    obtain ⟨ta, rfl⟩ := ha
    obtain ⟨lb, ib, rfl, qb, rb⟩ := hb
    exact rcc (RcAt.int_list a ta qb (room_here hu)) rfl
  | .str a, .non, A, s, u, v, ha, hb, hu => by
    obtain ⟨ta, rfl⟩ := ha
    cases (show v = Value.none from hb)
    exact rcc (RcAt.str_none a ta) rfl
  | .str a, .bl b, A, s, u, v, ha, hb, hu => by
    obtain ⟨ta, rfl⟩ := ha
    cases (show v = Value.bool b from hb)
    exact rcc (RcAt.str_bool a ta b) rfl
  | .str a, .int b, A, s, u, v, ha, hb, hu => by
    obtain ⟨ta, rfl⟩ := ha
    obtain ⟨tb, rfl⟩ := hb
    exact rcc (RcAt.str_int a ta b tb) rfl
  | .str a, .str b, A, s, u, v, ha, hb, hu => by
    obtain ⟨ta, rfl⟩ := ha
    obtain ⟨tb, rfl⟩ := hb
    exact rcc (RcAt.str_str a ta b tb) (by simp only [D.eqv, dec_beq, bne])
  | .str a, .tup bs, A, s, u, v, ha, hb, hu => by
    obtain ⟨ta, rfl⟩ := ha
    obtain ⟨lb, ib, rfl, qb, rb⟩ := hb
    exact rcc (RcAt.str_tuple a ta qb (room_here hu)) rfl
  | .str a, .lst bs, A, s, u, v, ha, hb, hu => by
    obtain ⟨ta, rfl⟩ := ha
    obtain ⟨lb, ib, rfl, qb, rb⟩ := hb
    exact rcc (RcAt.str_list a ta qb (room_here hu)) rfl
  | .tup as, .non, A, s, u, v, ha, hb, hu => by
    obtain ⟨la, ia, rfl, qa, ra⟩ := ha
    cases (show v = Value.none from hb)
    exact rcc (RcAt.tuple_none qa (room_here hu)) rfl
  | .tup as, .bl b, A, s, u, v, ha, hb, hu => by
    obtain ⟨la, ia, rfl, qa, ra⟩ := ha
    cases (show v = Value.bool b from hb)
    exact rcc (RcAt.tuple_bool b qa (room_here hu)) rfl
  | .tup as, .int b, A, s, u, v, ha, hb, hu => by
    obtain ⟨la, ia, rfl, qa, ra⟩ := ha
    obtain ⟨tb, rfl⟩ := hb
    exact rcc (RcAt.tuple_int b tb qa (room_here hu)) rfl
  | .tup as, .str b, A, s, u, v, ha, hb, hu => by
    obtain ⟨la, ia, rfl, qa, ra⟩ := ha
    obtain ⟨tb, rfl⟩ := hb
    exact rcc (RcAt.tuple_str b tb qa (room_here hu)) rfl
  | .tup as, .tup bs, A, s, u, v, ha, hb, hu => by
    obtain ⟨la, ia, rfl, qa, ra⟩ := ha
    obtain ⟨lb, ib, rfl, qb, rb⟩ := hb
    have n1 : ia.size = as.length := by simpa using Trees.length _ _ ra
    have n2 : ib.size = bs.length := by simpa using Trees.length _ _ rb
    have hu2 : A.units + min (depths as + 1) (depths bs + 1) < cLine := hu
    have he : ∀ j (j1 : j < ia.size) (j2 : j < ib.size), EqAt A.in1 s ia[j] ib[j] (pairQ as bs j) := fun j j1 j2 => by
      have := eqAt_trees as bs A.in1 s ia.toList ib.toList ra rb (room_in hu2) j (by simpa using j1) (by simpa using j2)
      simpa using this
    show RcAt A s (.ref la) (.ref lb) (eqvs as bs)
    rw [← eqvs_len as bs, ← n1, ← n2]
    exact RcAt.tuples qa qb (room_here hu) he
  | .tup as, .lst bs, A, s, u, v, ha, hb, hu => by
    obtain ⟨la, ia, rfl, qa, ra⟩ := ha
    obtain ⟨lb, ib, rfl, qb, rb⟩ := hb
    exact rcc (RcAt.tuple_list qa qb (room_here hu)) rfl
  | .lst as, .non, A, s, u, v, ha, hb, hu => by
    obtain ⟨la, ia, rfl, qa, ra⟩ := ha
    cases (show v = Value.none from hb)
    exact rcc (RcAt.list_none qa (room_here hu)) rfl
  | .lst as, .bl b, A, s, u, v, ha, hb, hu => by
    obtain ⟨la, ia, rfl, qa, ra⟩ := ha
    cases (show v = Value.bool b from hb)
    exact rcc (RcAt.list_bool b qa (room_here hu)) rfl
  | .lst as, .int b, A, s, u, v, ha, hb, hu => by
    obtain ⟨la, ia, rfl, qa, ra⟩ := ha
    obtain ⟨tb, rfl⟩ := hb
    exact rcc (RcAt.list_int b tb qa (room_here hu)) rfl
  | .lst as, .str b, A, s, u, v, ha, hb, hu => by
    obtain ⟨la, ia, rfl, qa, ra⟩ := ha
    obtain ⟨tb, rfl⟩ := hb
    exact rcc (RcAt.list_str b tb qa (room_here hu)) rfl
  | .lst as, .tup bs, A, s, u, v, ha, hb, hu => by
    obtain ⟨la, ia, rfl, qa, ra⟩ := ha
    obtain ⟨lb, ib, rfl, qb, rb⟩ := hb
    exact rcc (RcAt.list_tuple qa qb (room_here hu)) rfl
  | .lst as, .lst bs, A, s, u, v, ha, hb, hu => by
    obtain ⟨la, ia, rfl, qa, ra⟩ := ha
    obtain ⟨lb, ib, rfl, qb, rb⟩ := hb
    have n1 : ia.size = as.length := by simpa using Trees.length _ _ ra
    have n2 : ib.size = bs.length := by simpa using Trees.length _ _ rb
    have hu2 : A.units + min (depths as + 1) (depths bs + 1) < cLine := hu
    have he : ∀ j (j1 : j < ia.size) (j2 : j < ib.size), EqAt A.in1 s ia[j] ib[j] (pairQ as bs j) := fun j j1 j2 => by
      have := eqAt_trees as bs A.in1 s ia.toList ib.toList ra rb (room_in hu2) j (by simpa using j1) (by simpa using j2)
      simpa using this
    show RcAt A s (.ref la) (.ref lb) (eqvs as bs)
    by_cases hsz : ia.size = ib.size
    · rw [← eqvs_same (by omega : as.length = bs.length), ← n1]
      exact RcAt.lists qa qb hsz (room_here hu) he
    · rw [eqvs_other (by omega : as.length ≠ bs.length)]
      exact RcAt.lists_lengths qa qb (by simpa using hsz) (room_here hu)
  | .dct _ _, _, A, s, u, v, ha, _, _ => ha.elim
  | .fz _, _, A, s, u, v, ha, _, _ => ha.elim
  | .ref _, _, A, s, u, v, ha, _, _ => ha.elim
  | .exc _, _, A, s, u, v, ha, _, _ => ha.elim
  | .non, .dct _ _, A, s, u, v, _, hb, _ => hb.elim
  | .non, .fz _, A, s, u, v, _, hb, _ => hb.elim
  | .non, .ref _, A, s, u, v, _, hb, _ => hb.elim
  | .non, .exc _, A, s, u, v, _, hb, _ => hb.elim
  | .bl a, .dct _ _, A, s, u, v, _, hb, _ => hb.elim
  | .bl a, .fz _, A, s, u, v, _, hb, _ => hb.elim
  | .bl a, .ref _, A, s, u, v, _, hb, _ => hb.elim
  | .bl a, .exc _, A, s, u, v, _, hb, _ => hb.elim
  | .int a, .dct _ _, A, s, u, v, _, hb, _ => hb.elim
  | .int a, .fz _, A, s, u, v, _, hb, _ => hb.elim
  | .int a, .ref _, A, s, u, v, _, hb, _ => hb.elim
  | .int a, .exc _, A, s, u, v, _, hb, _ => hb.elim
  | .str a, .dct _ _, A, s, u, v, _, hb, _ => hb.elim
  | .str a, .fz _, A, s, u, v, _, hb, _ => hb.elim
  | .str a, .ref _, A, s, u, v, _, hb, _ => hb.elim
  | .str a, .exc _, A, s, u, v, _, hb, _ => hb.elim
  | .tup as, .dct _ _, A, s, u, v, _, hb, _ => hb.elim
  | .tup as, .fz _, A, s, u, v, _, hb, _ => hb.elim
  | .tup as, .ref _, A, s, u, v, _, hb, _ => hb.elim
  | .tup as, .exc _, A, s, u, v, _, hb, _ => hb.elim
  | .lst as, .dct _ _, A, s, u, v, _, hb, _ => hb.elim
  | .lst as, .fz _, A, s, u, v, _, hb, _ => hb.elim
  | .lst as, .ref _, A, s, u, v, _, hb, _ => hb.elim
  | .lst as, .exc _, A, s, u, v, _, hb, _ => hb.elim
theorem rcNeAt_tree : ∀ (x y : D) (A : Around) (s : Shared) (u v : Value), Tree s.heap x u → Tree s.heap y v → A.units + min x.depth y.depth < cLine → RcNeAt A s u v (!x.eqv y)
  | .non, .non, A, s, u, v, ha, hb, hu => by
    cases (show u = Value.none from ha)
    cases (show v = Value.none from hb)
    exact RcNeAt.none_none
  | .non, .bl b, A, s, u, v, ha, hb, hu => by
    cases (show u = Value.none from ha)
    cases (show v = Value.bool b from hb)
    exact rnc (RcNeAt.none_bool b) rfl
  | .non, .int b, A, s, u, v, ha, hb, hu => by
    cases (show u = Value.none from ha)
    obtain ⟨tb, rfl⟩ := hb
    exact rnc (RcNeAt.none_int b tb) rfl
  | .non, .str b, A, s, u, v, ha, hb, hu => by
    cases (show u = Value.none from ha)
    obtain ⟨tb, rfl⟩ := hb
    exact rnc (RcNeAt.none_str b tb) rfl
  | .non, .tup bs, A, s, u, v, ha, hb, hu => by
    cases (show u = Value.none from ha)
    obtain ⟨lb, ib, rfl, qb, rb⟩ := hb
    exact rnc (RcNeAt.none_tuple qb (room_here hu)) rfl
  | .non, .lst bs, A, s, u, v, ha, hb, hu => by
    cases (show u = Value.none from ha)
    obtain ⟨lb, ib, rfl, qb, rb⟩ := hb
    exact rnc (RcNeAt.none_list qb (room_here hu)) rfl
  | .bl a, .non, A, s, u, v, ha, hb, hu => by
    cases (show u = Value.bool a from ha)
    cases (show v = Value.none from hb)
    exact rnc (RcNeAt.bool_none a) rfl
  | .bl a, .bl b, A, s, u, v, ha, hb, hu => by
    cases (show u = Value.bool a from ha)
    cases (show v = Value.bool b from hb)
    exact rnc (RcNeAt.bool_bool a b) rfl
  | .bl a, .int b, A, s, u, v, ha, hb, hu => by
    cases (show u = Value.bool a from ha)
    obtain ⟨tb, rfl⟩ := hb
    exact rnc (RcNeAt.bool_int a b tb) (by simp only [D.eqv, dec_beq, bne])
  | .bl a, .str b, A, s, u, v, ha, hb, hu => by
    cases (show u = Value.bool a from ha)
    obtain ⟨tb, rfl⟩ := hb
    exact rnc (RcNeAt.bool_str a b tb) rfl
  | .bl a, .tup bs, A, s, u, v, ha, hb, hu => by
    cases (show u = Value.bool a from ha)
    obtain ⟨lb, ib, rfl, qb, rb⟩ := hb
    exact rnc (RcNeAt.bool_tuple a qb (room_here hu)) rfl
  | .bl a, .lst bs, A, s, u, v, ha, hb, hu => by
    cases (show u = Value.bool a from ha)
    obtain ⟨lb, ib, rfl, qb, rb⟩ := hb
    exact rnc (RcNeAt.bool_list a qb (room_here hu)) rfl
  | .int a, .non, A, s, u, v, ha, hb, hu => by
    obtain ⟨ta, rfl⟩ := ha
    cases (show v = Value.none from hb)
    exact rnc (RcNeAt.int_none a ta) rfl
  | .int a, .bl b, A, s, u, v, ha, hb, hu => by
    obtain ⟨ta, rfl⟩ := ha
    cases (show v = Value.bool b from hb)
    exact rnc (RcNeAt.int_bool a ta b) (by simp only [D.eqv, dec_beq, bne])
  | .int a, .int b, A, s, u, v, ha, hb, hu => by
    obtain ⟨ta, rfl⟩ := ha
    obtain ⟨tb, rfl⟩ := hb
    exact rnc (RcNeAt.int_int a ta b tb) (by simp only [D.eqv, dec_beq, bne])
  | .int a, .str b, A, s, u, v, ha, hb, hu => by
    obtain ⟨ta, rfl⟩ := ha
    obtain ⟨tb, rfl⟩ := hb
    exact rnc (RcNeAt.int_str a ta b tb) rfl
  | .int a, .tup bs, A, s, u, v, ha, hb, hu => by
    obtain ⟨ta, rfl⟩ := ha
    obtain ⟨lb, ib, rfl, qb, rb⟩ := hb
    exact rnc (RcNeAt.int_tuple a ta qb (room_here hu)) rfl
  | .int a, .lst bs, A, s, u, v, ha, hb, hu => by
    obtain ⟨ta, rfl⟩ := ha
    obtain ⟨lb, ib, rfl, qb, rb⟩ := hb
    exact rnc (RcNeAt.int_list a ta qb (room_here hu)) rfl
  | .str a, .non, A, s, u, v, ha, hb, hu => by
    obtain ⟨ta, rfl⟩ := ha
    cases (show v = Value.none from hb)
    exact rnc (RcNeAt.str_none a ta) rfl
  | .str a, .bl b, A, s, u, v, ha, hb, hu => by
    obtain ⟨ta, rfl⟩ := ha
    cases (show v = Value.bool b from hb)
    exact rnc (RcNeAt.str_bool a ta b) rfl
  | .str a, .int b, A, s, u, v, ha, hb, hu => by
    obtain ⟨ta, rfl⟩ := ha
    obtain ⟨tb, rfl⟩ := hb
    exact rnc (RcNeAt.str_int a ta b tb) rfl
  | .str a, .str b, A, s, u, v, ha, hb, hu => by
    obtain ⟨ta, rfl⟩ := ha
    obtain ⟨tb, rfl⟩ := hb
    exact rnc (RcNeAt.str_str a ta b tb) (by simp only [D.eqv, dec_beq, bne])
  | .str a, .tup bs, A, s, u, v, ha, hb, hu => by
    obtain ⟨ta, rfl⟩ := ha
    obtain ⟨lb, ib, rfl, qb, rb⟩ := hb
    exact rnc (RcNeAt.str_tuple a ta qb (room_here hu)) rfl
  | .str a, .lst bs, A, s, u, v, ha, hb, hu => by
    obtain ⟨ta, rfl⟩ := ha
    obtain ⟨lb, ib, rfl, qb, rb⟩ := hb
    exact rnc (RcNeAt.str_list a ta qb (room_here hu)) rfl
  | .tup as, .non, A, s, u, v, ha, hb, hu => by
    obtain ⟨la, ia, rfl, qa, ra⟩ := ha
    cases (show v = Value.none from hb)
    exact rnc (RcNeAt.tuple_none qa (room_here hu)) rfl
  | .tup as, .bl b, A, s, u, v, ha, hb, hu => by
    obtain ⟨la, ia, rfl, qa, ra⟩ := ha
    cases (show v = Value.bool b from hb)
    exact rnc (RcNeAt.tuple_bool b qa (room_here hu)) rfl
  | .tup as, .int b, A, s, u, v, ha, hb, hu => by
    obtain ⟨la, ia, rfl, qa, ra⟩ := ha
    obtain ⟨tb, rfl⟩ := hb
    exact rnc (RcNeAt.tuple_int b tb qa (room_here hu)) rfl
  | .tup as, .str b, A, s, u, v, ha, hb, hu => by
    obtain ⟨la, ia, rfl, qa, ra⟩ := ha
    obtain ⟨tb, rfl⟩ := hb
    exact rnc (RcNeAt.tuple_str b tb qa (room_here hu)) rfl
  | .tup as, .tup bs, A, s, u, v, ha, hb, hu => by
    obtain ⟨la, ia, rfl, qa, ra⟩ := ha
    obtain ⟨lb, ib, rfl, qb, rb⟩ := hb
    have n1 : ia.size = as.length := by simpa using Trees.length _ _ ra
    have n2 : ib.size = bs.length := by simpa using Trees.length _ _ rb
    have hu2 : A.units + min (depths as + 1) (depths bs + 1) < cLine := hu
    have he : ∀ j (j1 : j < ia.size) (j2 : j < ib.size), EqAt A.in1 s ia[j] ib[j] (pairQ as bs j) := fun j j1 j2 => by
      have := eqAt_trees as bs A.in1 s ia.toList ib.toList ra rb (room_in hu2) j (by simpa using j1) (by simpa using j2)
      simpa using this
    show RcNeAt A s (.ref la) (.ref lb) (!eqvs as bs)
    rw [← eqvs_len as bs, ← n1, ← n2]
    exact RcNeAt.tuples qa qb (room_here hu) he
  | .tup as, .lst bs, A, s, u, v, ha, hb, hu => by
    obtain ⟨la, ia, rfl, qa, ra⟩ := ha
    obtain ⟨lb, ib, rfl, qb, rb⟩ := hb
    exact rnc (RcNeAt.tuple_list qa qb (room_here hu)) rfl
  | .lst as, .non, A, s, u, v, ha, hb, hu => by
    obtain ⟨la, ia, rfl, qa, ra⟩ := ha
    cases (show v = Value.none from hb)
    exact rnc (RcNeAt.list_none qa (room_here hu)) rfl
  | .lst as, .bl b, A, s, u, v, ha, hb, hu => by
    obtain ⟨la, ia, rfl, qa, ra⟩ := ha
    cases (show v = Value.bool b from hb)
    exact rnc (RcNeAt.list_bool b qa (room_here hu)) rfl
  | .lst as, .int b, A, s, u, v, ha, hb, hu => by
    obtain ⟨la, ia, rfl, qa, ra⟩ := ha
    obtain ⟨tb, rfl⟩ := hb
    exact rnc (RcNeAt.list_int b tb qa (room_here hu)) rfl
  | .lst as, .str b, A, s, u, v, ha, hb, hu => by
    obtain ⟨la, ia, rfl, qa, ra⟩ := ha
    obtain ⟨tb, rfl⟩ := hb
    exact rnc (RcNeAt.list_str b tb qa (room_here hu)) rfl
  | .lst as, .tup bs, A, s, u, v, ha, hb, hu => by
    obtain ⟨la, ia, rfl, qa, ra⟩ := ha
    obtain ⟨lb, ib, rfl, qb, rb⟩ := hb
    exact rnc (RcNeAt.list_tuple qa qb (room_here hu)) rfl
  | .lst as, .lst bs, A, s, u, v, ha, hb, hu => by
    obtain ⟨la, ia, rfl, qa, ra⟩ := ha
    obtain ⟨lb, ib, rfl, qb, rb⟩ := hb
    have n1 : ia.size = as.length := by simpa using Trees.length _ _ ra
    have n2 : ib.size = bs.length := by simpa using Trees.length _ _ rb
    have hu2 : A.units + min (depths as + 1) (depths bs + 1) < cLine := hu
    have he : ∀ j (j1 : j < ia.size) (j2 : j < ib.size), EqAt A.in1 s ia[j] ib[j] (pairQ as bs j) := fun j j1 j2 => by
      have := eqAt_trees as bs A.in1 s ia.toList ib.toList ra rb (room_in hu2) j (by simpa using j1) (by simpa using j2)
      simpa using this
    show RcNeAt A s (.ref la) (.ref lb) (!eqvs as bs)
    by_cases hsz : ia.size = ib.size
    · rw [← eqvs_same (by omega : as.length = bs.length), ← n1]
      exact RcNeAt.lists qa qb hsz (room_here hu) he
    · rw [eqvs_other (by omega : as.length ≠ bs.length)]
      exact RcNeAt.lists_lengths qa qb (by simpa using hsz) (room_here hu)
  | .dct _ _, _, A, s, u, v, ha, _, _ => ha.elim
  | .fz _, _, A, s, u, v, ha, _, _ => ha.elim
  | .ref _, _, A, s, u, v, ha, _, _ => ha.elim
  | .exc _, _, A, s, u, v, ha, _, _ => ha.elim
  | .non, .dct _ _, A, s, u, v, _, hb, _ => hb.elim
  | .non, .fz _, A, s, u, v, _, hb, _ => hb.elim
  | .non, .ref _, A, s, u, v, _, hb, _ => hb.elim
  | .non, .exc _, A, s, u, v, _, hb, _ => hb.elim
  | .bl a, .dct _ _, A, s, u, v, _, hb, _ => hb.elim
  | .bl a, .fz _, A, s, u, v, _, hb, _ => hb.elim
  | .bl a, .ref _, A, s, u, v, _, hb, _ => hb.elim
  | .bl a, .exc _, A, s, u, v, _, hb, _ => hb.elim
  | .int a, .dct _ _, A, s, u, v, _, hb, _ => hb.elim
  | .int a, .fz _, A, s, u, v, _, hb, _ => hb.elim
  | .int a, .ref _, A, s, u, v, _, hb, _ => hb.elim
  | .int a, .exc _, A, s, u, v, _, hb, _ => hb.elim
  | .str a, .dct _ _, A, s, u, v, _, hb, _ => hb.elim
  | .str a, .fz _, A, s, u, v, _, hb, _ => hb.elim
  | .str a, .ref _, A, s, u, v, _, hb, _ => hb.elim
  | .str a, .exc _, A, s, u, v, _, hb, _ => hb.elim
  | .tup as, .dct _ _, A, s, u, v, _, hb, _ => hb.elim
  | .tup as, .fz _, A, s, u, v, _, hb, _ => hb.elim
  | .tup as, .ref _, A, s, u, v, _, hb, _ => hb.elim
  | .tup as, .exc _, A, s, u, v, _, hb, _ => hb.elim
  | .lst as, .dct _ _, A, s, u, v, _, hb, _ => hb.elim
  | .lst as, .fz _, A, s, u, v, _, hb, _ => hb.elim
  | .lst as, .ref _, A, s, u, v, _, hb, _ => hb.elim
  | .lst as, .exc _, A, s, u, v, _, hb, _ => hb.elim
end Ev
end
section
set_option Elab.async false
set_option linter.all false
set_option maxRecDepth 100000
namespace Ev
open PySem PySem.Spec PyProof.Rows L2 PySem.SeqAt
section
variable {X : Cx} {C : Nat → Addr} {pins : List (Addr × Obj)} {σ : Slots} {H : Hp} {s : Shared} {μ : List Addr} {S : Sto}
mutual
theorem tree_pure (I : Inv X pins σ H s) : ∀ (d : D) (v : V) (fp : List Addr) (u : Value), Rep (tOf X C) H μ d v fp → RelV v u → d.pure = true → Tree s.heap d u
  | .non, _, _, u, h, r, _ => by obtain ⟨rfl, _⟩ := h; exact r
  | .bl b, _, _, u, h, r, _ => by obtain ⟨rfl, _⟩ := h; exact r
  | .int b, _, _, u, h, r, _ => by obtain ⟨rfl, _⟩ := h; exact r
  | .str b, _, _, u, h, r, _ => by obtain ⟨rfl, _⟩ := h; exact r
  | .tup ds, _, fp, u, h, r, p => by
    obtain ⟨a, vs, rfl, q, rs⟩ := h
    obtain ⟨its, r', it, _⟩ := I.tuple q
    exact ⟨a, its.toArray, r, it, trees_pure I ds vs fp its rs r' p⟩
  | .lst _, _, _, _, _, _, p => nomatch p
  | .fz _, _, _, _, _, _, p => nomatch p
  | .dct _ _, _, _, _, _, _, p => nomatch p
  | .ref _, _, _, _, _, _, p => nomatch p
  | .exc _, _, _, _, _, _, p => nomatch p
theorem trees_pure (I : Inv X pins σ H s) : ∀ (ds : List D) (vs : List V) (fp : List Addr) (us : List Value), Reps (tOf X C) H μ ds vs fp → Vals vs us → pures ds = true → Trees s.heap ds us
  | [], vs, _, us, h, r, _ => by
    obtain ⟨rfl, _⟩ := h
    cases r; rfl
  | d :: ds, _, _, us, h, r, p => by
    obtain ⟨v, w, f1, f2, rfl, h1, h2, rfl⟩ := h
    obtain ⟨p1, p2⟩ := Bool.and_eq_true_iff.mp (show (d.pure && pures ds) = true from p)
    cases r with
    | cons r1 r2 => exact ⟨_, _, rfl, tree_pure I d v f1 _ h1 r1 p1, trees_pure I ds w f2 _ h2 r2 p2⟩
end
theorem mapM_cons' {α β : Type} {f : α → Option β} {a : α} {as : List α} {bs : List β} (h : (a :: as).mapM f = some bs) : ∃ b r, bs = b :: r ∧ f a = some b ∧ as.mapM f = some r := by
  rw [List.mapM_cons] at h
  cases e : f a with
  | none => rw [e] at h; simp at h
  | some b =>
    cases e2 : as.mapM f with
    | none => rw [e, e2] at h; simp at h
    | some r =>
      rw [e, e2] at h
      have h' : some (b :: r) = some bs := h
      exact ⟨b, r, (Option.some.inj h').symm, rfl, rfl⟩
theorem trees_map {f : D → Option D} (hf : ∀ (d : D) (v : V) (fp : List Addr) (u : Value) (x : D), Rep (tOf X C) H μ d v fp → RelV v u → f d = some x → Tree s.heap x u) :
    ∀ (ds : List D) (vs : List V) (fp : List Addr) (us : List Value) (xs : List D), Reps (tOf X C) H μ ds vs fp → Vals vs us → ds.mapM f = some xs → Trees s.heap xs us
  | [], vs, _, us, xs, h, r, e => by
    obtain ⟨rfl, _⟩ := h
    cases r
    have : some [] = some xs := e
    cases this; rfl
  | d :: ds, _, _, us, xs, h, r, e => by
    obtain ⟨v, w, f1, f2, rfl, h1, h2, rfl⟩ := h
    obtain ⟨b, q, rfl, e1, e2⟩ := mapM_cons' e
    cases r with
    | cons r1 r2 => exact ⟨_, _, rfl, hf d v f1 _ b h1 r1 e1, trees_map hf ds w f2 _ q h2 r2 e2⟩
theorem lst_at (I : Inv X pins σ H s) {a : Addr} {vs : List V} (h : SqL X.K H a vs) : ∃ its : List Value, Vals vs its ∧ s.heap.IsList a its.toArray ∧ vs.length ≤ sizeLine := by
  obtain ⟨its, r, pl, z⟩ := I.list h
  exact ⟨its, r, pl.isList, z⟩
theorem tree_res (I : Inv X pins σ H s) (ok : StOk (tOf X C) H μ S) : ∀ (k : Nat) (d : D) (v : V) (fp : List Addr) (u : Value) (x : D), Rep (tOf X C) H μ d v fp → RelV v u → res S k d = some x → Tree s.heap x u
  | 0, _, _, _, _, _, _, _, e => nomatch e
  | k + 1, d, v, fp, u, x, h, r, e => by
    unfold res at e
    split at e
    · rename_i p
      cases e
      exact tree_pure I d v fp u h r p
    · split at e
      · rename_i ds _
        obtain ⟨xs, e1, rfl⟩ := Option.map_eq_some_iff.mp e
        obtain ⟨a, vs, rfl, q, rs⟩ := h
        obtain ⟨its, r', it, _⟩ := I.tuple q
        exact ⟨a, its.toArray, r, it, trees_map (tree_res I ok k) ds vs fp its xs rs r' e1⟩
      · rename_i ds _
        obtain ⟨xs, e1, rfl⟩ := Option.map_eq_some_iff.mp e
        obtain ⟨a, vs, fp', rfl, q, rs, _⟩ := h
        obtain ⟨its, r', it, _⟩ := lst_at I (SqL.of q)
        exact ⟨a, its.toArray, r, it, trees_map (tree_res I ok k) ds vs fp' its xs rs r' e1⟩
      · rename_i ds _
        obtain ⟨xs, e1, rfl⟩ := Option.map_eq_some_iff.mp e
        obtain ⟨a, vs, rfl, q, rs, _⟩ := h
        obtain ⟨its, r', it, _⟩ := lst_at I q.sq
        exact ⟨a, its.toArray, r, it, trees_map (tree_res I ok k) ds vs fp its xs rs r' e1⟩
      · rename_i n _
        split at e
        · rename_i ds hS
          obtain ⟨xs, e1, rfl⟩ := Option.map_eq_some_iff.mp e
          obtain ⟨a, rfl, hm, _⟩ := h
          obtain ⟨vs, q, rs⟩ := ok.at_ n _ a hS hm
          obtain ⟨its, r', it, _⟩ := lst_at I (SqL.of q)
          exact ⟨a, its.toArray, r, it, trees_map (tree_res I ok k) ds vs [] its xs rs r' e1⟩
        · cases e
      · cases e
theorem trees_res (I : Inv X pins σ H s) (ok : StOk (tOf X C) H μ S) (k : Nat) (ds : List D) (vs : List V) (fp : List Addr) (us : List Value) (xs : List D) (h : Reps (tOf X C) H μ ds vs fp) (r : Vals vs us) (e : resL S k ds = some xs) : Trees s.heap xs us := by
  unfold resL at e
  split at e
  · rename_i p
    cases e
    exact trees_pure I ds vs fp us h r p
  · exact trees_map (tree_res I ok k) ds vs fp us xs h r e
theorem Trees.get {h : Heap} : ∀ (ds : List D) (us : List Value) (j : Nat) (u : Value), Trees h ds us → us[j]? = some u → ∃ d, ds[j]? = some d ∧ Tree h d u
  | [], us, j, u, t, e => by
    rw [show us = [] from t] at e; simp at e
  | d :: ds, us, 0, u, t, e => by
    obtain ⟨w, r, rfl, h1, h2⟩ := t
    simp at e; subst e; exact ⟨d, rfl, h1⟩
  | d :: ds, us, j + 1, u, t, e => by
    obtain ⟨w, r, rfl, h1, h2⟩ := t
    obtain ⟨x, e1, e2⟩ := Trees.get ds r j u h2 (by simpa using e)
    exact ⟨x, by simpa using e1, e2⟩
open Classical in
/-- the items' answers as a function of the values -/
noncomputable def ansOf (h : Heap) (y : D) (u : Value) : Bool := if hx : ∃ x, Tree h x u then (Classical.choose hx).eqv y else false
theorem ansOf_eq {h : Heap} {y x : D} {u : Value} (t : Tree h x u) : ansOf h y u = x.eqv y := by
  unfold ansOf
  have hx : ∃ x, Tree h x u := ⟨x, t⟩
  rw [dif_pos hx, Tree.unique _ _ u (Classical.choose_spec hx) t]
theorem ans_any {h : Heap} {y : D} : ∀ (xs : List D) (us : List Value), Trees h xs us → us.any (ansOf h y) = xs.any fun z => z.eqv y
  | [], us, t => by rw [show us = [] from t]; rfl
  | x :: xs, us, t => by
    obtain ⟨w, r, rfl, h1, h2⟩ := t
    rw [List.any_cons, List.any_cons, ansOf_eq h1, ans_any xs r h2]
theorem depths_get : ∀ (xs : List D) (j : Nat) (x : D), xs[j]? = some x → x.depth ≤ depths xs
  | [], _, _, e => by simp at e
  | x :: xs, 0, y, e => by simp at e; subst e; exact Nat.le_max_left _ _
  | x :: xs, j + 1, y, e => Nat.le_trans (depths_get xs j y (by simpa using e)) (Nat.le_max_right _ _)
end
def cOf : Cmp → CmpOp
  | .eq => .Eq
  | .ne => .NotEq
  | .lt => .Lt
  | .le => .LtE
  | .gt => .Gt
  | .ge => .GtE
  | .in_ => .In
  | .notin => .NotIn
def rCmp (T : Pgm) (o : Cmp) : R2 := fun x y H Q => ∃ d e S μ f1 f2 b, In2 T H μ S d e x y f1 f2 ∧ cmpE S o d e = some b ∧ Q (.bl b) H
theorem keyV {T : Pgm} {H : Hp} {μ : List Addr} {d : D} {v : V} {fp : List Addr} (r : Rep T H μ d v fp) (h : keyOk d = true) : ∃ k : Key, d = keyD k ∧ v = kV k := by
  cases d with
  | int i => exact ⟨.inl i, rfl, r.1⟩
  | str x => exact ⟨.inr x, rfl, r.1⟩
  | _ => cases h
theorem keyD_eqv (a b : Key) : (keyD a).eqv (keyD b) = decide (a = b) := by
  cases a <;> cases b <;> simp [keyD, D.eqv]
theorem find_key (k : Key) : ∀ kvs : List (Key × V), find (kvs.map fun p => keyD p.1) (keyD k) = kvs.findIdx? fun p => decide (p.1 = k)
  | [] => rfl
  | p :: r => by
    have ih := find_key k r
    unfold find at ih ⊢
    rw [List.map_cons, List.findIdx?_cons, List.findIdx?_cons, keyD_eqv, ih]
theorem findIdx_val (k : Key) : ∀ kvs : List (Key × V), (kvs.findIdx? fun p => decide (p.1 = k)).isSome = (valV kvs k).isSome
  | [] => rfl
  | p :: r => by
    rw [List.findIdx?_cons]
    by_cases e : p.1 = k
    · rw [valV_pos e]; simp [e]
    · rw [valV_neg e]; simp [e, findIdx_val k r]
theorem dict_at {T : Pgm} {H : Hp} {μ : List Addr} {S : Sto} {d : D} {v : V} {fp : List Addr} {ks vs : List D} (ok : StOk T H μ S) (r : Rep T H μ d v fp) (e : dictOf S d = some (ks, vs)) :
    ∃ a us f1, v = .ref a ∧ DictAt H a ks us ∧ Reps T H μ vs us f1 ∧ f1.Sublist fp := by
  unfold dictOf at e
  split at e
  · cases e
    obtain ⟨a, us, f1, rfl, q, r, rfl⟩ := r
    exact ⟨a, us, f1, rfl, q, r, List.sublist_append_left _ _⟩
  · rename_i n
    split at e
    · rename_i ks' vs' hS
      cases e
      obtain ⟨a, rfl, hm, rfl⟩ := r
      obtain ⟨us, q, r⟩ := ok.at_ n _ a hS hm
      exact ⟨a, us, [], rfl, q, r, List.Sublist.refl _⟩
    · cases e
  · cases e
theorem seq_at {T : Pgm} {H : Hp} {μ : List Addr} {S : Sto} {d : D} {v : V} {fp : List Addr} {ds : List D} (ok : StOk T H μ S) (r : Rep T H μ d v fp) (e : seqOf S d = some ds) :
    ∃ a vs f1, v = .ref a ∧ (SqL T.K H a vs ∨ SqT T.K H a vs) ∧ Reps T H μ ds vs f1 ∧ f1.Sublist fp := by
  unfold seqOf at e
  split at e
  · cases e
    obtain ⟨a, vs, rfl, q, r⟩ := r
    exact ⟨a, vs, fp, rfl, .inr q, r, List.Sublist.refl _⟩
  · unfold listOf at e
    split at e
    · cases e
      obtain ⟨a, vs, f1, rfl, q, r, rfl⟩ := r
      exact ⟨a, vs, f1, rfl, .inl (SqL.of q), r, List.sublist_append_left _ _⟩
    · cases e
      obtain ⟨a, vs, rfl, q, r, _⟩ := r
      exact ⟨a, vs, fp, rfl, .inl q.sq, r, List.Sublist.refl _⟩
    · rename_i n _
      split at e
      · rename_i ds' hS
        cases e
        obtain ⟨a, rfl, hm, rfl⟩ := r
        obtain ⟨vs, q, r⟩ := ok.at_ n _ a hS hm
        exact ⟨a, vs, [], rfl, .inl (SqL.of q), r, List.Sublist.refl _⟩
      · cases e
    · cases e
section
variable {X : Cx} {C : Nat → Addr}
theorem in_any (neg : Bool) (hu : X.A.units + 200 < cLine) {pins : List (Addr × Obj)} {s : Shared} {σ : Slots} {H : Hp} {x y : V} {v u : Value} {Q : VK} {d e : D} {S : Sto} {μ : List Addr} {f1 f2 : List Addr} {b : Bool}
    (I : Inv X pins σ H s) (rx : RelV x v) (ry : RelV y u) (i : In2 (tOf X C) H μ S d e x y f1 f2) (h : inE S d e = some b) (q : Q (.bl (if neg then !b else b)) H) :
    wpAny (model X.prog X.w) X.A (compareOp (if neg then .NotIn else .In) v u) (EP X pins σ Q) X.xe s := by
  unfold inE at h
  split at h
  · rename_i z
    split at h
    · rename_i w
      cases h
      obtain ⟨rfl, _⟩ := i.r1; obtain ⟨rfl, _⟩ := i.r2
      cases neg with
      | false => exact op_in_str pins s σ H _ _ v u Q I rx ry ⟨_, _, rfl, rfl, q⟩
      | true => exact L2.op_notIn_str pins s σ H _ _ v u Q I rx ry ⟨_, _, rfl, rfl, q⟩
    · cases h
  · split at h
    · rename_i ds hs
      unfold inL at h
      split at h
      · rename_i yy ys e1 e2
        split at h
        · rename_i hd
          cases h
          have tx := tree_res I i.ok 60 d x f1 v yy i.r1 rx e1
          obtain ⟨a, vs, g1, rfl, sq, rs, _⟩ := seq_at i.ok i.r2 hs
          cases ry
          have main : ∀ its : List Value, Vals vs its → (∀ w, w ∈ its.toArray → EqAt X.A.in1 s w v (ansOf s.heap yy w)) ∧ its.toArray.any (ansOf s.heap yy) = ys.any fun z => z.eqv yy := fun its r' => by
            have ts := trees_res I i.ok 60 ds vs g1 its ys rs r' e2
            refine ⟨fun w hw => ?_, ?_⟩
            · obtain ⟨j, hj, ej⟩ := List.mem_iff_getElem.mp (List.mem_toArray.mp hw)
              obtain ⟨xj, h1, h2⟩ := Trees.get ys its j w ts (by rw [List.getElem?_eq_getElem hj, ej])
              rw [ansOf_eq h2]
              refine eqAt_tree xj yy X.A.in1 s w v h2 tx ?_
              have h3 := depths_get ys j xj h1
              show X.A.units + 1 + min xj.depth yy.depth < cLine
              omega
            · rw [List.any_toArray]; exact ans_any ys its ts
          rcases sq with sq | sq
          · obtain ⟨its, r', il, _⟩ := lst_at I sq
            obtain ⟨m1, m2⟩ := main its r'
            cases neg with
            | false => exact in_listAt _ il m1 (by rw [m2]; exact ⟨.bl _, H, I, rfl, q⟩)
            | true => exact notIn_listAt _ il m1 (by rw [m2]; exact ⟨.bl _, H, I, rfl, q⟩)
          · obtain ⟨its, r', it, _⟩ := I.tuple sq
            obtain ⟨m1, m2⟩ := main its r'
            cases neg with
            | false => exact in_tupleAt _ it m1 (by rw [m2]; exact ⟨.bl _, H, I, rfl, q⟩)
            | true => exact notIn_tupleAt _ it m1 (by rw [m2]; exact ⟨.bl _, H, I, rfl, q⟩)
        · cases h
      · cases h
    · split at h
      · rename_i ks vs' hd
        split at h
        · rename_i hk
          cases h
          obtain ⟨k, rfl, rfl⟩ := keyV i.r1 hk
          obtain ⟨a, us, g1, rfl, ⟨kvs, ha, rfl, rfl, nd⟩, _, _⟩ := dict_at i.ok i.r2 hd
          cases ry
          have e1 : (find (kvs.map fun p => keyD p.1) (keyD k)).isSome = (valV kvs k).isSome := by rw [find_key, findIdx_val]
          rw [e1] at q
          cases neg with
          | false => exact d_in (by omega) I (DGet.k ha) rx fun s' I' => ⟨.bl _, H, I', rfl, q⟩
          | true => exact d_notIn (by omega) I (DGet.k ha) rx fun s' I' => ⟨.bl _, H, I', rfl, q⟩
        · cases h
      · cases h
theorem op_cmp (hu : X.A.units + 200 < cLine) : ∀ o : Cmp, OpR X (compareOp (cOf o)) (rCmp (tOf X C) o) := by
  intro o pins s σ H x y v u Q I rx ry ⟨d, e, S, μ, f1, f2, b, i, h, q⟩
  have fin : ∀ k : Bool, k = b → EP X pins σ Q (.bool k) s := fun k e => ⟨.bl b, H, I, by rw [e]; rfl, q⟩
  have eqs : ∀ k, eqE S d e = some k → ∃ x' y', Tree s.heap x' v ∧ Tree s.heap y' u ∧ k = x'.eqv y' ∧ X.A.units + min x'.depth y'.depth < cLine := fun k hk => by
    unfold eqE at hk
    split at hk
    · rename_i x' y' e1 e2
      split at hk
      · rename_i hd
        cases hk
        exact ⟨x', y', tree_res I i.ok 60 d x f1 v x' i.r1 rx e1, tree_res I i.ok 60 e y f2 u y' i.r2 ry e2, rfl, by omega⟩
      · cases hk
    · cases hk
  cases o with
  | eq =>
    obtain ⟨x', y', t1, t2, rfl, hd⟩ := eqs b h
    exact rcAt_tree x' y' X.A s v u t1 t2 hd _ _ _ _ (fin _ rfl)
  | ne =>
    obtain ⟨k, hk, rfl⟩ := Option.map_eq_some_iff.mp (show (eqE S d e).map (!·) = some b from h)
    obtain ⟨x', y', t1, t2, rfl, hd⟩ := eqs k hk
    exact rcNeAt_tree x' y' X.A s v u t1 t2 hd _ _ _ _ (fin _ rfl)
  | lt =>
    have h' : ltE d e = some b := h
    unfold ltE at h'
    split at h'
    · cases h'
      obtain ⟨rfl, _⟩ := i.r1; obtain ⟨rfl, _⟩ := i.r2
      exact op_lt pins s σ H _ _ v u Q I rx ry ⟨_, _, rfl, rfl, q⟩
    · cases h'
      obtain ⟨rfl, _⟩ := i.r1; obtain ⟨rfl, _⟩ := i.r2
      exact op_lt_str pins s σ H _ _ v u Q I rx ry ⟨_, _, rfl, rfl, q⟩
    · cases h'
  | gt =>
    have h' : ltE e d = some b := h
    unfold ltE at h'
    split at h'
    · cases h'
      obtain ⟨rfl, _⟩ := i.r1; obtain ⟨rfl, _⟩ := i.r2
      exact op_gt pins s σ H _ _ v u Q I rx ry ⟨_, _, rfl, rfl, q⟩
    · cases h'
      obtain ⟨rfl, _⟩ := i.r1; obtain ⟨rfl, _⟩ := i.r2
      exact op_gt_str pins s σ H _ _ v u Q I rx ry ⟨_, _, rfl, rfl, q⟩
    · cases h'
  | le =>
    cases d with
    | int m =>
      cases e with
      | int n =>
        cases h
        obtain ⟨rfl, _⟩ := i.r1; obtain ⟨rfl, _⟩ := i.r2
        exact op_le pins s σ H _ _ v u Q I rx ry ⟨_, _, rfl, rfl, q⟩
      | _ => cases h
    | _ => cases e <;> cases h
  | ge =>
    cases d with
    | int m =>
      cases e with
      | int n =>
        cases h
        obtain ⟨rfl, _⟩ := i.r1; obtain ⟨rfl, _⟩ := i.r2
        exact op_ge pins s σ H _ _ v u Q I rx ry ⟨_, _, rfl, rfl, q⟩
      | _ => cases h
    | _ => cases e <;> cases h
  | in_ => exact in_any (C := C) false hu I rx ry i h q
  | notin =>
    obtain ⟨k, hk, rfl⟩ := Option.map_eq_some_iff.mp (show (inE S d e).map (!·) = some b from h)
    exact in_any (C := C) true hu I rx ry i hk q
end
end Ev
end
section
set_option Elab.async false
set_option linter.all false
set_option maxRecDepth 100000
namespace Ev
open PySem PySem.Spec PyProof.Rows L2 PySem.SeqAt
section
variable {T : Pgm} {H : Hp} {μ : List Addr} {S : Sto}
/-! ### into the store -/
mutual
theorem Rep.kinds : ∀ (d : D) (v : V) (fp : List Addr), Rep T H μ d v fp → Kinds H fp
  | .non, _, _, h => by rw [h.2]; exact fun _ h => nomatch h
  | .bl _, _, _, h => by rw [h.2]; exact fun _ h => nomatch h
  | .int _, _, _, h => by rw [h.2]; exact fun _ h => nomatch h
  | .str _, _, _, h => by rw [h.2]; exact fun _ h => nomatch h
  | .tup ds, _, fp, h => by obtain ⟨a, vs, _, _, r⟩ := h; exact Reps.kinds ds vs fp r
  | .lst ds, _, fp, h => by
    obtain ⟨a, vs, fp', _, q, r, rfl⟩ := h
    intro b m
    rcases List.mem_append.mp m with m | m
    · exact Reps.kinds ds vs fp' r b m
    · have : b = a := by simpa using m
      subst this; exact .inl ⟨_, q⟩
  | .fz _, _, _, h => by obtain ⟨_, _, _, _, _, z⟩ := h; rw [z]; exact fun _ h => nomatch h
  | .dct ks ds, _, fp, h => by
    obtain ⟨a, us, fp', _, ⟨kvs, q, _⟩, r, rfl⟩ := h
    intro b m
    rcases List.mem_append.mp m with m | m
    · exact Reps.kinds ds us fp' r b m
    · have : b = a := by simpa using m
      subst this; exact .inr ⟨_, q⟩
  | .ref _, _, _, h => by obtain ⟨_, _, _, z⟩ := h; rw [z]; exact fun _ h => nomatch h
  | .exc _, _, _, h => by obtain ⟨_, _, _, _, z⟩ := h; rw [z]; exact fun _ h => nomatch h
theorem Reps.kinds : ∀ (ds : List D) (vs : List V) (fp : List Addr), Reps T H μ ds vs fp → Kinds H fp
  | [], _, _, h => by rw [h.2]; exact fun _ h => nomatch h
  | d :: ds, _, _, h => by
    obtain ⟨v, r, f1, f2, _, h1, h2, rfl⟩ := h
    intro b m
    rcases List.mem_append.mp m with m | m
    · exact Rep.kinds d v f1 h1 b m
    · exact Reps.kinds ds r f2 h2 b m
end
/-- an object is put behind the others -/
theorem StOk.push {d : D} {a : Addr} (h : StOk T H μ S) (n : a ∉ μ) (k : Kinds H [a]) (o : ObjAt T H (μ ++ [a]) d a) : StOk T H (μ ++ [a]) (S ++ [d]) := by
  refine ⟨by simp [h.len], ?_, fun i x b h1 h2 => ?_⟩
  · refine List.nodup_append.mpr ⟨h.nd, by simp, fun x hx y hy e => ?_⟩
    have : y = a := by simpa using hy
    subst this; subst e; exact n hx
  · by_cases hi : i < S.length
    · rw [List.getElem?_append_left hi] at h1
      rw [List.getElem?_append_left (by rw [← h.len]; exact hi)] at h2
      have q := h.at_ i x b h1 h2
      cases x with
      | lst ds => obtain ⟨vs, e, r⟩ := q; exact ⟨vs, e, Reps.widen k _ _ _ r⟩
      | dct ks ds => obtain ⟨us, e, r⟩ := q; exact ⟨us, e, Reps.widen k _ _ _ r⟩
      | _ => exact q.elim
    · have hl := h.len
      have hi2 : i = S.length := by
        have := (List.getElem?_eq_some_iff.mp h1).1
        simp at this; omega
      subst hi2
      have e1 : x = d := by simpa using h1.symm
      have e2 : b = a := by
        rw [hl] at h2; simpa using h2.symm
      subst e1; subst e2; exact o
mutual
theorem settle_ok : ∀ (d : D) (v : V) (fp : List Addr) (μ : List Addr) (S : Sto), Rep T H μ d v fp → StOk T H μ S → (μ ++ fp).Nodup → Rep T H (μ ++ fp) (settle d S).1 v [] ∧ StOk T H (μ ++ fp) (settle d S).2
  | .non, _, _, μ, S, h, ok, _ => by obtain ⟨rfl, rfl⟩ := h; rw [List.append_nil]; exact ⟨⟨rfl, rfl⟩, ok⟩
  | .bl _, _, _, μ, S, h, ok, _ => by obtain ⟨rfl, rfl⟩ := h; rw [List.append_nil]; exact ⟨⟨rfl, rfl⟩, ok⟩
  | .int _, _, _, μ, S, h, ok, _ => by obtain ⟨rfl, rfl⟩ := h; rw [List.append_nil]; exact ⟨⟨rfl, rfl⟩, ok⟩
  | .str _, _, _, μ, S, h, ok, _ => by obtain ⟨rfl, rfl⟩ := h; rw [List.append_nil]; exact ⟨⟨rfl, rfl⟩, ok⟩
  | .fz _, _, _, μ, S, h, ok, _ => by
    obtain ⟨a, vs, e, q, r, rfl⟩ := h
    rw [List.append_nil]; exact ⟨⟨a, vs, e, q, r, rfl⟩, ok⟩
  | .ref _, _, _, μ, S, h, ok, _ => by
    obtain ⟨a, e, q, rfl⟩ := h
    rw [List.append_nil]; exact ⟨⟨a, e, q, rfl⟩, ok⟩
  | .exc _, _, _, μ, S, h, ok, _ => by
    obtain ⟨a, e, q, na, rfl⟩ := h
    rw [List.append_nil]; exact ⟨⟨a, e, q, na, rfl⟩, ok⟩
  | .tup ds, _, fp, μ, S, h, ok, nd => by
    obtain ⟨a, vs, e, q, r⟩ := h
    obtain ⟨h1, h2⟩ := settles_ok ds vs fp μ S r ok nd
    exact ⟨⟨a, vs, e, q, h1⟩, h2⟩
  | .lst ds, _, _, μ, S, h, ok, nd => by
    obtain ⟨a, vs, fp', e, q, r, rfl⟩ := h
    rw [← List.append_assoc] at nd ⊢
    obtain ⟨h1, h2⟩ := settles_ok ds vs fp' μ S r ok (nd_left nd)
    have k : Kinds H [a] := fun b m => by
      have : b = a := by simpa using m
      subst this; exact .inl ⟨_, q⟩
    refine ⟨⟨a, e, ?_, rfl⟩, h2.push (nd_out nd a (by simp)) k ⟨vs, q, Reps.widen k _ _ _ h1⟩⟩
    rw [h2.len]; simp
  | .dct ks ds, _, _, μ, S, h, ok, nd => by
    obtain ⟨a, us, fp', e, q, r, rfl⟩ := h
    rw [← List.append_assoc] at nd ⊢
    obtain ⟨h1, h2⟩ := settles_ok ds us fp' μ S r ok (nd_left nd)
    have k : Kinds H [a] := fun b m => by
      have : b = a := by simpa using m
      subst this; obtain ⟨kvs, q, _⟩ := q; exact .inr ⟨_, q⟩
    refine ⟨⟨a, e, ?_, rfl⟩, h2.push (nd_out nd a (by simp)) k ⟨us, q, Reps.widen k _ _ _ h1⟩⟩
    rw [h2.len]; simp
theorem settles_ok : ∀ (ds : List D) (vs : List V) (fp : List Addr) (μ : List Addr) (S : Sto), Reps T H μ ds vs fp → StOk T H μ S → (μ ++ fp).Nodup → Reps T H (μ ++ fp) (settles ds S).1 vs [] ∧ StOk T H (μ ++ fp) (settles ds S).2
  | [], _, _, μ, S, h, ok, _ => by obtain ⟨rfl, rfl⟩ := h; rw [List.append_nil]; exact ⟨⟨rfl, rfl⟩, ok⟩
  | d :: ds, _, _, μ, S, h, ok, nd => by
    obtain ⟨v, r, f1, f2, rfl, h1, h2, rfl⟩ := h
    rw [← List.append_assoc] at nd ⊢
    obtain ⟨a1, a2⟩ := settle_ok d v f1 μ S h1 ok (nd_left nd)
    obtain ⟨b1, b2⟩ := settles_ok ds r f2 (μ ++ f1) _ (Reps.widen (Rep.kinds d v f1 h1) _ _ _ h2) a2 nd
    exact ⟨⟨v, r, [], [], rfl, Rep.widen (Reps.kinds ds r f2 h2) _ _ _ a1, b1, rfl⟩, b2⟩
end
/-- an object of the store is written -/
theorem StOk.put {n : Nat} {a : Addr} {d : D} {o : HO} (h : StOk T H μ S) (hm : μ[n]? = some a) (s : Stp H μ (upd H a o) μ) (k : Kinds (upd H a o) [a]) (q : ObjAt T (upd H a o) μ d a) : StOk T (upd H a o) μ (S.set n d) := by
  refine ⟨by simp [h.len], h.nd, fun i x b h1 h2 => ?_⟩
  by_cases hi : i = n
  · subst hi
    rw [hm] at h2; cases h2
    have e : x = d := by
      have hl : i < S.length := by rw [h.len]; exact (List.getElem?_eq_some_iff.mp hm).1
      rw [List.getElem?_set_self hl] at h1
      exact (Option.some.inj h1).symm
    subst e; exact q
  · rw [List.getElem?_set_ne (fun e => hi e.symm)] at h1
    have hne : b ≠ a := fun e => by
      subst e
      obtain ⟨l1, e1⟩ := List.getElem?_eq_some_iff.mp hm
      obtain ⟨l2, e2⟩ := List.getElem?_eq_some_iff.mp h2
      exact hi ((List.getElem_inj h.nd).mp (e2.trans e1.symm))
    have kd := h.kinds
    have q := h.at_ i x b h1 h2
    cases x with
    | lst ds => obtain ⟨vs, e, r⟩ := q; exact ⟨vs, by rw [upd_ne hne]; exact e, Reps.keep kd s _ _ _ r (by simp)⟩
    | dct ks ds => obtain ⟨us, e, r⟩ := q; exact ⟨us, DictAt.keep (upd_ne hne) e, Reps.keep kd s _ _ _ r (by simp)⟩
    | _ => exact q.elim
/-- writing an object of the store is a step -/
theorem Stp.put {a : Addr} {o : HO} (m : a ∈ μ) : Stp H μ (L2.upd H a o) μ := by
  refine ⟨⟨[], by simp, by simp⟩, fun b u h n => ?_, fun b u h => ?_⟩
  · have ne : b ≠ a := fun e => n (by rw [e]; exact m)
    rw [L2.upd_ne ne]; exact h
  · by_cases e : b = a
    · subst e; exact ⟨o, L2.upd_same⟩
    · exact ⟨u, by rw [L2.upd_ne e]; exact h⟩
/-- own objects go into the store: no step of the heap -/
theorem Stp.own {fp own : List Addr} {H0 : Hp} {μ0 : List Addr} (s : Stp H0 μ0 H μ) (n : ∀ a ∈ fp, H0 a = none) : Stp H0 μ0 H (μ ++ fp) := by
  obtain ⟨e, rfl, f⟩ := s.ext
  exact ⟨⟨e ++ fp, by simp, fun a m => (List.mem_append.mp m).elim (f a) (n a)⟩, s.fr, s.dom⟩
end
end Ev
end
section
set_option Elab.async false
set_option linter.all false
set_option maxRecDepth 100000
namespace Ev
open PySem PySem.Spec PyProof.Rows L2 PySem.SeqAt
theorem atI_eq {α : Type} (xs : List α) (i : Int) : Ev.atI xs i = L2.atI xs i := by
  unfold Ev.atI L2.atI ixN
  by_cases h : 0 ≤ i
  · rw [if_pos h, if_pos h]
    by_cases h2 : i < xs.length
    · rw [if_pos h2]; rfl
    · rw [if_neg h2, List.getElem?_eq_none (by omega)]; rfl
  · rw [if_neg h, if_neg h]
    by_cases h2 : -(xs.length : Int) ≤ i
    · rw [if_pos h2, if_pos h2]; rfl
    · rw [if_neg h2, if_neg h2]; rfl
section
variable {T : Pgm} {H : Hp} {μ : List Addr} {S : Sto}
theorem Reps.get : ∀ (ds : List D) (vs : List V) (fp : List Addr) (j : Nat) (d : D), Reps T H μ ds vs fp → ds[j]? = some d → ∃ v f, vs[j]? = some v ∧ Rep T H μ d v f ∧ f.Sublist fp
  | [], _, _, _, _, _, e => by simp at e
  | d :: ds, _, _, 0, x, h, e => by
    obtain ⟨v, r, f1, f2, rfl, h1, h2, rfl⟩ := h
    simp at e; subst e
    exact ⟨v, f1, rfl, h1, List.sublist_append_left _ _⟩
  | d :: ds, _, _, j + 1, x, h, e => by
    obtain ⟨v, r, f1, f2, rfl, h1, h2, rfl⟩ := h
    obtain ⟨w, f, q1, q2, q3⟩ := Reps.get ds r f2 j x h2 (by simpa using e)
    exact ⟨w, f, by simpa using q1, q2, q3.trans (List.sublist_append_right _ _)⟩
theorem Reps.atI {ds : List D} {vs : List V} {fp : List Addr} {i : Int} {d : D} (h : Reps T H μ ds vs fp) (e : Ev.atI ds i = some d) : ∃ v f, L2.atI vs i = some v ∧ Rep T H μ d v f ∧ f.Sublist fp := by
  have hl := Reps.len _ _ _ h
  rw [atI_eq] at e
  unfold L2.atI at e ⊢
  rw [hl]
  cases q : ixN ds.length i with
  | none => rw [q] at e; cases e
  | some j =>
    rw [q] at e
    exact Reps.get ds vs fp j d h e
theorem Reps.drop : ∀ (n : Nat) (ds : List D) (vs : List V) (fp : List Addr), Reps T H μ ds vs fp → ∃ f, Reps T H μ (ds.drop n) (vs.drop n) f ∧ f.Sublist fp
  | 0, ds, vs, fp, h => ⟨fp, h, List.Sublist.refl _⟩
  | n + 1, [], vs, fp, h => by obtain ⟨rfl, rfl⟩ := h; exact ⟨[], ⟨rfl, rfl⟩, List.Sublist.refl _⟩
  | n + 1, d :: ds, vs, fp, h => by
    obtain ⟨v, r, f1, f2, rfl, h1, h2, rfl⟩ := h
    obtain ⟨f, q1, q2⟩ := Reps.drop n ds r f2 h2
    exact ⟨f, q1, q2.trans (List.sublist_append_right _ _)⟩
theorem Reps.take : ∀ (n : Nat) (ds : List D) (vs : List V) (fp : List Addr), Reps T H μ ds vs fp → ∃ f, Reps T H μ (ds.take n) (vs.take n) f ∧ f.Sublist fp
  | 0, ds, vs, fp, h => ⟨[], ⟨rfl, rfl⟩, List.nil_sublist _⟩
  | n + 1, [], vs, fp, h => by obtain ⟨rfl, rfl⟩ := h; exact ⟨[], ⟨rfl, rfl⟩, List.Sublist.refl _⟩
  | n + 1, d :: ds, vs, fp, h => by
    obtain ⟨v, r, f1, f2, rfl, h1, h2, rfl⟩ := h
    obtain ⟨f, q1, q2⟩ := Reps.take n ds r f2 h2
    exact ⟨f1 ++ f, ⟨v, r.take n, f1, f, rfl, h1, q1, rfl⟩, List.Sublist.append (List.Sublist.refl _) q2⟩
theorem out_part {z : D} {v : V} {f own : List Addr} {Q : VK} (r : Rep T H μ z v f) (nd : (μ ++ own).Nodup) (s : f.Sublist own) (q : Out T H μ S z own Q) : Q v H := q v H f (fun _ _ e => e) r (nd_sub nd s) fun a m => .inl (s.mem m)
end
/-! ### subscripts -/
def rIdx (T : Pgm) : R2 := fun x y H Q => ∃ d e S μ f1 f2 z, In2 T H μ S d e x y f1 f2 ∧ idxE S d e = some z ∧ Out T H μ S z (f1 ++ f2) Q
theorem getK_val {T : Pgm} {H : Hp} {μ : List Addr} (k : Key) : ∀ (kvs : List (Key × V)) (vs : List D) (fp : List Addr) (z : D), Reps T H μ vs (kvs.map (·.2)) fp → getK (kvs.map fun p => keyD p.1) vs (keyD k) = some z →
    ∃ v f, valV kvs k = some v ∧ Rep T H μ z v f ∧ f.Sublist fp
  | [], vs, fp, z, h, e => by
    unfold getK find at e
    simp at e
  | p :: r, vs, fp, z, h, e => by
    cases vs with
    | nil => obtain ⟨h, _⟩ := h; cases h
    | cons d ds =>
      obtain ⟨v, w, f1, f2, e1, h1, h2, rfl⟩ := h
      rw [List.map_cons] at e1
      obtain ⟨rfl, rfl⟩ := List.cons.inj e1
      unfold getK find at e
      rw [List.map_cons, List.findIdx?_cons, keyD_eqv] at e
      by_cases hk : p.1 = k
      · rw [decide_eq_true hk] at e
        simp at e; subst e
        exact ⟨p.2, f1, valV_pos hk, h1, List.sublist_append_left _ _⟩
      · rw [decide_eq_false hk] at e
        rw [valV_neg hk]
        have e' : getK (r.map fun p => keyD p.1) ds (keyD k) = some z := by
          unfold getK find
          cases q : List.findIdx? (fun x => x.eqv (keyD k)) (List.map (fun p => keyD p.1) r) with
          | none => rw [q] at e; simp at e
          | some i => rw [q] at e; simpa using e
        obtain ⟨u, f, q1, q2, q3⟩ := getK_val k r ds f2 z h2 e'
        exact ⟨u, f, q1, q2, q3.trans (List.sublist_append_right _ _)⟩
section
variable {X : Cx} {C : Nat → Addr}
theorem list_at {T : Pgm} {H : Hp} {μ : List Addr} {S : Sto} {d : D} {v : V} {fp : List Addr} {ds : List D} (ok : StOk T H μ S) (r : Rep T H μ d v fp) (e : listOf S d = some ds) :
    ∃ a vs f1, v = .ref a ∧ SqL T.K H a vs ∧ Reps T H μ ds vs f1 ∧ f1.Sublist fp := by
  unfold listOf at e
  split at e
  · cases e
    obtain ⟨a, vs, f1, rfl, q, r, rfl⟩ := r
    exact ⟨a, vs, f1, rfl, SqL.of q, r, List.sublist_append_left _ _⟩
  · cases e
    obtain ⟨a, vs, rfl, q, r, _⟩ := r
    exact ⟨a, vs, fp, rfl, q.sq, r, List.Sublist.refl _⟩
  · rename_i n
    split at e
    · rename_i ds' hS
      cases e
      obtain ⟨a, rfl, hm, rfl⟩ := r
      obtain ⟨vs, q, r⟩ := ok.at_ n _ a hS hm
      exact ⟨a, vs, [], rfl, SqL.of q, r, List.Sublist.refl _⟩
    · cases e
  · cases e
theorem ix_dict (hu : X.A.units + 1 < cLine) : IxR X (fun x y H Q => ∃ a k v kvs, x = .ref a ∧ y = kV k ∧ H a = some (.dK kvs) ∧ valV kvs k = some v ∧ Q v H) := by
  intro value slice pins s σ H x y v u Q I rx ry h hs
  obtain ⟨a, k, z, kvs, rfl, rfl, hq, he, q⟩ := h
  cases rx
  have g : DGet H a (kV k) (some z) := by rw [← he]; exact DGet.k hq
  exact tail_any (dict_typeIs I g) PySem.F.slot_dict_getitem.lookup (d_getItem hu I g ry fun w' s3 I3 rw' => ⟨z, H, I3, rw', q⟩) hs
theorem ix_d (hu : X.A.units + 1 < cLine) : IxR X (rIdx (tOf X C)) := by
  intro value slice pins s σ H x y v u Q I rx ry ⟨d, e, S, μ, f1, f2, z, i, b, q⟩ hs
  unfold idxE at b
  split at b
  · split at b
    · obtain ⟨a, vs, rfl, sq, r⟩ := i.r1
      obtain ⟨rfl, rfl⟩ := i.r2
      obtain ⟨w, f, g1, g2, g3⟩ := Reps.atI r b
      exact ix_tup value slice pins s σ H _ _ v u Q I rx ry ⟨a, vs, _, w, rfl, rfl, sq, g1, out_part g2 (by simpa using i.nd) (by simpa using g3) q⟩ hs
    · cases b
  · split at b
    · split at b
      · rename_i hl
        obtain ⟨c, e1, rfl⟩ := Option.map_eq_some_iff.mp b
        obtain ⟨rfl, rfl⟩ := i.r1; obtain ⟨rfl, rfl⟩ := i.r2
        rw [atI_eq] at e1
        exact ix_str value slice pins s σ H _ _ v u Q I rx ry ⟨_, _, c, rfl, rfl, hl, e1, out_str i.ok q⟩ hs
      · cases b
    · cases b
  · split at b
    · rename_i ds hl
      split at b
      · obtain ⟨a, vs, g, rfl, sq, r, sb⟩ := list_at i.ok i.r1 hl
        obtain ⟨rfl, rfl⟩ := i.r2
        obtain ⟨w, f, g1, g2, g3⟩ := Reps.atI r b
        exact ix_list value slice pins s σ H _ _ v u Q I rx ry ⟨a, vs, _, w, rfl, rfl, sq, g1, out_part g2 (by simpa using i.nd) (by simpa using g3.trans sb) q⟩ hs
      · cases b
    · split at b
      · rename_i ks vs' hd
        split at b
        · rename_i hk
          obtain ⟨k, rfl, rfl⟩ := keyV i.r2 hk
          obtain ⟨a, us, g, rfl, ⟨kvs, ha, rfl, rfl, nd⟩, rs, sb⟩ := dict_at i.ok i.r1 hd
          obtain ⟨w, f, g1, g2, g3⟩ := getK_val k kvs vs' g z rs b
          exact ix_dict hu value slice pins s σ H _ _ v u Q I rx ry ⟨a, k, w, kvs, rfl, rfl, ha, g1, out_part g2 i.nd (sub_l (g3.trans sb)) q⟩ hs
        · cases b
      · cases b
/-! ### slices -/
def partOf : D → Option (Option Int)
  | .non => some none
  | .int i => some (some i)
  | _ => none
theorem sIx_eq {n d : Nat} {lo : D} {i : Nat} (h : Ev.sIx n d lo = some i) : ∃ o, partOf lo = some o ∧ i = HT.sIx n d o := by
  unfold Ev.sIx at h
  split at h
  · cases h; exact ⟨none, rfl, rfl⟩
  · cases h; exact ⟨some _, rfl, rfl⟩
  · cases h
def rSlD (T : Pgm) : V → Option Int → Option Int → Hp → VK → Prop := fun x l h H Q => ∃ d lo hi S μ fp z, Rep T H μ d x fp ∧ StOk T H μ S ∧ (μ ++ fp).Nodup ∧ partOf lo = some l ∧ partOf hi = some h ∧ slE S d lo hi = some z ∧ Out T H μ S z fp Q
theorem Reps.cut {T : Pgm} {H : Hp} {μ : List Addr} {ds : List D} {vs : List V} {fp : List Addr} (lo hi : Option Int) (h : Reps T H μ ds vs fp) : ∃ f, Reps T H μ (Ev.cut ds (HT.sIx ds.length 0 lo) (HT.sIx ds.length ds.length hi)) (cutV vs lo hi) f ∧ f.Sublist fp := by
  unfold Ev.cut cutV
  rw [Reps.len _ _ _ h]
  obtain ⟨f, h1, s1⟩ := Reps.drop (HT.sIx ds.length 0 lo) _ _ _ h
  obtain ⟨f', h2, s2⟩ := Reps.take (HT.sIx ds.length ds.length hi - HT.sIx ds.length 0 lo) _ _ _ h1
  exact ⟨f', h2, s2.trans s1⟩
theorem sl_d : SlR X (rSlD (tOf X C)) := by
  intro pins s σ H x v vl vu lo hi sl Q I rx hs pl pu ⟨d, l, h, S, μ, fp, z, r, ok, nd, p1, p2, b, q⟩
  unfold slE at b
  split at b
  · split at b
    · rename_i e1 e2
      cases b
      obtain ⟨o1, g1, rfl⟩ := sIx_eq e1
      obtain ⟨o2, g2, rfl⟩ := sIx_eq e2
      rw [p1] at g1; cases g1
      rw [p2] at g2; cases g2
      obtain ⟨a, vs, rfl, sq, rs⟩ := r
      have hl := Reps.len _ _ _ rs
      obtain ⟨f, h1, s1⟩ := Reps.cut lo hi rs
      refine sl_tupA pins s σ H _ v vl vu lo hi sl Q I rx hs pl pu ⟨a, vs, rfl, sq, fun ⟨w1, w2⟩ => ?_, fun _ => ?_⟩
      · rw [hl] at w1 w2
        rw [w1, w2] at q
        refine q _ H fp (fun _ _ e => e) ⟨a, vs, rfl, sq, ?_⟩ nd fun a m => .inl m
        unfold Ev.cut
        rw [List.drop_zero, Nat.sub_zero, List.take_length]; exact rs
      · exact out_tup h1 (nd_sub nd s1) (fun a m => s1.mem m) q
    · cases b
  · split at b
    · rename_i e1 e2
      split at b
      · rename_i hl
        cases b
        obtain ⟨o1, g1, rfl⟩ := sIx_eq e1
        obtain ⟨o2, g2, rfl⟩ := sIx_eq e2
        rw [p1] at g1; cases g1
        rw [p2] at g2; cases g2
        obtain ⟨rfl, rfl⟩ := r
        exact sl_str pins s σ H _ v vl vu lo hi sl Q I rx hs pl pu ⟨_, rfl, hl, out_str ok q⟩
      · cases b
    · cases b
  · split at b
    · rename_i ds hd
      split at b
      · rename_i e1 e2
        cases b
        obtain ⟨o1, g1, rfl⟩ := sIx_eq e1
        obtain ⟨o2, g2, rfl⟩ := sIx_eq e2
        rw [p1] at g1; cases g1
        rw [p2] at g2; cases g2
        obtain ⟨a, vs, g, rfl, sq, rs, sb⟩ := list_at ok r hd
        obtain ⟨f, h1, s1⟩ := Reps.cut lo hi rs
        exact sl_list pins s σ H _ v vl vu lo hi sl Q I rx hs pl pu ⟨a, vs, rfl, sq, out_lst ok h1 (nd_sub nd (s1.trans sb)) (fun a m => (s1.trans sb).mem m) q⟩
      · cases b
    · cases b
end
/-! ### isinstance -/
def VT.name : VT → String
  | .non => "NoneType"
  | .bl => "bool"
  | .int => "int"
  | .str => "str"
  | .tup => "tuple"
  | .lst => "list"
  | .dct => "dict"
def clsV (C : Nat → Addr) : Ty → V
  | .int => .ty "int"
  | .str => .ty "str"
  | .tuple => .ty "tuple"
  | .list => .ty "list"
  | .dict => .ty "dict"
  | .bool => .ty "bool"
  | .valueError => .ty "ValueError"
  | .cls c => .ref (C c)
def clsU (C : Nat → Addr) : Ty → Value
  | .int => .type "int"
  | .str => .type "str"
  | .tuple => .type "tuple"
  | .list => .type "list"
  | .dict => .type "dict"
  | .bool => .type "bool"
  | .valueError => .type "ValueError"
  | .cls c => .ref (C c)
theorem clsV_ok (C : Nat → Addr) (t : Ty) : ClsV (clsV C t) (clsU C t) := by
  cases t with
  | cls c => exact .own _
  | _ => exact .ty _
/-- what is known of the exception classes -/
structure ExcK (K : PySem.W.Frag) (C : Nat → Addr) (isa : Nat → Ty → Bool) : Prop where
  exc : ∀ c, C c ≠ 0 → ExcC K (C c)
  kit : ∀ c c', C c ≠ 0 → PySem.W.kitOne K (.ref (C c)) (.ref (C c')) = some (isa c (.cls c'))
  val : ∀ c, C c ≠ 0 → PySem.W.kitOne K (.ref (C c)) (.type "ValueError") = some (isa c .valueError)
theorem kit_vt (K : PySem.W.Frag) (C : Nat → Addr) (v : VT) (t : Ty) (b : Bool) (h : isVT t v = some b) : PySem.W.kitOne K (.type v.name) (clsU C t) = some b := by
  cases t with
  | cls c => cases h
  | valueError => cases h
  | _ => cases v <;> cases h <;> exact kit_ty (by decide +kernel)
section
variable {X : Cx} {C : Nat → Addr} {isa : Nat → Ty → Bool} {pins : List (Addr × Obj)} {σ : Slots} {H : Hp} {s : Shared} {μ : List Addr} {S : Sto}
theorem tyx_of (ok : StOk (tOf X C) H μ S) {d : D} {x : V} {fp : List Addr} {v : VT} (r : Rep (tOf X C) H μ d x fp) (e : vtOf S d = some v) : TyX X.K H x (.type v.name) := by
  have sqL : ∀ {a : Addr} {vs : List V}, SqL X.K H a vs → TyX X.K H (.ref a) (.type "list") := fun {a vs} q => by
    rcases q with (q | ⟨o, q⟩) | ⟨o, its, n, q, c, _⟩
    · exact .base (.lst q)
    · exact .base (.frz q)
    · exact .kList q c
  cases d with
  | non => cases e; obtain ⟨rfl, _⟩ := r; exact .base .non
  | bl b => cases e; obtain ⟨rfl, _⟩ := r; exact .base (.bl b)
  | int b => cases e; obtain ⟨rfl, _⟩ := r; exact .base (.int b)
  | str b => cases e; obtain ⟨rfl, _⟩ := r; exact .base (.str b)
  | tup ds =>
    cases e
    obtain ⟨a, vs, rfl, q, _⟩ := r
    rcases q with (q | ⟨o, q⟩) | ⟨o, its, n, q, c, _⟩
    · exact .base (.tup q)
    · exact .fTuple q
    · exact .kTuple q c
  | lst ds => cases e; obtain ⟨a, vs, f, rfl, q, _⟩ := r; exact sqL (SqL.of q)
  | fz ds => cases e; obtain ⟨a, vs, rfl, q, _⟩ := r; exact sqL q.sq
  | dct ks ds => cases e; obtain ⟨a, vs, f, rfl, ⟨kvs, q, _⟩, _⟩ := r; exact .base (.dK q)
  | exc c => cases e
  | ref n =>
    obtain ⟨a, rfl, hm, _⟩ := r
    cases hS : S[n]? with
    | none =>
      have e' : (match S[n]? with | some (.lst _) => some VT.lst | some (.dct _ _) => some VT.dct | _ => none) = some v := e
      rw [hS] at e'; cases e'
    | some o =>
      have e' : (match S[n]? with | some (.lst _) => some VT.lst | some (.dct _ _) => some VT.dct | _ => none) = some v := e
      rw [hS] at e'
      have q := ok.at_ n o a hS hm
      cases o with
      | lst ds => cases e'; obtain ⟨vs, q, _⟩ := q; exact sqL (SqL.of q)
      | dct ks ds => cases e'; obtain ⟨us, ⟨kvs, q, _⟩, _⟩ := q; exact .base (.dK q)
      | _ => exact q.elim
theorem kit_d (ec : ExcK X.K C isa) (I : Inv X pins σ H s) (ok : StOk (tOf X C) H μ S) {d : D} {x : V} {fp : List Addr} {u : Value} (r : Rep (tOf X C) H μ d x fp) (rx : RelV x u) {t0 : Ty} {b0 : Bool} (h0 : isTy isa S t0 d = some b0) :
    ∃ (t : Value) (P : Heap → Prop), PySem.W.KitX X.K u t P ∧ P s.heap ∧ u ≠ .builtin "__main__.__loader__#opaque" ∧ ∀ ty b, isTy isa S ty d = some b → PySem.W.kitOne X.K t (clsU C ty) = some b := by
  by_cases hx : ∃ c, d = .exc c
  · obtain ⟨c, rfl⟩ := hx
    obtain ⟨a, rfl, q, na, _⟩ := r
    cases rx
    obtain ⟨⟨oe, vs, hg, hc, hd, hv⟩, _, _⟩ := I.hok a _ q
    have E := ec.exc c na.2
    have J : PySem.W.InstAt s.heap a oe (C c) none := by
      obtain ⟨oc, od, oda, osl⟩ := oe
      dsimp only at hc hd hv
      subst hc hd hv
      exact ⟨hg, rfl, rfl, trivial⟩
    refine ⟨.ref (C c), _, PySem.W.handS_kitx_exc E.hg E.hk E.hs E.hd E.ha E.hn E.ht E.hm, J, (fun z => nomatch z), fun ty b h => ?_⟩
    cases ty with
    | cls c' => cases h; exact ec.kit c c' na.2
    | valueError => cases h; exact ec.val c na.2
    | _ => cases h
  · have hv : ∀ ty b, isTy isa S ty d = some b → ∃ v, vtOf S d = some v ∧ isVT ty v = some b := fun ty b h => by
      cases d with
      | exc c => exact absurd ⟨c, rfl⟩ hx
      | _ =>
        unfold isTy at h
        split at h
        · rename_i hd; cases hd
        · split at h
          · exact ⟨_, by assumption, h⟩
          · cases h
    obtain ⟨v, hv0, _⟩ := hv t0 b0 h0
    obtain ⟨P, Z, p, hb⟩ := kit_of I rx (tyx_of ok r hv0)
    refine ⟨_, P, Z, p, hb, fun ty b h => ?_⟩
    obtain ⟨v', h1, h2⟩ := hv ty b h
    rw [hv0] at h1; cases h1
    exact kit_vt X.K C v ty b h2
theorem kit_ds (C : Nat → Addr) {K : PySem.W.Frag} {t : Value} {d : D} (hk : ∀ ty b, isTy isa S ty d = some b → PySem.W.kitOne K t (clsU C ty) = some b) : ∀ (ts : List Ty) (b : Bool), isTys isa S d ts = some b → PySem.W.kitAny K t (ts.map (clsU C)) = some b
  | [], b, h => h
  | ty :: ts, b, h => by
    unfold isTys at h
    rw [List.map_cons]
    split at h
    · rename_i e
      cases h
      exact kitAny_cons (hk ty true e) (fun z => nomatch z) fun _ => rfl
    · rename_i e
      exact kitAny_cons (hk ty false e) (fun _ => kit_ds C hk ts b h) fun z => nomatch z
    · cases h
end
/-- isinstance(x, T), isinstance(x, (T, ..)) -/
def rIsD (T : Pgm) (isa : Nat → Ty → Bool) (ts : List Ty) : List V → Hp → VK → Prop := fun xs H Q => ∃ d S μ fp x b, Rep T H μ d x fp ∧ StOk T H μ S ∧ isTys isa S d ts = some b ∧ Q (.bl b) H ∧
  ((∃ t, ts = [t] ∧ xs = [x, clsV T.C t]) ∨ ∃ tp, xs = [x, .ref tp] ∧ H tp = some (.tup (ts.map (clsV T.C))))
section
variable {X : Cx} {C : Nat → Addr} {isa : Nat → Ty → Bool}
theorem call_isD (ec : ExcK X.K C isa) (ts : List Ty) (hne : ts ≠ []) : CallR X (.builtin "isinstance") (rIsD (tOf X C) isa ts) := by
  intro pins s σ H xs us Q I r ⟨d, S, μ, fp, x, b, rp, ok, e, q, alt⟩
  cases ts with
  | nil => exact absurd rfl hne
  | cons t0 ts0 =>
  have h0 : ∃ b0, isTy isa S t0 d = some b0 := by
    unfold isTys at e
    split at e
    · exact ⟨_, by assumption⟩
    · exact ⟨_, by assumption⟩
    · cases e
  obtain ⟨b0, h0⟩ := h0
  rcases alt with ⟨t, z, rfl⟩ | ⟨tp, rfl, hT⟩
  · cases z
    obtain ⟨u1, u2, rfl, r1, r2⟩ := vals2 r
    obtain ⟨ty, P, Z, p, hb, hk⟩ := kit_d ec I ok rp r1 h0
    have e2 := (clsV_ok C t0).eq r2
    subst e2
    have hb0 : b0 = b := by
      unfold isTys at e
      rw [h0] at e
      cases b0 with
      | true => cases e; rfl
      | false => cases e; rfl
    subst hb0
    exact PySem.W.kia_one Z I.kIn p (hk t0 b0 h0) hb fun tk => ⟨.bl b0, H, I.tok tk, rfl, q⟩
  · obtain ⟨u1, u2, rfl, r1, r2⟩ := vals2 r
    cases (show u2 = Value.ref tp from r2)
    obtain ⟨ty, P, Z, p, hb, hk⟩ := kit_d ec I ok rp r1 h0
    obtain ⟨_, its, rv, o, h1, h2, n, h3⟩ := (show ObjOk X.prog X.w H s.heap tp (.tup _) from I.hok tp _ hT)
    have pr : ∀ l : List Ty, Paired ClsV (l.map (clsV C)) (l.map (clsU C)) := fun l => by
      induction l with
      | nil => exact .nil
      | cons a l ih => exact .cons (clsV_ok C a) ih
    have e3 := ClsV.all (pr (t0 :: ts0)) rv
    subst e3
    obtain ⟨oc, od, dt, sl⟩ := o
    simp only at h2 h3
    subst h2 h3
    exact PySem.W.kia_tup Z I.kIn p h1 (kit_ds C hk (t0 :: ts0) b e) hb fun tk => ⟨.bl b, H, I.tok tk, rfl, q⟩
end
end Ev
end
section
set_option Elab.async false
set_option linter.all false
set_option maxRecDepth 100000
namespace Ev
open PySem PySem.Spec PyProof.Rows L2 PySem.SeqAt
/-! ### order -/
theorem lt_trans_nat : ∀ (a b c : List Nat), a < b → b < c → a < c := fun a b c h1 h2 => List.lt_trans h1 h2
theorem strLe_trans (x y z : Str) (h1 : (!strLt y x) = true) (h2 : (!strLt z y) = true) : (!strLt z x) = true := by
  unfold strLt at *
  simp only [Bool.not_eq_true', decide_eq_false_iff_not, List.not_lt] at *
  exact List.le_trans h1 h2
theorem strLe_total (x y : Str) : (!strLt y x || !strLt x y) = true := by
  unfold strLt
  simp only [Bool.or_eq_true, Bool.not_eq_true', decide_eq_false_iff_not, List.not_lt]
  exact List.le_total _ _
theorem strLe_anti (x y : Str) (h1 : (!strLt y x) = true) (h2 : (!strLt x y) = true) : x = y := by
  unfold strLt at *
  simp only [Bool.not_eq_true', decide_eq_false_iff_not, List.not_lt] at *
  have := List.le_antisymm h1 h2
  cases x; cases y
  simp only [Str.mk.injEq]
  exact Array.toList_inj.mp this
theorem perm_sorted {α : Type} {le : α → α → Bool} (anti : ∀ a b, le a b = true → le b a = true → a = b) : ∀ (xs ys : List α), xs.Perm ys → xs.Pairwise (fun a b => le a b = true) → ys.Pairwise (fun a b => le a b = true) → xs = ys
  | [], ys, p, _, _ => (List.Perm.nil_eq p)
  | x :: xs, [], p, _, _ => absurd p.symm (by simp)
  | x :: xs, y :: ys, p, h1, h2 => by
    obtain ⟨a1, a2⟩ := List.pairwise_cons.mp h1
    obtain ⟨b1, b2⟩ := List.pairwise_cons.mp h2
    have e : x = y := by
      by_cases h : x = y
      · exact h
      · have m1 : x ∈ ys := (List.mem_cons.mp (p.mem_iff.mp List.mem_cons_self)).resolve_left h
        have m2 : y ∈ xs := (List.mem_cons.mp (p.mem_iff.mpr List.mem_cons_self)).resolve_left (fun e => h e.symm)
        exact anti x y (a1 y m2) (b1 x m1)
    subst e
    rw [perm_sorted anti xs ys (p.cons_inv) a2 b2]
theorem rising_pair : ∀ (ys : List Str) (p : Str), risingS p ys = true → (p :: ys).Pairwise (fun a b => (!strLt b a) = true)
  | [], p, _ => by simp
  | y :: r, p, h => by
    obtain ⟨h1, h2⟩ := Bool.and_eq_true_iff.mp (show (!ltCps y.cps.toList p.cps.toList && risingS y r) = true from h)
    have ih := rising_pair r y h2
    have e : (!strLt y p) = true := by
      unfold strLt
      rw [← ltCps_eq]; exact h1
    refine List.pairwise_cons.mpr ⟨fun z hz => ?_, ih⟩
    rcases List.mem_cons.mp hz with rfl | hz
    · exact e
    · exact strLe_trans p y z e ((List.pairwise_cons.mp ih).1 z hz)
theorem sorted_is {xs ys : List Str} (p : ys.Perm xs) (s : sortedS ys = true) : ys = sortedStrs xs := by
  refine perm_sorted (le := fun a b => !strLt b a) (fun a b => strLe_anti a b) ys _ (p.trans (List.mergeSort_perm xs _).symm) ?_ ?_
  · cases ys with
    | nil => exact List.Pairwise.nil
    | cons y r => exact rising_pair r y s
  · exact List.pairwise_mergeSort (fun a b c => strLe_trans a b c) (fun a b => strLe_total a b) xs
theorem max_is : ∀ (ns : List Int) (x m : Int), m ∈ x :: ns → (∀ y, y ∈ x :: ns → y ≤ m) → m = maxOf (x :: ns) := by
  intro ns
  induction ns with
  | nil => intro x m h1 h2; simpa [maxOf] using h1
  | cons y r ih =>
    intro x m h1 h2
    show m = List.foldl max (max x y) r
    have := ih (max x y) m ?_ ?_
    · exact this
    · rcases List.mem_cons.mp h1 with e | h1
      · have := h2 y (by simp)
        rw [show max x y = m by omega]; simp
      · rcases List.mem_cons.mp h1 with e | h1
        · have := h2 x (by simp)
          rw [show max x y = m by omega]; simp
        · exact List.mem_cons_of_mem _ h1
    · intro z hz
      rcases List.mem_cons.mp hz with e | hz
      · have a := h2 x (by simp)
        have b := h2 y (by simp)
        omega
      · exact h2 z (by simp [hz])
section
variable {T : Pgm} {H : Hp} {μ : List Addr}
theorem Reps.ints : ∀ (ds : List D) (vs : List V) (fp : List Addr) (ns : List Int), Reps T H μ ds vs fp → intsOf ds = some ns → vs = ns.map V.int
  | [], vs, _, ns, h, e => by obtain ⟨rfl, _⟩ := h; cases e; rfl
  | d :: ds, _, _, ns, h, e => by
    obtain ⟨v, r, f1, f2, rfl, h1, h2, rfl⟩ := h
    cases d with
    | int i =>
      obtain ⟨ms, e1, rfl⟩ := Option.map_eq_some_iff.mp (show (intsOf ds).map (i :: ·) = some ns from e)
      obtain ⟨rfl, _⟩ := h1
      rw [Reps.ints ds r f2 ms h2 e1]; rfl
    | _ => cases e
theorem Reps.strs : ∀ (ds : List D) (vs : List V) (fp : List Addr) (ns : List Str), Reps T H μ ds vs fp → strsOf ds = some ns → vs = ns.map V.str
  | [], vs, _, ns, h, e => by obtain ⟨rfl, _⟩ := h; cases e; rfl
  | d :: ds, _, _, ns, h, e => by
    obtain ⟨v, r, f1, f2, rfl, h1, h2, rfl⟩ := h
    cases d with
    | str i =>
      obtain ⟨ms, e1, rfl⟩ := Option.map_eq_some_iff.mp (show (strsOf ds).map (i :: ·) = some ns from e)
      obtain ⟨rfl, _⟩ := h1
      rw [Reps.strs ds r f2 ms h2 e1]; rfl
    | _ => cases e
theorem reps_strs (T : Pgm) (H : Hp) (μ : List Addr) : ∀ xs : List Str, Reps T H μ (xs.map .str) (xs.map V.str) []
  | [] => ⟨rfl, rfl⟩
  | x :: r => ⟨_, _, [], [], rfl, ⟨rfl, rfl⟩, reps_strs T H μ r, rfl⟩
theorem keys_strs : ∀ (kvs : List (Key × V)) (xs : List Str), strsOf (kvs.map fun p => keyD p.1) = some xs → kvs.map (·.1) = xs.map Sum.inr
  | [], xs, e => by cases e; rfl
  | (.inl i, v) :: r, xs, e => by cases e
  | (.inr x, v) :: r, xs, e => by
    obtain ⟨ms, e1, rfl⟩ := Option.map_eq_some_iff.mp (show (strsOf (r.map fun p => keyD p.1)).map (x :: ·) = some xs from e)
    rw [List.map_cons, List.map_cons, keys_strs r ms e1]
end
/-! ### built-ins called by name -/
def bId : Blt → Value
  | .len => .builtin "len"
  | .abs => .builtin "abs"
  | .min2 => .builtin "min"
  | .max2 => .builtin "max"
  | .maxL => .builtin "max"
  | .minL => .builtin "min"
  | .sum => .builtin "sum"
  | .sorted => .builtin "sorted"
  | .tuple => .type "tuple"
  | .list => .type "list"
  | .int => .type "int"
  | .str => .type "str"
def rBlt (T : Pgm) (b : Blt) : List V → Hp → VK → Prop := fun xs H Q => ∃ ds S μ fp z, Reps T H μ ds xs fp ∧ StOk T H μ S ∧ (μ ++ fp).Nodup ∧ bltE S b ds = some z ∧ Out T H μ S z fp Q
section
variable {X : Cx} {C : Nat → Addr}
theorem Reps.one {T : Pgm} {H : Hp} {μ : List Addr} {d : D} {vs : List V} {fp : List Addr} (h : Reps T H μ [d] vs fp) : ∃ v, vs = [v] ∧ Rep T H μ d v fp := by
  obtain ⟨v, r, f1, f2, rfl, h1, ⟨rfl, rfl⟩, rfl⟩ := h
  exact ⟨v, rfl, by simpa using h1⟩
theorem Reps.two {T : Pgm} {H : Hp} {μ : List Addr} {d e : D} {vs : List V} {fp : List Addr} (h : Reps T H μ [d, e] vs fp) : ∃ u v f1 f2, vs = [u, v] ∧ Rep T H μ d u f1 ∧ Rep T H μ e v f2 ∧ fp = f1 ++ f2 := by
  obtain ⟨v, r, f1, f2, rfl, h1, h2, rfl⟩ := h
  obtain ⟨w, rfl, h3⟩ := Reps.one h2
  exact ⟨v, w, f1, f2, rfl, h1, h3, rfl⟩
theorem call_blt (hc : X.calm = true) : ∀ b : Blt, CallR X (bId b) (rBlt (tOf X C) b) := by
  intro b pins s σ H xs us Q I rv ⟨ds, S, μ, fp, z, r, ok, nd, e, q⟩
  unfold bltE at e
  split at e
  · obtain ⟨v, rfl, r1⟩ := Reps.one r
    split at e
    · split at e
      · rename_i hl
        cases e
        obtain ⟨rfl, rfl⟩ := r1
        exact call_len_str pins s σ H _ us Q I rv ⟨_, rfl, hl, out_int ok q⟩
      · cases e
    · split at e
      · rename_i ds' hs
        cases e
        obtain ⟨a, vs, g, rfl, sq, rs, _⟩ := seq_at ok r1 hs
        have hl := Reps.len _ _ _ rs
        refine call_len_seq pins s σ H _ us Q I rv ⟨a, vs, rfl, sq, ?_⟩
        rw [hl]; exact out_int ok q
      · split at e
        · rename_i ks vs' hd
          cases e
          obtain ⟨a, us', g, rfl, ⟨kvs, ha, rfl, rfl, _⟩, _, _⟩ := dict_at ok r1 hd
          refine call_lenD pins s σ H _ us Q I rv ⟨a, kvs, rfl, ha, ?_⟩
          rw [List.length_map] at q
          exact out_int ok q
        · cases e
  · cases e
    obtain ⟨v, rfl, rfl, rfl⟩ := Reps.one r
    exact call_abs pins s σ H _ us Q I rv ⟨_, rfl, out_int ok q⟩
  · cases e
    obtain ⟨u, v, f1, f2, rfl, ⟨rfl, rfl⟩, ⟨rfl, rfl⟩, rfl⟩ := Reps.two r
    exact call_min2 hc pins s σ H _ us Q I rv ⟨_, _, rfl, out_int ok q⟩
  · cases e
    obtain ⟨u, v, f1, f2, rfl, ⟨rfl, rfl⟩, ⟨rfl, rfl⟩, rfl⟩ := Reps.two r
    exact call_max2 hc pins s σ H _ us Q I rv ⟨_, _, rfl, out_int ok q⟩
  · split at e
    · rename_i x' r' e1
      cases e
      obtain ⟨v, rfl, r1⟩ := Reps.one r
      obtain ⟨ds', e2, e3⟩ := Option.bind_eq_some_iff.mp e1
      obtain ⟨a, vs, g, rfl, sq, rs, _⟩ := list_at ok r1 e2
      have ei := Reps.ints _ _ _ _ rs e3
      subst ei
      refine cr_max hc pins s σ H _ us Q I rv ⟨a, _, rfl, sq, by simp, fun m h1 h2 => ?_⟩
      rw [max_is r' x' m h1 h2]; exact out_int ok q
    · cases e
  · split at e
    · rename_i ns e1
      cases e
      obtain ⟨v, rfl, r1⟩ := Reps.one r
      obtain ⟨ds', e2, e3⟩ := Option.bind_eq_some_iff.mp e1
      obtain ⟨a, vs, g, rfl, sq, rs, _⟩ := list_at ok r1 e2
      have ei := Reps.ints _ _ _ _ rs e3
      subst ei
      exact cr_sum hc pins s σ H _ us Q I rv ⟨a, _, rfl, sq, out_int ok q⟩
    · cases e
  · obtain ⟨v, rfl, r1⟩ := Reps.one r
    split at e
    · rename_i ds' hl
      split at e
      · rename_i xs' hx
        split at e
        · rename_i h64
          cases e
          obtain ⟨a, vs, g, rfl, sq, rs, _⟩ := list_at ok r1 hl
          have ei := Reps.strs _ _ _ _ rs hx
          subst ei
          refine cr_sortedS pins s σ H _ us Q I rv ⟨a, xs', rfl, sq, h64, fun ys p pm so np => ?_⟩
          rw [sorted_is pm so]
          exact out_lst ok (reps_strs _ _ _ _) (by simpa using ok.nd) (by simp) q p np
        · cases e
      · cases e
    · split at e
      · rename_i ks vs' hd
        split at e
        · rename_i xs' hx
          split at e
          · rename_i h64
            cases e
            obtain ⟨a, us', g, rfl, ⟨kvs, ha, rfl, rfl, _⟩, _, _⟩ := dict_at ok r1 hd
            refine call_sortedD hc pins s σ H _ us Q I rv ⟨a, kvs, xs', rfl, .inl ha, keys_strs kvs xs' hx, h64, fun ys p pm so np => ?_⟩
            rw [sorted_is pm so]
            exact out_lst ok (reps_strs _ _ _ _) (by simpa using ok.nd) (by simp) q p np
          · cases e
        · cases e
      · cases e
  · obtain ⟨v, rfl, r1⟩ := Reps.one r
    obtain ⟨ds', hs, rfl⟩ := Option.map_eq_some_iff.mp e
    unfold seqOf at hs
    split at hs
    · cases hs
      obtain ⟨a, vs, rfl, sq, rs⟩ := r1
      exact call_tuple_of pins s σ H _ us Q I rv ⟨a, vs, rfl, .inr ⟨sq, q _ H fp (fun _ _ e => e) ⟨a, vs, rfl, sq, rs⟩ nd fun a m => .inl m⟩⟩
    · obtain ⟨a, vs, g, rfl, sq, rs, sb⟩ := list_at ok r1 hs
      exact call_tuple_of pins s σ H _ us Q I rv ⟨a, vs, rfl, .inl ⟨sq, out_tup rs (nd_sub nd sb) (fun a m => sb.mem m) q⟩⟩
  · obtain ⟨v, rfl, r1⟩ := Reps.one r
    obtain ⟨ds', hs, rfl⟩ := Option.map_eq_some_iff.mp e
    obtain ⟨a, vs, g, rfl, sq, rs, sb⟩ := seq_at ok r1 hs
    exact call_list_of pins s σ H _ us Q I rv ⟨a, vs, rfl, sq, out_lst ok rs (nd_sub nd sb) (fun a m => sb.mem m) q⟩
  · cases e
    obtain ⟨v, rfl, rfl, rfl⟩ := Reps.one r
    exact call_int1 pins s σ H _ us Q I rv (.inl ⟨_, rfl, out_int ok q⟩)
  · cases e
    obtain ⟨v, rfl, rfl, rfl⟩ := Reps.one r
    exact call_int1 pins s σ H _ us Q I rv (.inr ⟨_, rfl, out_int ok q⟩)
  · cases e
end
end Ev
end
section
set_option Elab.async false
set_option linter.all false
set_option maxRecDepth 100000
namespace Ev
open PySem PySem.Spec PyProof.Rows L2 PySem.SeqAt
/-- from (H, μ) on, own things (at ow) may go into the store -/
structure StpO (ow : List Addr) (H : Hp) (μ : List Addr) (H' : Hp) (μ' : List Addr) : Prop where
  ext : ∃ e, μ' = μ ++ e ∧ ∀ a ∈ e, a ∈ ow ∨ H a = none
  fr : ∀ b o, H b = some o → b ∉ μ → b ∉ ow → H' b = some o
  dom : ∀ b o, H b = some o → ∃ o', H' b = some o'
theorem StpO.of {H0 H H' : Hp} {μ0 μ μ' ow : List Addr} (s : Stp H0 μ0 H μ) (n : ∀ a ∈ ow, H0 a = none) (d : ∀ a ∈ ow, a ∉ μ) (t : StpO ow H μ H' μ') : Stp H0 μ0 H' μ' := by
  refine ⟨?_, fun b o h1 h2 => ?_, fun b o h => ?_⟩
  · obtain ⟨e, rfl, f⟩ := s.ext
    obtain ⟨e', rfl, f'⟩ := t.ext
    refine ⟨e ++ e', by simp, fun a m => ?_⟩
    rcases List.mem_append.mp m with m | m
    · exact f a m
    · rcases f' a m with m | m
      · exact n a m
      · exact s.free m
  · refine t.fr b o (s.fr b o h1 h2) (fun m => ?_) fun m => ?_
    · rw [s.new m h2] at h1; cases h1
    · rw [n b m] at h1; cases h1
  · obtain ⟨o', e⟩ := s.dom b o h
    exact t.dom b o' e
abbrev OutM (T : Pgm) (H : Hp) (μ ow : List Addr) (S' : Sto) (z : D) (Q : VK) : Prop :=
  ∀ v H' μ' fp, StpO ow H μ H' μ' → StOk T H' μ' S' → Rep T H' μ' z v fp → (μ' ++ fp).Nodup → (∀ a ∈ fp, a ∈ ow ∨ H a = none) → Q v H'
def rMth (T : Pgm) (m : Mth) : V → List V → Hp → VK → Prop := fun x xs H Q => ∃ d ds S μ f1 f2 z S', Rep T H μ d x f1 ∧ Reps T H μ ds xs f2 ∧ StOk T H μ S ∧ (μ ++ (f1 ++ f2)).Nodup ∧ mthE m d ds S = some (z, S') ∧ OutM T H μ (f1 ++ f2) S' z Q
def mTy : Mth → String
  | .append => "list"
  | .pop => "list"
  | .extend => "list"
  | .join => "str"
  | .upper => "str"
  | .get => "dict"
def mId : Mth → String
  | .append => "list.append"
  | .pop => "list.pop"
  | .extend => "list.extend"
  | .join => "str.join"
  | .upper => "str.upper"
  | .get => "dict.get"
def mNm : Mth → Str
  | .append => "append"
  | .pop => "pop"
  | .extend => "extend"
  | .join => "join"
  | .upper => "upper"
  | .get => "get"
section
variable {T : Pgm} {H : Hp} {μ : List Addr} {S : Sto}
theorem StpO.refl {ow : List Addr} : StpO ow H μ H μ := ⟨⟨[], by simp, by simp⟩, fun _ _ h _ _ => h, fun _ o h => ⟨o, h⟩⟩
/-- an object of the store is written, own things come in -/
theorem StpO.put {ow e : List Addr} {a : Addr} {o : HO} (m : a ∈ μ) (he : ∀ b ∈ e, b ∈ ow) : StpO ow H μ (upd H a o) (μ ++ e) := by
  have s : Stp H μ (upd H a o) μ := Stp.put m
  exact ⟨⟨e, rfl, fun b hb => .inl (he b hb)⟩, fun b o h n _ => s.fr b o h n, s.dom⟩
/-- the list at object n becomes ys -/
theorem put_list {n : Nat} {a : Addr} {ds' : List D} {ys : List V} (ok : StOk T H μ S) (hm : μ[n]? = some a) (r : Reps T H μ ds' ys []) : StOk T (upd H a (.lst ys)) μ (S.set n (.lst ds')) := by
  have ma : a ∈ μ := List.mem_of_getElem? hm
  have s : Stp H μ (upd H a (.lst ys)) μ := Stp.put ma
  refine ok.put hm s ?_ ⟨ys, upd_same, Reps.keep ok.kinds s _ _ _ r (by simp)⟩
  intro b hb
  have : b = a := by simpa using hb
  subst this; exact .inl ⟨ys, upd_same⟩
end
theorem list_extend_tuple_any (l : Addr) (items : Array Value) (n : Nat) (b : Addr) (dd : Option Addr) (sl : Array (Option Value)) (items2 : Array Value) (n2 : Nat) (hs0 : ¬(!items.isEmpty && Builtin.List.listTooLong (items.size + items2.size)) = true) (hs1 : items.size ≤ sizeLine) (hs2 : items.size + items2.size ≤ sizeLine + 1) :
    Meets (Builtin.«list.extend» ⟨[.ref l, .ref b], []⟩) (fun _ R s => s.heap.get? l = some { cls := .type "list", dict := none, data := .seq items n, slots := #[] } ∧ s.heap.get? b = some { cls := .type "tuple", dict := dd, data := .seq items2 n2, slots := sl } ∧ R (.ok (.ret Value.none)) { s with heap := s.heap.update l (Obj.mapSeq fun x => x ++ items2), toks := s.toks }) :=
  .of_wp fun prog w A R s h => by
    obtain ⟨hp, g, d, tk, os⟩ := s; obtain ⟨hl, hb, h⟩ := h; have f1 := AutoSeq1.idx_int; have f2 := AutoSeq1.sub_tuple_tuple; have f3 := AutoSeq1.sub_list_list; have f4 := AutoSeq1.sub_tuple_list; have f5 := AutoSeq1.sub_list_tuple;
    have hz' : (items ++ items2).size ≤ sizeLine + 1 := by rw [Array.size_append]; exact hs2
    wp_walk using (wpAny_updateSeq hl rfl (hz := hs1) (_hz' := hz')), wpAny_loadPart' hl, wpAny_loadPart' hb; exact ⟨_, rfl, h⟩
section
variable {X : Cx} {C : Nat → Addr}
theorem mt_extendT : MtR X "list.extend" (fun x vs H Q => ∃ l b xs zs, x = .ref l ∧ vs = [.ref b] ∧ H l = some (.lst xs) ∧ SqT X.K H b zs ∧ xs.length + zs.length ≤ sizeLine ∧ Q .non (upd H l (.lst (xs ++ zs)))) := by
  intro pins s σ H x vs v us Q I rx rv h
  obtain ⟨l, b, xs, zs, rfl, rfl, hH, hB, hz, q⟩ := h
  cases rx
  obtain ⟨u, rfl, ru⟩ := rv.one
  cases ru
  obtain ⟨z, its, n, r, hl, e⟩ := I.lstM hH
  obtain ⟨its2, r2, ⟨⟨oc, od, dt, osl⟩, e2, hc2, n2, hd2⟩, _⟩ := I.tuple hB
  dsimp only at hc2 hd2
  subst hc2 hd2
  have hl2 := r2.length
  have hsz : its.toArray.size + its2.toArray.size ≤ sizeLine := by rw [List.size_toArray, List.size_toArray]; omega
  have hlong : ¬ (!its.toArray.isEmpty && Builtin.List.listTooLong (its.toArray.size + its2.toArray.size)) = true := by
    rw [notLongL hsz, Bool.and_false]
    exact Bool.false_ne_true
  refine call_meets F.slot_list_extend ⟨_, e, rfl⟩ F.entry_list_extend (F.args_list_extend_2 _ _)
    (list_extend_tuple_any l its.toArray n b _ _ its2.toArray n2 hlong (by rw [List.size_toArray]; omega) (by omega)) ⟨e, e2, ?_⟩
  refine ⟨.non, _, I.lset (its' := its ++ its2) hH e (by simp) (r.append r2) ?_, rfl, q⟩
  rw [List.length_append]
  omega
theorem mt_d (hu : X.A.units + 1 < cLine) : ∀ m : Mth, MtR X (mId m) (rMth (tOf X C) m) := by
  intro m pins s σ H x xs v us Q I rx rv ⟨d, ds, S, μ, f1, f2, z, S', r1, r2, ok, nd, e, q⟩
  unfold mthE at e
  split at e
  · rename_i n w
    split at e
    · rename_i ds' hS
      split at e
      · rename_i hl
        cases e
        obtain ⟨a, rfl, hm, rfl⟩ := r1
        obtain ⟨y, rfl, ry⟩ := Reps.one r2
        obtain ⟨vs, ha, rs⟩ := ok.at_ n _ a hS hm
        have nd' : (μ ++ f2).Nodup := by simpa using nd
        obtain ⟨g1, g2⟩ := settle_ok w y f2 μ S ry ok nd'
        have kf := Rep.kinds w y f2 ry
        refine mt_append pins s σ H _ _ v us Q I rx rv ⟨a, vs, y, rfl, rfl, ha, by rw [Reps.len _ _ _ rs]; exact hl, ?_⟩
        have hm' : (μ ++ f2)[n]? = some a := widen_g n a hm
        have ok' := put_list g2 hm' (Reps.append _ _ _ _ _ _ (Reps.widen kf _ _ _ rs) (show Reps (tOf X C) H (μ ++ f2) [(settle w S).1] [y] [] from ⟨y, [], [], [], rfl, g1, ⟨rfl, rfl⟩, rfl⟩))
        exact q _ _ _ [] (StpO.put (List.mem_of_getElem? hm) (fun b hb => by simpa using hb)) ok' ⟨rfl, rfl⟩ (by simpa using ok'.nd) (by simp)
      · cases e
    · cases e
  · rename_i n
    split at e
    · rename_i ds' hS
      split at e
      · rename_i d' hd
        cases e
        obtain ⟨a, rfl, hm, rfl⟩ := r1
        obtain ⟨rfl, rfl⟩ := r2
        obtain ⟨vs, ha, rs⟩ := ok.at_ n _ a hS hm
        have hl := Reps.len _ _ _ rs
        rw [List.getLast?_eq_getElem?] at hd
        obtain ⟨y, f, h1, h2, h3⟩ := Reps.get _ _ _ _ _ rs hd
        have hf : f = [] := List.sublist_nil.mp h3
        subst hf
        refine mt_pop pins s σ H _ _ v us Q I rx rv ⟨a, vs, y, rfl, rfl, ha, by rw [hl]; exact h1, ?_⟩
        obtain ⟨g, g1, g2⟩ := Reps.take (ds'.length - 1) _ _ _ rs
        have hg : g = [] := List.sublist_nil.mp g2
        subst hg
        have e1 : vs.dropLast = vs.take (ds'.length - 1) := by rw [List.dropLast_eq_take, hl]
        have e2 : ds'.dropLast = ds'.take (ds'.length - 1) := by rw [List.dropLast_eq_take]
        rw [e1]
        rw [e2] at q
        have ok' := put_list ok hm g1
        have st : StpO ([] ++ []) H μ (upd H a (.lst (vs.take (ds'.length - 1)))) (μ ++ []) := StpO.put (List.mem_of_getElem? hm) (by simp)
        rw [List.append_nil μ] at st
        have s1 : Stp H μ (upd H a (.lst (vs.take (ds'.length - 1)))) μ := Stp.put (List.mem_of_getElem? hm)
        exact q _ _ μ [] st ok' (Rep.keep ok.kinds s1 _ _ _ h2 (by simp)) (by simpa using ok'.nd) (by simp)
      · cases e
    · cases e
  · rename_i n es
    split at e
    · rename_i ds' hS
      split at e
      · rename_i hl
        cases e
        obtain ⟨a, rfl, hm, rfl⟩ := r1
        obtain ⟨y, rfl, p, zs, rfl, sq, ry⟩ := Reps.one r2
        obtain ⟨vs, ha, rs⟩ := ok.at_ n _ a hS hm
        have nd' : (μ ++ f2).Nodup := by simpa using nd
        obtain ⟨g1, g2⟩ := settles_ok es zs f2 μ S ry ok nd'
        have kf := Reps.kinds es zs f2 ry
        refine mt_extendT pins s σ H _ _ v us Q I rx rv ⟨a, p, vs, zs, rfl, rfl, ha, sq, by rw [Reps.len _ _ _ rs, Reps.len _ _ _ ry]; exact of_decide_eq_true hl, ?_⟩
        have hm' : (μ ++ f2)[n]? = some a := widen_g n a hm
        have ok' := put_list g2 hm' (Reps.append _ _ _ _ _ _ (Reps.widen kf _ _ _ rs) g1)
        exact q _ _ _ [] (StpO.put (List.mem_of_getElem? hm) (fun b hb => by simpa using hb)) ok' ⟨rfl, rfl⟩ (by simpa using ok'.nd) (by simp)
      · cases e
    · cases e
  · rename_i x' w
    split at e
    · rename_i ys hy
      split at e
      · rename_i hl
        cases e
        obtain ⟨rfl, rfl⟩ := r1
        obtain ⟨y, rfl, ry⟩ := Reps.one r2
        obtain ⟨ds', e2, e3⟩ := Option.bind_eq_some_iff.mp hy
        obtain ⟨a, vs, g, rfl, sq, rs, _⟩ := list_at ok ry e2
        have ei := Reps.strs _ _ _ _ rs e3
        subst ei
        exact mt_join pins s σ H _ _ v us Q I rx rv ⟨x', a, ys, rfl, rfl, .inl sq, of_decide_eq_true hl, q _ H μ [] StpO.refl ok ⟨rfl, rfl⟩ (by simpa using ok.nd) (by simp)⟩
      · cases e
    · cases e
  · split at e
    · rename_i hl
      cases e
      obtain ⟨rfl, rfl⟩ := r1
      obtain ⟨rfl, rfl⟩ := r2
      exact mt_upper pins s σ H _ _ v us Q I rx rv ⟨_, rfl, rfl, hl, q _ H μ [] StpO.refl ok ⟨rfl, rfl⟩ (by simpa using ok.nd) (by simp)⟩
    · cases e
  · rename_i d' k w
    split at e
    · rename_i ks vs' hd
      split at e
      · rename_i hk
        cases e
        obtain ⟨y, y2, g1, g2, rfl, q1, q2, rfl⟩ := Reps.two r2
        obtain ⟨key, rfl, rfl⟩ := keyV q1 hk
        obtain ⟨a, us', g, rfl, ⟨kvs, ha, rfl, rfl, _⟩, rs, sb⟩ := dict_at ok r1 hd
        cases rx
        cases rv with
        | cons ra rr =>
          cases rr with
          | cons rb rr =>
            cases rr
            refine d_get2 hu I (DGet.k ha) ra rb fun w' s' I' rw' => ⟨_, H, I', rw', ?_⟩
            cases hv : getK (kvs.map fun p => keyD p.1) vs' (keyD key) with
            | some zz =>
              obtain ⟨u, f, h1, h2, h3⟩ := getK_val key kvs vs' g zz rs hv
              rw [hv] at q
              rw [h1]
              have h4 : f.Sublist (f1 ++ (g1 ++ g2)) := sub_l (h3.trans sb)
              exact q u H μ f StpO.refl ok h2 (nd_sub nd h4) fun a m => .inl (h4.mem m)
            | none =>
              rw [hv] at q
              have e1 : valV kvs key = none := by
                cases hvv : valV kvs key with
                | none => rfl
                | some uu =>
                  exfalso
                  have e2 : (find (kvs.map fun p => keyD p.1) (keyD key)).isSome = true := by rw [find_key, findIdx_val, hvv]; rfl
                  obtain ⟨i, hi⟩ := Option.isSome_iff_exists.mp e2
                  unfold getK at hv
                  rw [hi] at hv
                  have hi' := hi
                  rw [find_key] at hi'
                  have hlt : i < kvs.length := (List.findIdx?_eq_some_iff_findIdx_eq.mp hi').1
                  have hl := Reps.len _ _ _ rs
                  rw [List.length_map] at hl
                  have hv' : vs'[i]? = none := hv
                  rw [List.getElem?_eq_none_iff] at hv'
                  omega
              rw [e1]
              have h4 : g2.Sublist (f1 ++ (g1 ++ g2)) := (List.sublist_append_right _ _).trans (List.sublist_append_right _ _)
              exact q y2 H μ g2 StpO.refl ok q2 (nd_sub nd h4) fun a m => .inl (h4.mem m)
      · cases e
    · cases e
  · cases e
end
end Ev
end
section
set_option Elab.async false
set_option linter.all false
set_option maxRecDepth 100000
namespace Ev
open PySem PySem.Spec PyProof.Rows L2 PySem.SeqAt
/-! ### what is walked -/
/-- the iterator J walks the items ds; G i H μ: how things lie ahead of turn i; P: what is said of the objects that items hold alone -/
structure Walk (T : Pgm) (P : Addr → Prop) (J : It) (ds : List D) (lk : Option (Nat × List D)) (G : Nat → Hp → List Addr → Prop) : Prop where
  item : ∀ (i : Nat) (d : D) (H : Hp) (μ : List Addr) (S : Sto), ds[i]? = some d → G i H μ → StOk T H μ S → stays lk S → J.go i H ∧ ∀ v H1, J.yld i H v H1 →
    Same H H1 ∧ ∃ fp, Rep T H1 μ d v fp ∧ (μ ++ fp).Nodup ∧ (∀ a ∈ fp, P a) ∧ G (i + 1) H1 (μ ++ fp)
  stop : ∀ (i : Nat) (H : Hp) (μ : List Addr) (S : Sto), ds.length ≤ i → G i H μ → StOk T H μ S → stays lk S → J.stop i H
  keep : ∀ (i : Nat) (H : Hp) (μ : List Addr) (H' : Hp) (μ' : List Addr), G i H μ → Kinds H μ → Stp H μ H' μ' → μ'.Nodup → G i H' μ'
/-- items that lie in a sequence that is not in the store -/
def Lies (T : Pgm) (P : Addr → Prop) (ow : List Addr) (sq : Hp → List V → Prop) (ds : List D) (i : Nat) (H : Hp) (μ : List Addr) : Prop :=
  ∃ vs fp, sq H vs ∧ vs.length = ds.length ∧ Reps T H μ (ds.drop i) (vs.drop i) fp ∧ (μ ++ (fp ++ ow)).Nodup ∧ (∀ a ∈ fp, P a) ∧ ∀ a ∈ ow, ∃ o, H a = some o
section
variable {T : Pgm} {P : Addr → Prop}
theorem lies_item {ow : List Addr} {sq : Hp → List V → Prop} {ds : List D} {i : Nat} {H : Hp} {μ : List Addr} {d : D} (h : Lies T P ow sq ds i H μ) (e : ds[i]? = some d) :
    ∃ vs v fp, sq H vs ∧ vs[i]? = some v ∧ Rep T H μ d v fp ∧ (μ ++ fp).Nodup ∧ (∀ a ∈ fp, P a) ∧ Lies T P ow sq ds (i + 1) H (μ ++ fp) := by
  obtain ⟨vs, fp, h1, hl, h2, h3, h4, h5⟩ := h
  obtain ⟨hi, rfl⟩ := List.getElem?_eq_some_iff.mp e
  rw [List.drop_eq_getElem_cons hi, List.drop_eq_getElem_cons (by omega : i < vs.length)] at h2
  obtain ⟨v, r, f1, f2, e1, r1, r2, rfl⟩ := h2
  obtain ⟨rfl, rfl⟩ := List.cons.inj e1
  rw [List.append_assoc, ← List.append_assoc] at h3
  exact ⟨vs, vs[i], f1, h1, List.getElem?_eq_getElem _, r1, nd_left h3, fun a m => h4 a (List.mem_append_left _ m), vs, f2, h1, hl, Reps.widen (Rep.kinds _ _ _ r1) _ _ _ r2, h3, fun a m => h4 a (List.mem_append_right _ m), h5⟩
theorem lies_keep {ow : List Addr} {sq : Hp → List V → Prop} {ds : List D} {i : Nat} {H H' : Hp} {μ μ' : List Addr} (hs : ∀ vs, sq H vs → (∀ a ∈ ow, a ∉ μ) → sq H' vs) (k : Kinds H μ) (s : Stp H μ H' μ') (nd : μ'.Nodup) (h : Lies T P ow sq ds i H μ) : Lies T P ow sq ds i H' μ' := by
  obtain ⟨vs, fp, h1, hl, h2, h3, h4, h5⟩ := h
  have no := nd_out h3
  refine ⟨vs, fp, hs vs h1 fun a m => no a (List.mem_append_right _ m), hl, Reps.keep k s _ _ _ h2 fun a m => no a (List.mem_append_left _ m), ?_, h4, fun a m => ?_⟩
  · have := nd_step (f2 := []) s h3 (by simpa using nd) (fun a m => (List.mem_append.mp m).elim (Reps.there _ _ _ h2 a) (h5 a)) (by simp)
    simpa using this
  · obtain ⟨o, e⟩ := h5 a m
    exact s.dom a o e
theorem walk_sq {ow : List Addr} {ds : List D} {J : It} {sq : Hp → List V → Prop}
    (hs : ∀ H μ H' μ' vs, Kinds H μ → Stp H μ H' μ' → (∀ a ∈ ow, a ∉ μ) → sq H vs → sq H' vs)
    (hgo : ∀ i H vs v, sq H vs → vs[i]? = some v → J.go i H) (hy : ∀ i H v H' vs, J.yld i H v H' → sq H vs → H' = H ∧ vs[i]? = some v) (hst : ∀ i H vs, sq H vs → vs.length ≤ i → J.stop i H) :
    Walk T P J ds none (Lies T P ow sq ds) where
  item := fun i d H μ S e g ok _ => by
    obtain ⟨vs, v, fp, h1, h2, h3, h4, h5, h6⟩ := lies_item g e
    refine ⟨hgo i H vs v h1 h2, fun u H1 y => ?_⟩
    obtain ⟨rfl, e2⟩ := hy i H u H1 vs y h1
    rw [h2] at e2; cases e2
    exact ⟨fun _ _ e => e, fp, h3, h4, h5, h6⟩
  stop := fun i H μ S hi g ok _ => by
    obtain ⟨vs, fp, h1, hl, _⟩ := g
    exact hst i H vs h1 (by omega)
  keep := fun i H μ H' μ' g k s nd => lies_keep (fun vs a b => hs H μ H' μ' vs k s b a) k s nd g
theorem walk_tup {ow : List Addr} {K : PySem.W.Frag} {a : Addr} {ds : List D} : Walk T P (Itt K a) ds none (Lies T P ow (fun H vs => SqT K H a vs) ds) :=
  walk_sq (fun H μ H' μ' vs k s _ q => SqT.keep k s.fr q) (fun i H vs v q e => ⟨vs, v, q, e⟩) (fun i H v H' vs y q => ⟨y.1, y.2 vs q⟩) fun i H vs q e => ⟨vs, q, e⟩
theorem walk_fz {ow : List Addr} {K : PySem.W.Frag} {a : Addr} {ds : List D} : Walk T P (Itl K a) ds none (Lies T P ow (fun H vs => FzAt K H a vs) ds) :=
  walk_sq (fun H μ H' μ' vs k s _ q => FzAt.keep k s.fr q) (fun i H vs v q e => ⟨vs, v, q.sq, e⟩) (fun i H v H' vs y q => ⟨y.1, y.2 vs q.sq⟩) fun i H vs q e => ⟨vs, q.sq, e⟩
theorem walk_lst {ow : List Addr} {K : PySem.W.Frag} {a : Addr} {ds : List D} (ha : a ∈ ow) : Walk T P (Itl K a) ds none (Lies T P ow (fun H vs => H a = some (.lst vs)) ds) :=
  walk_sq (fun H μ H' μ' vs k s n q => s.fr _ _ q (n a ha)) (fun i H vs v q e => ⟨vs, v, SqL.of q, e⟩) (fun i H v H' vs y q => ⟨y.1, y.2 vs (SqL.of q)⟩) fun i H vs q e => ⟨vs, SqL.of q, e⟩
theorem walk_ref {K : PySem.W.Frag} {a : Addr} {ds : List D} {n : Nat} : Walk T P (Itl K a) ds (some (n, ds)) (fun _ _ μ => μ[n]? = some a) where
  item := fun i d H μ S e g ok st => by
    obtain ⟨vs, q, r⟩ := ok.at_ n _ a (show S[n]? = some (.lst ds) from st) g
    obtain ⟨v, f, h1, h2, h3⟩ := Reps.get _ _ _ _ _ r e
    have hf : f = [] := List.sublist_nil.mp h3
    subst hf
    refine ⟨⟨vs, v, SqL.of q, h1⟩, fun u H1 y => ?_⟩
    obtain ⟨rfl, y⟩ := y
    have := y vs (SqL.of q)
    rw [h1] at this; cases this
    exact ⟨fun _ _ e => e, [], h2, by simpa using ok.nd, by simp, by rw [List.append_nil]; exact g⟩
  stop := fun i H μ S hi g ok st => by
    obtain ⟨vs, q, r⟩ := ok.at_ n _ a (show S[n]? = some (.lst ds) from st) g
    exact ⟨vs, SqL.of q, by rw [Reps.len _ _ _ r]; exact hi⟩
  keep := fun i H μ H' μ' g k s nd => s.get g
theorem walk_rng {lo : Int} {n : Nat} : Walk T P (Itr lo n) ((List.range n).map fun (k : Nat) => .int (lo + k)) none (fun _ _ _ => True) where
  item := fun i d H μ S e g ok st => by
    rw [List.getElem?_map] at e
    obtain ⟨j, e1, rfl⟩ := Option.map_eq_some_iff.mp e
    obtain ⟨hi, e2⟩ := List.getElem?_eq_some_iff.mp e1
    rw [List.getElem_range] at e2
    subst e2
    refine ⟨show i < n by simpa using hi, fun u H1 y => ?_⟩
    obtain ⟨rfl, rfl⟩ := y
    exact ⟨fun _ _ e => e, [], ⟨rfl, rfl⟩, by simpa using ok.nd, by simp, trivial⟩
  stop := fun i H μ S hi g ok st => show n ≤ i by simpa using hi
  keep := fun _ _ _ _ _ _ _ _ _ => trivial
theorem walk_str {x : Str} : Walk T P (Its x) (x.cps.toList.map fun c => .str ⟨#[c]⟩) none (fun _ _ _ => True) where
  item := fun i d H μ S e g ok st => by
    rw [List.getElem?_map] at e
    obtain ⟨c, e1, rfl⟩ := Option.map_eq_some_iff.mp e
    have e2 : x.cps[i]? = some c := by simpa using e1
    refine ⟨(Array.getElem?_eq_some_iff.mp e2).1, fun u H1 y => ?_⟩
    obtain ⟨rfl, c', e3, rfl⟩ := y
    rw [e2] at e3; cases e3
    exact ⟨fun _ _ e => e, [], ⟨rfl, rfl⟩, by simpa using ok.nd, by simp, trivial⟩
  stop := fun i H μ S hi g ok st => show x.cps.size ≤ i by simpa using hi
  keep := fun _ _ _ _ _ _ _ _ _ => trivial
theorem walk_zip {K : PySem.W.Frag} {a b : Addr} {as bs : List D} (hK : T.K = K) : Walk T P (RZ.ItzT K a b) (as.zipWith (fun x y => .tup [x, y]) bs) none
    (fun _ H μ => ∃ xs ys, SqT K H a xs ∧ SqT K H b ys ∧ Reps T H μ as xs [] ∧ Reps T H μ bs ys []) where
  item := fun i d H μ S e g ok st => by
    obtain ⟨xs, ys, q1, q2, r1, r2⟩ := g
    rw [List.getElem?_zipWith] at e
    split at e
    · rename_i x y ex ey
      cases e
      obtain ⟨v, f, h1, h2, h3⟩ := Reps.get _ _ _ _ _ r1 ex
      obtain ⟨v', f', h1', h2', h3'⟩ := Reps.get _ _ _ _ _ r2 ey
      have hf : f = [] := List.sublist_nil.mp h3
      have hf' : f' = [] := List.sublist_nil.mp h3'
      subst hf; subst hf'
      refine ⟨⟨xs, ys, v, v', q1, q2, h1, h1'⟩, fun u H1 y => ?_⟩
      obtain ⟨p, x1, x2, rfl, np, rfl, y1, y2⟩ := y
      have e1 := y1 xs q1
      have e2 := y2 ys q2
      rw [h1] at e1; rw [h1'] at e2
      cases e1; cases e2
      have sm : Same H (upd H p (.tup [v, v'])) := Same.upd np
      refine ⟨sm, [], ⟨p, [v, v'], rfl, .inl (.inl upd_same), v, [v'], [], [], rfl, Rep.same sm _ _ _ h2, ⟨v', [], [], [], rfl, Rep.same sm _ _ _ h2', ⟨rfl, rfl⟩, rfl⟩, rfl⟩, by simpa using ok.nd, by simp, ?_⟩
      rw [List.append_nil]
      exact ⟨xs, ys, SqT.keep Same.k0 (fun b o e _ => sm b o e) q1, SqT.keep Same.k0 (fun b o e _ => sm b o e) q2, Reps.same sm _ _ _ r1, Reps.same sm _ _ _ r2⟩
    · cases e
  stop := fun i H μ S hi g ok st => by
    obtain ⟨xs, ys, q1, q2, r1, r2⟩ := g
    rw [List.length_zipWith] at hi
    have l1 := Reps.len _ _ _ r1
    have l2 := Reps.len _ _ _ r2
    exact ⟨xs, ys, q1, q2, by omega⟩
  keep := fun i H μ H' μ' g k s nd => by
    obtain ⟨xs, ys, q1, q2, r1, r2⟩ := g
    exact ⟨xs, ys, SqT.keep k s.fr q1, SqT.keep k s.fr q2, Reps.keep k s _ _ _ r1 (by simp), Reps.keep k s _ _ _ r2 (by simp)⟩
end
/-- new since H0, there in H1 -/
def Nw (H0 H1 : Hp) (a : Addr) : Prop := H0 a = none ∧ ∃ o, H1 a = some o
/-- an iterator is made; N: with a new list beside it that grows -/
structure Begun (T : Pgm) (H0 : Hp) (J : It) (ds : List D) (lk : Option (Nat × List D)) (H1 : Hp) (μ1 : List Addr) : Prop where
  len : ds.length ≤ sizeLine
  fwd : ∃ G, Walk T (Nw H0 H1) J ds lk G ∧ G 0 H1 μ1
  new : ∀ N, H1 N = none → ∃ G, Walk T (Nw H0 H1) J ds lk G ∧ G 0 (upd H1 N (.lst [])) μ1 ∧ ∀ i H μ xs ys, G i H μ → N ∉ μ → H N = some (.lst xs) → G i (upd H N (.lst ys)) μ
section
variable {T : Pgm} {H0 : Hp}
theorem kinds1 {H : Hp} {N : Addr} {xs : List V} (h : H N = some (.lst xs)) : Kinds H [N] := fun b m => by
  have : b = N := by simpa using m
  subst this; exact .inl ⟨xs, h⟩
theorem fr1 {H : Hp} {N : Addr} {o : HO} : ∀ b u, H b = some u → b ∉ [N] → upd H N o b = some u := fun b u e n => by
  rw [upd_ne (by simpa using n)]; exact e
theorem exc1 {H : Hp} {N : Addr} {xs : List V} {μ : List Addr} (h : H N = some (.lst xs)) (a c : Addr) (q : H a = some (excHO c a)) (n : a ∉ μ) : a ∉ μ ∧ a ∉ [N] := ⟨n, fun m => by
  have : a = N := by simpa using m
  subst this; rw [h] at q; cases q⟩
theorem Reps.upd1 {H : Hp} {N : Addr} {xs ys : List V} {μ : List Addr} {ds : List D} {vs : List V} {fp : List Addr} (h : H N = some (.lst xs)) (r : Reps T H μ ds vs fp) (n : N ∉ fp) : Reps T (L2.upd H N (.lst ys)) μ ds vs fp :=
  Reps.keepG (kinds1 h) fr1 (fun _ _ e => e) (exc1 h) ds vs fp r fun a m z => n (by
    have : a = N := by simpa using z
    rw [← this]; exact m)
theorem SqT.upd1 {K : PySem.W.Frag} {H : Hp} {N a : Addr} {xs ys vs : List V} (h : H N = some (.lst xs)) (q : SqT K H a vs) : SqT K (L2.upd H N (.lst ys)) a vs := SqT.keep (kinds1 h) fr1 q
theorem FzAt.upd1 {K : PySem.W.Frag} {H : Hp} {N a : Addr} {xs ys vs : List V} (h : H N = some (.lst xs)) (q : FzAt K H a vs) : FzAt K (L2.upd H N (.lst ys)) a vs := FzAt.keep (kinds1 h) fr1 q
theorem begun_lies {J : It} {ds : List D} {sq : Hp → List V → Prop} {ow : List Addr} {H1 : Hp} {μ1 : List Addr} {S : Sto} (hlen : ds.length ≤ sizeLine) (ok : StOk T H1 μ1 S) (w : ∀ ow', Walk T (Nw H0 H1) J ds none (Lies T (Nw H0 H1) (ow ++ ow') sq ds)) (l : Lies T (Nw H0 H1) ow sq ds 0 H1 μ1)
    (h1 : ∀ H N vs, sq H vs → H N = none → sq (upd H N (.lst [])) vs) (h2 : ∀ H N xs ys vs, sq H vs → H N = some (.lst xs) → N ∉ ow → sq (upd H N (.lst ys)) vs) : Begun T H0 J ds none H1 μ1 where
  len := hlen
  fwd := ⟨_, by simpa using w [], l⟩
  new := fun N nN => by
    obtain ⟨vs, fp, a1, a2, a3, a4, a5, a6⟩ := l
    have nf : ∀ a ∈ fp, a ≠ N := fun a m e => by
      obtain ⟨o, z⟩ := Reps.there _ _ _ a3 a m
      rw [e, nN] at z; cases z
    have no : ∀ a ∈ ow, a ≠ N := fun a m e => by
      obtain ⟨o, z⟩ := a6 a m
      rw [e, nN] at z; cases z
    have nm : ∀ a ∈ μ1, a ≠ N := fun a m e => by
      rcases ok.kinds a m with ⟨_, z⟩ | ⟨_, z⟩ <;> (rw [e, nN] at z; cases z)
    refine ⟨_, w [N], ⟨vs, fp, h1 _ _ _ a1 nN, a2, Reps.same (Same.upd nN) _ _ _ a3, ?_, a5, fun a m => ?_⟩, fun i H μ xs ys g hn hN => ?_⟩
    · rw [← List.append_assoc, ← List.append_assoc]
      rw [← List.append_assoc] at a4
      refine List.nodup_append.mpr ⟨a4, by simp, fun x hx y hy e => ?_⟩
      have hy' : y = N := by simpa using hy
      subst e
      subst hy'
      rcases List.mem_append.mp hx with hx | hx
      · rcases List.mem_append.mp hx with hx | hx
        · exact nm _ hx rfl
        · exact nf _ hx rfl
      · exact no _ hx rfl
    · rcases List.mem_append.mp m with m | m
      · obtain ⟨o, z⟩ := a6 a m
        exact ⟨o, Same.upd nN _ _ z⟩
      · have : a = N := by simpa using m
        subst this; exact ⟨_, upd_same⟩
    · obtain ⟨vs, fp, b1, b2, b3, b4, b5, b6⟩ := g
      obtain ⟨n1, n2, n3⟩ := List.nodup_append.mp b4
      obtain ⟨m1, m2, m3⟩ := List.nodup_append.mp n2
      obtain ⟨k1, k2, k3⟩ := List.nodup_append.mp m2
      refine ⟨vs, fp, h2 _ _ xs ys _ b1 hN fun m => k3 N m N (by simp) rfl, b2, Reps.upd1 hN b3 fun m => m3 N m N (by simp) rfl, b4, b5, fun a m => ?_⟩
      by_cases e : a = N
      · subst e; exact ⟨_, upd_same⟩
      · obtain ⟨o, z⟩ := b6 a m
        exact ⟨o, by rw [upd_ne e]; exact z⟩
theorem begun_any {J : It} {ds : List D} {lk : Option (Nat × List D)} {G : Nat → Hp → List Addr → Prop} {H1 : Hp} {μ1 : List Addr} (hlen : ds.length ≤ sizeLine) (w : Walk T (Nw H0 H1) J ds lk G) (g : G 0 H1 μ1)
    (h1 : ∀ N, H1 N = none → G 0 (upd H1 N (.lst [])) μ1) (h2 : ∀ i H μ N xs ys, G i H μ → N ∉ μ → H N = some (.lst xs) → G i (upd H N (.lst ys)) μ) : Begun T H0 J ds lk H1 μ1 :=
  ⟨hlen, ⟨G, w, g⟩, fun N nN => ⟨G, w, h1 N nN, fun i H μ xs ys => h2 i H μ N xs ys⟩⟩
end
/-- a sequence is not too long -/
def LenOk (K : PySem.W.Frag) (H : Hp) (v : V) : Prop := ∀ a xs, v = .ref a → (SqL K H a xs ∨ SqT K H a xs) → xs.length ≤ sizeLine
theorem Inv.lenOk {X : Cx} {pins : List (Addr × Obj)} {σ : Slots} {H : Hp} {s : Shared} (I : L2.Inv X pins σ H s) (v : V) : LenOk X.K H v := fun a xs _ h => by
  rcases h with h | h
  · obtain ⟨_, _, _, z⟩ := I.list h; exact z
  · obtain ⟨_, _, _, z⟩ := I.tuple h; exact z
theorem PE.len {X : Cx} {e : Expr} {t : TE} (h : L2.PE X e t) : L2.PE X e (fun σ H Q => t σ H fun v H1 => LenOk X.K H1 v → Q v H1) := ⟨fun pins s σ H Q I q =>
  thn (h.run pins s σ H _ I q) fun u s1 ⟨v, H1, I1, r, k⟩ => ⟨v, H1, I1, r, k (Inv.lenOk I1 v)⟩⟩
theorem PA.len {X : Cx} {es : List Expr} {t : TA} (h : PA X es t) : PA X es (fun σ H Q => t σ H fun vs H1 => (∀ v, LenOk X.K H1 v) → Q vs H1) := ⟨fun pos pins s σ H Q I q =>
  thn (h.run pos pins s σ H _ I q) fun u s1 ⟨v, H1, I1, r, k⟩ => ⟨v, H1, I1, r, k (Inv.lenOk I1)⟩⟩
/-- the reading of what a for walks -/
def tIt (T : Pgm) (W : WX) (g : G) (k : ItK) (es : List PE) : TI := fun σ H R => ∃ ρ S μ, EnvOk T H μ σ ρ ∧ StOk T H μ S ∧ Ran T W σ H μ (evalEs g es ρ S) fun ds S1 => ∃ its lk, itemsOf S1 k ds = some (its, lk) ∧
  ∀ J H1 μ1, Stp H μ H1 μ1 → StOk T H1 μ1 S1 → Begun T H J its lk H1 μ1 → R J H1
theorem PI.dep {X : Cx} {tg iter : Expr} {t : TI} (h : ∀ σ H R, t σ H R → ∃ t', PI X tg iter t' ∧ t' σ H R) : PI X tg iter t := ⟨fun pins s σ H R I q => by
  obtain ⟨t', h1, h2⟩ := h σ H R q
  exact h1.run pins s σ H R I h2⟩
section
variable {X : Cx} {C : Nat → Addr} {W : WX} {g : G} {tg : Expr}
/-- one operand, as a list of one -/
theorem ev_one {T : Pgm} {σ : Slots} {H : Hp} {μ : List Addr} {ρ : Env} {S : Sto} {e : PE} {Q : List D → Sto → Prop} (h : Ran T W σ H μ (evalEs g [e] ρ S) Q) : Ran T W σ H μ (evalE g e ρ S) fun d S1 => Q [d] S1 := by
  have h' : Ran T W σ H μ (bnd (evalE g e ρ S) fun d S => bnd (evalEs g [] ρ S) fun ds S => some (.ok (d :: ds) S)) Q := by
    unfold evalEs at h; exact h
  refine h'.bnd.imp fun d S1 _ q => ?_
  unfold evalEs at q
  exact q
theorem ev1e {T : Pgm} {σ : Slots} {H : Hp} {μ : List Addr} {ρ : Env} {S : Sto} {a : PE} (env : EnvOk T H μ σ ρ) (st : StOk T H μ S) {K : D → Sto → Prop} {Q : VK} (h : Ran T W σ H μ (evalE g a ρ S) K)
    (f : ∀ x S1 v H1 μ1 fp, evalE g a ρ S = some (.ok x S1) → Pst T H μ x S1 v H1 μ1 fp → K x S1 → Q v H1) : tEv T W g a σ H Q :=
  ⟨ρ, S, μ, env, st, h.imp fun x S1 e k v H1 μ1 fp p => f x S1 v H1 μ1 fp e p k⟩
theorem evse {T : Pgm} {σ : Slots} {H : Hp} {μ : List Addr} {ρ : Env} {S : Sto} {as : List PE} (env : EnvOk T H μ σ ρ) (st : StOk T H μ S) {K : List D → Sto → Prop} {Q : List V → Hp → Prop} (h : Ran T W σ H μ (evalEs g as ρ S) K)
    (f : ∀ x S1 v H1 μ1 fp, evalEs g as ρ S = some (.ok x S1) → Psts T H μ x S1 v H1 μ1 fp → K x S1 → Q v H1) : tEvs T W g as σ H Q :=
  ⟨ρ, S, μ, env, st, h.imp fun x S1 e k v H1 μ1 fp p => f x S1 v H1 μ1 fp e p k⟩
theorem pi_val {e : PE} {x : Expr} (he : L2.PE X x (tEv (tOf X C) W g e)) : PI X tg x (tIt (tOf X C) W g .val [e]) := by
  refine PI.dep fun σ H R ⟨ρ, S, μ, env, st, h⟩ => ?_
  have h1 := ev_one h
  cases hm : evalE g e ρ S with
  | none => rw [hm] at h1; exact h1.elim
  | some r =>
    cases r with
    | ex c S1 =>
      refine ⟨_, pi_list he, ev1e env st h1 fun x S1' v H1 μ1 fp e1 p k => ?_⟩
      rw [hm] at e1; cases e1

    | ok d S1 =>
      have h2 : ∃ its lk, itemsOf S1 .val [d] = some (its, lk) ∧ ∀ J H1 μ1, Stp H μ H1 μ1 → StOk (tOf X C) H1 μ1 S1 → Begun (tOf X C) H J its lk H1 μ1 → R J H1 := by
        rw [hm] at h1; exact h1
      obtain ⟨its, lk, hi, q⟩ := h2
      have go : ∀ {Q : VK}, (∀ v H1 μ1 fp, Pst (tOf X C) H μ d S1 v H1 μ1 fp → Q v H1) → tEv (tOf X C) W g e σ H Q := fun {Q} f => ev1e env st h1 fun x S1' v H1 μ1 fp e1 p k => by
        rw [hm] at e1; cases e1; exact f v H1 μ1 fp p
      cases d with
      | tup ds =>
        cases hi
        refine ⟨_, pi_tup (PE.len he), go fun v H1 μ1 fp p lo => ?_⟩
        obtain ⟨a, vs, rfl, sq, rs⟩ := p.rep
        exact ⟨a, rfl, ⟨vs, sq⟩, q _ H1 μ1 p.stp p.ok (begun_lies (ow := []) (by rw [← Reps.len _ _ _ rs]; exact lo a vs rfl (.inr sq)) p.ok (fun _ => walk_tup) ⟨vs, fp, sq, Reps.len _ _ _ rs, rs, by simpa using p.nd, fun b m => ⟨p.new b m, Reps.there _ _ _ rs b m⟩, by simp⟩ (fun H N vs q n => SqT.keep Same.k0 (fun b o e _ => Same.upd n b o e) q) fun H N xs ys vs q h _ => SqT.upd1 h q)⟩
      | lst ds =>
        cases hi
        refine ⟨_, pi_list (PE.len he), go fun v H1 μ1 fp p lo => ?_⟩
        obtain ⟨a, vs, f', rfl, sq, rs, rfl⟩ := p.rep
        exact ⟨a, rfl, ⟨vs, SqL.of sq⟩, q _ H1 μ1 p.stp p.ok (begun_lies (ow := [a]) (by rw [← Reps.len _ _ _ rs]; exact lo a vs rfl (.inl (SqL.of sq))) p.ok (fun _ => walk_lst (by simp)) ⟨vs, f', sq, Reps.len _ _ _ rs, rs, p.nd, fun b m => ⟨p.new b (List.mem_append_left _ m), Reps.there _ _ _ rs b m⟩, fun b m => by
          have : b = a := by simpa using m
          subst this; exact ⟨_, sq⟩⟩ (fun H N vs q n => Same.upd n _ _ q) fun H N xs ys vs q h n => by
          rw [upd_ne (fun e => n (by rw [e]; simp))]; exact q)⟩
      | fz ds =>
        cases hi
        refine ⟨_, pi_list (PE.len he), go fun v H1 μ1 fp p lo => ?_⟩
        obtain ⟨a, vs, rfl, sq, rs, rfl⟩ := p.rep
        exact ⟨a, rfl, ⟨vs, sq.sq⟩, q _ H1 μ1 p.stp p.ok (begun_lies (ow := []) (by rw [← Reps.len _ _ _ rs]; exact lo a vs rfl (.inl sq.sq)) p.ok (fun _ => walk_fz) ⟨vs, [], sq, Reps.len _ _ _ rs, rs, by simpa using p.ok.nd, by simp, by simp⟩ (fun H N vs q n => FzAt.keep Same.k0 (fun b o e _ => Same.upd n b o e) q) fun H N xs ys vs q h _ => FzAt.upd1 h q)⟩
      | str z =>
        have hi' : (if z.length ≤ 16777216 then some (z.cps.toList.map fun c => D.str ⟨#[c]⟩, (none : Option (Nat × List D))) else none) = some (its, lk) := hi
        split at hi'
        case isFalse => cases hi'
        rename_i hz
        cases hi'
        refine ⟨_, pi_str he, go fun v H1 μ1 fp p => ?_⟩
        obtain ⟨rfl, rfl⟩ := p.rep
        exact ⟨z, rfl, q _ H1 μ1 p.stp p.ok (begun_any (by rw [List.length_map]; exact hz) walk_str trivial (fun _ _ => trivial) fun _ _ _ _ _ _ _ _ _ => trivial)⟩
      | ref n =>
        have hi' : (match S1[n]? with | some (.lst ds) => some (ds, some (n, ds)) | _ => none) = some (its, lk) := hi
        split at hi'
        · rename_i ds hS
          cases hi'
          refine ⟨_, pi_list (PE.len he), go fun v H1 μ1 fp p lo => ?_⟩
          obtain ⟨a, rfl, hm', rfl⟩ := p.rep
          obtain ⟨vs, sq, rs⟩ := p.ok.at_ n _ a hS hm'
          exact ⟨a, rfl, ⟨vs, SqL.of sq⟩, q _ H1 μ1 p.stp p.ok (begun_any (by rw [← Reps.len _ _ _ rs]; exact lo a vs rfl (.inl (SqL.of sq))) walk_ref hm' (fun _ _ => hm') fun _ _ _ _ _ _ g _ _ => g)⟩
        · cases hi'
      | _ => cases hi
theorem pi_rng1 {e : PE} {x : Expr} {p pos : Pos} (hg : Gl X "range") (hm : X.mg "range" = none) (hx : noStar x = true) (ha : PA X [x] (tEvs (tOf X C) W g [e])) : PI X tg (.Call (.Name "range" p) [x] [] pos) (tIt (tOf X C) W g .rng1 [e]) := by
  have base := pi_range1 (tg := tg) (p := p) (pos := pos) hg hm ha (star_of (es := []) hx)
  refine PI.dep fun σ H R ⟨ρ, S, μ, env, st, h⟩ => ⟨_, base, evse env st h fun ds S1 vs H1 μ1 fp e1 p ⟨its, lk, hi, q⟩ => ?_⟩
  match ds, hi with
  | [.int j], hi =>
    have hi' : (if decide (j ≤ 1000000) && decide (-1000000 ≤ j) then some ((List.range j.toNat).map fun (k : Nat) => D.int k, (none : Option (Nat × List D))) else none) = some (its, lk) := hi
    split at hi'
    · rename_i hj
      cases hi'
      simp only [Bool.and_eq_true, decide_eq_true_eq] at hj
      obtain ⟨v, rfl, rfl, rfl⟩ := Reps.one p.rep
      refine ⟨j, rfl, by omega, by omega, q _ H1 μ1 p.stp p.ok (begun_any (G := fun _ _ _ => True) (by rw [List.length_map, List.length_range, sizeLine_eq]; omega) ?_ trivial (fun _ _ => trivial) fun _ _ _ _ _ _ _ _ _ => trivial)⟩
      have w := walk_rng (T := tOf X C) (P := Nw H H1) (lo := 0) (n := j.toNat)
      simpa using w
    · cases hi'
theorem pi_rng2 {e e' : PE} {x x' : Expr} {p pos : Pos} (hg : Gl X "range") (hm : X.mg "range" = none) (hx : noStar x = true) (hx' : noStar x' = true) (ha : PA X [x, x'] (tEvs (tOf X C) W g [e, e'])) : PI X tg (.Call (.Name "range" p) [x, x'] [] pos) (tIt (tOf X C) W g .rng2 [e, e']) := by
  have base := pi_range2 (tg := tg) (p := p) (pos := pos) hg hm ha (by rw [star_of (es := [x']) hx, star_of (es := []) hx']; rfl) (star_of (es := []) hx')
  refine PI.dep fun σ H R ⟨ρ, S, μ, env, st, h⟩ => ⟨_, base, evse env st h fun ds S1 vs H1 μ1 fp e1 p ⟨its, lk, hi, q⟩ => ?_⟩
  match ds, hi with
  | [.int i, .int j], hi =>
    have hi' : (if decide (j ≤ 1000000) && decide (-1000000 ≤ j) && decide (i ≤ 1000000) && decide (-1000000 ≤ i) then some ((List.range (j - i).toNat).map fun (k : Nat) => D.int (i + k), (none : Option (Nat × List D))) else none) = some (its, lk) := hi
    split at hi'
    · rename_i hj
      cases hi'
      simp only [Bool.and_eq_true, decide_eq_true_eq] at hj
      obtain ⟨u, v, f1, f2, rfl, ⟨rfl, rfl⟩, ⟨rfl, rfl⟩, rfl⟩ := Reps.two p.rep
      exact ⟨i, j, rfl, ⟨by omega, by omega, by omega, by omega⟩, q _ H1 μ1 p.stp p.ok (begun_any (by rw [List.length_map, List.length_range, sizeLine_eq]; omega) walk_rng trivial (fun _ _ => trivial) fun _ _ _ _ _ _ _ _ _ => trivial)⟩
    · cases hi'
theorem pi_zipD {e e' : PE} {x x' : Expr} {p pos tpos : Pos} {elts : List Expr} {kk : Nat} (hg : Gl X "zip") (hm : X.mg "zip" = none) (hx : noStar x = true) (hx' : noStar x' = true) (ha : PA X [x, x'] (tEvs (tOf X C) W g [e, e'])) :
    PI X (.Tuple elts kk tpos) (.Call (.Name "zip" p) [x, x'] [] pos) (tIt (tOf X C) W g .zip [e, e']) := by
  have base := RZ.pi_zipA (elts := elts) (kk := kk) (tpos := tpos) (p := p) (pos := pos) hg hm (PA.len ha) (star_of (es := [x']) hx) (stars_none (es := [x']) (by simpa using hx'))
  refine PI.dep fun σ H R ⟨ρ, S, μ, env, st, h⟩ => ⟨_, base, evse env st h fun ds S1 vs H1 μ1 fp e1 p ⟨its, lk, hi, q⟩ lo => ?_⟩
  match ds, hi with
  | [.tup as, .tup bs], hi =>
    have hi' : (if settleds as && settleds bs then some (as.zipWith (fun x y => D.tup [x, y]) bs, (none : Option (Nat × List D))) else none) = some (its, lk) := hi
    split at hi'
    · rename_i hj
      cases hi'
      obtain ⟨j1, j2⟩ := Bool.and_eq_true_iff.mp hj
      obtain ⟨u, v, f1, f2, rfl, ⟨a, xs, rfl, sq1, r1⟩, ⟨b, ys, rfl, sq2, r2⟩, rfl⟩ := Reps.two p.rep
      have z1 := Reps.settled _ _ _ r1 j1
      have z2 := Reps.settled _ _ _ r2 j2
      subst z1; subst z2
      exact ⟨a, b, xs, ys, rfl, .inr ⟨sq1, sq2, q _ H1 μ1 p.stp p.ok (begun_any (by
        rw [List.length_zipWith]
        have := lo _ a xs rfl (.inr sq1)
        rw [Reps.len _ _ _ r1] at this
        omega) (walk_zip rfl) ⟨xs, ys, sq1, sq2, r1, r2⟩ (fun N n => ⟨xs, ys, SqT.keep Same.k0 (fun b o e _ => Same.upd n b o e) sq1, SqT.keep Same.k0 (fun b o e _ => Same.upd n b o e) sq2, Reps.same (Same.upd n) _ _ _ r1, Reps.same (Same.upd n) _ _ _ r2⟩)
        fun i H μ N xs' ys' ⟨xs, ys, q1, q2, r1, r2⟩ _ hN => ⟨xs, ys, SqT.upd1 hN q1, SqT.upd1 hN q2, Reps.upd1 hN r1 (by simp), Reps.upd1 hN r2 (by simp)⟩)⟩⟩
    · cases hi'
end
end Ev
end
section
set_option Elab.async false
set_option linter.all false
set_option maxRecDepth 100000
namespace Ev
open PySem PySem.Spec PyProof.Rows L2 PySem.SeqAt
/-- the calls of a def, as a promise -/
def spF (T : Pgm) (F : List D → Sto → Option (R D)) : Sp := fun vs H Q E => ∃ ds S μ fp, Reps T H μ ds vs fp ∧ StOk T H μ S ∧ (μ ++ fp).Nodup ∧ match F ds S with
  | some (.ok d S') => OutM T H μ fp S' d Q
  | some (.ex c S') => ∀ H' μ', StpO fp H μ H' μ' → StOk T H' μ' S' → E (.ref (T.C c)) none H'
  | none => False
def bNm : Blt → Str
  | .len => "len"
  | .abs => "abs"
  | .min2 => "min"
  | .max2 => "max"
  | .maxL => "max"
  | .minL => "min"
  | .sum => "sum"
  | .sorted => "sorted"
  | .tuple => "tuple"
  | .list => "list"
  | .int => "int"
  | .str => "str"
def bltNames : List Str := ["len", "abs", "min", "max", "sum", "sorted", "tuple", "list", "int", "str", "isinstance", "range", "zip", "dict", "bool", "ValueError", "enumerate"]
def tyNm : Ty → Str
  | .int => "int"
  | .str => "str"
  | .tuple => "tuple"
  | .list => "list"
  | .dict => "dict"
  | .bool => "bool"
  | .valueError => "ValueError"
  | .cls _ => ""
theorem boot_b (b : Blt) : bootBuiltins (bNm b) = some (bId b) := by cases b <;> decide +kernel
theorem bNm_mem (b : Blt) : bNm b ∈ bltNames := by cases b <;> decide +kernel
theorem bNm_nm (b : Blt) : bNm b ≠ "__name__" := by cases b <;> decide +kernel
theorem bNm_db (b : Blt) : (bNm b == ("__debug__" : Str)) = false := by cases b <;> decide +kernel
def tyBi : Ty → String
  | .int => "int"
  | .str => "str"
  | .tuple => "tuple"
  | .list => "list"
  | .dict => "dict"
  | .bool => "bool"
  | .valueError => "ValueError"
  | .cls _ => "int"
theorem boot_ty0 (t : Ty) (h : ∀ c, t ≠ .cls c) : bootBuiltins (tyNm t) = some (.type (tyBi t)) ∧ tyNm t ∈ bltNames ∧ tyNm t ≠ "__name__" ∧ (tyNm t == ("__debug__" : Str)) = false := by
  cases t with
  | cls c => exact absurd rfl (h c)
  | _ => exact ⟨by decide +kernel, by decide +kernel, by decide +kernel, by decide +kernel⟩
theorem boot_ty (C : Nat → Addr) (t : Ty) (h : ∀ c, t ≠ .cls c) : bootBuiltins (tyNm t) = some (clsU C t) ∧ RelV (clsV C t) (clsU C t) ∧ tyNm t ∈ bltNames ∧ tyNm t ≠ "__name__" ∧ (tyNm t == ("__debug__" : Str)) = false := by
  obtain ⟨h1, h2⟩ := boot_ty0 t h
  cases t with
  | cls c => exact absurd rfl (h c)
  | _ => exact ⟨h1, rfl, h2⟩
def scalV : D → V → Prop
  | .non, v => v = .non
  | .bl b, v => v = .bl b
  | .int i, v => v = .int i
  | .str x, v => v = .str x
  | _, _ => False
theorem scalV.rep {T : Pgm} {H : Hp} {μ : List Addr} {d : D} {v : V} (h : scalV d v) : Rep T H μ d v [] := by
  cases d with
  | non => exact ⟨h, rfl⟩
  | bl b => exact ⟨h, rfl⟩
  | int b => exact ⟨h, rfl⟩
  | str b => exact ⟨h, rfl⟩
  | _ => exact h.elim
structure ScOk (sc sc' : Scope) : Prop where
  look : ∀ x k, sc.names.lookup x = some k → ∃ k', sc'.names.lookup x = some k' ∧ (k' = k ∨ (k = .free ∧ k' = .cell))
theorem ScOk.vis {sc sc' : Scope} (h : ScOk sc sc') {x : Str} (v : Ev.vis sc x = true) : Vis sc' x := by
  rcases vis_ok v with e | e | e <;> obtain ⟨k', h1, h2⟩ := h.look x _ e
  · rcases h2 with rfl | ⟨z, _⟩
    · exact .inl h1
    · cases z
  · rcases h2 with rfl | ⟨z, _⟩
    · exact .inr (.inl h1)
    · cases z
  · rcases h2 with rfl | ⟨_, rfl⟩
    · exact .inr (.inr h1)
    · exact .inr (.inl h1)
theorem ScOk.refl (sc : Scope) : ScOk sc sc := ⟨fun x k h => ⟨k, h, .inl rfl⟩⟩
def loc (sc : Scope) (x : Str) : Bool := match sc.names.lookup x with
  | some .local => true
  | some .cell => true
  | _ => false
theorem loc_ok {sc : Scope} {x : Str} (h : loc sc x = true) : sc.names.lookup x = some .local ∨ sc.names.lookup x = some .cell := by
  unfold loc at h
  split at h
  · exact .inl (by assumption)
  · exact .inr (by assumption)
  · cases h
theorem ScOk.loc {sc sc' : Scope} (h : ScOk sc sc') {x : Str} (v : Ev.loc sc x = true) : Loc sc' x := by
  rcases loc_ok v with e | e <;> obtain ⟨k', h1, h2⟩ := h.look x _ e
  · rcases h2 with rfl | ⟨z, _⟩
    · exact .inl h1
    · cases z
  · rcases h2 with rfl | ⟨z, _⟩
    · exact .inr h1
    · cases z
/-- where one stands: n the room, W what is wished of exceptions -/
structure Good (C : Nat → Addr) (W : WX) (n : Nat) (g : G) (cc : CC) (X : Cx) : Prop where
  calm : X.calm = true
  room : Room n X.A
  tk : Takes X W
  hN : X.N = cc.N
  nd : cc.N.Nodup
  sc : ScOk cc.sc X.env.scope
  fn : ∀ x, Ev.loc cc.sc x = true → X.fn x = true ∨ X.env.scope.names.lookup x = some .local
  ec : ExcK X.K C g.isa
  funs : ∀ (f : Nat) (x : Str), cc.fnames[f]? = some x → ∃ addr fd ps, X.mg x = some (.ref addr) ∧ PySem.W.keepIn X.K (.ref addr) = true ∧ Binds X.K fd ps [] ∧ FnOk X.prog X.w X.K X.mg X.base (L2.CX X.prog X.w) n addr fd ps (spF (tOf X C) (g.F f))
  cls : ∀ (c : Nat) (x : Str), cc.cnames[c]? = some x → X.mg x = some (.ref (C c))
  con : ∀ (x : Str) (d : D), cc.consts.lookup x = some d → ∃ u v, X.mg x = some u ∧ RelV v u ∧ scalV d v
  free : ∀ x ∈ bltNames, X.mg x = none
theorem relabel_lk {env : PySem.Env} : ∀ {names : List (Str × NameKind)} {x : Str} {k : NameKind}, names.lookup x = some k →
    ∃ k', (names.map fun (n, k) => if (k == NameKind.free && env.scope.kind == .function && env.kindOf n == some .cell) then (n, NameKind.cell) else (n, k)).lookup x = some k' ∧ (k' = k ∨ (k = .free ∧ k' = .cell))
  | [], _, _, h => by simp at h
  | (m, k0) :: r, x, k, h => by
    rw [List.lookup_cons] at h
    show ∃ k', List.lookup x ((if (k0 == NameKind.free && env.scope.kind == .function && env.kindOf m == some .cell) = true then (m, NameKind.cell) else (m, k0)) :: _) = some k' ∧ _
    by_cases e : (x == m) = true
    · rw [e] at h
      cases h
      by_cases hc : (k0 == NameKind.free && env.scope.kind == .function && env.kindOf m == some .cell) = true
      · rw [if_pos hc]
        refine ⟨.cell, by rw [List.lookup_cons, e], .inr ⟨?_, rfl⟩⟩
        simp only [Bool.and_eq_true, beq_iff_eq] at hc
        exact hc.1.1
      · rw [if_neg hc]
        exact ⟨k0, by rw [List.lookup_cons, e], .inl rfl⟩
    · have e' : (x == m) = false := by simpa using e
      rw [e'] at h
      obtain ⟨k', h1, h2⟩ := relabel_lk (env := env) h
      refine ⟨k', ?_, h2⟩
      by_cases hc : (k0 == NameKind.free && env.scope.kind == .function && env.kindOf m == some .cell) = true
      · rw [if_pos hc, List.lookup_cons, e']; exact h1
      · rw [if_neg hc, List.lookup_cons, e']; exact h1
/-- in the block of a comprehension -/
theorem Good.blk {C : Nat → Addr} {W : WX} {n : Nat} {g : G} {cc : CC} {X : Cx} (G : Good C W n g cc X) (scope : Scope) (s : Shared) (H : Hp) (A : Addr) (cl : List (Str × Addr)) (fp : List Addr) :
    Good C (fun _ _ _ _ => False) n g { cc with sc := scope } (X.blk s H scope (compEnvC scope cl A X.env) fp) := by
  refine ⟨G.calm, G.room, takes0, G.hN, G.nd, ⟨fun x k h => relabel_lk h⟩, fun x h => ?_, G.ec, G.funs, G.cls, G.con, G.free⟩
  rcases loc_ok h with e | e
  · obtain ⟨k', h1, h2⟩ := relabel_lk (env := X.env) e
    rcases h2 with rfl | ⟨z, _⟩
    · exact .inr h1
    · cases z
  · left
    show (scope.names.lookup x == some .cell) = true
    rw [e]; rfl
theorem Good.gl {C : Nat → Addr} {W : WX} {n : Nat} {g : G} {cc : CC} {X : Cx} (G : Good C W n g cc X) {x : Str} (h : glob cc.sc x = true) : Gl X x ∧ (x == ("__debug__" : Str)) = false ∧ x ≠ "__name__" := by
  unfold glob at h
  simp only [Bool.and_eq_true, decide_eq_true_eq] at h
  obtain ⟨⟨h1, h2⟩, h3⟩ := h
  obtain ⟨k', e1, e2⟩ := G.sc.look x _ h1
  refine ⟨?_, beq_eq_false_iff_ne.mpr h2, h3⟩
  rcases e2 with rfl | ⟨z, _⟩
  · exact e1
  · cases z
theorem Good.units {C : Nat → Addr} {W : WX} {n : Nat} {g : G} {cc : CC} {X : Cx} (G : Good C W n g cc X) : X.A.units + 200 < cLine := by
  have := G.room.un; omega
/-! ### targets -/
def chkNm (cc : CC) (i : Nat) : Expr → Bool
  | .Name y _ => decide (cc.N[i]? = some y) && loc cc.sc y
  | _ => false
def chkTg (cc : CC) : Tg → Expr → Bool
  | .nm i, x => chkNm cc i x
  | .tp is, .Tuple xs _ _ => all2 (chkNm cc) is xs && decide is.Nodup
  | _, _ => false
def tgIs : Tg → List Nat
  | .nm i => [i]
  | .tp is => is
/-- a target is given what v stands for -/
def gTg (T : Pgm) : Tg → TG
  | .nm i => gName i
  | .tp is => fun v σ H Q => ∃ a xs, v = .ref a ∧ SqT T.K H a xs ∧ xs.length = is.length ∧ Q ((is.zip xs).foldl (fun σ p => σ.set p.1 (some p.2)) σ) H
section
variable {C : Nat → Addr} {W : WX} {n : Nat} {g : G} {cc : CC} {X : Cx}
theorem pg_nm (G : Good C W n g cc X) {i : Nat} {x : Expr} (h : chkNm cc i x = true) : PG X x (gName i) := by
  cases x with
  | Name y p =>
    obtain ⟨h1, h2⟩ := Bool.and_eq_true_iff.mp (show (decide (cc.N[i]? = some y) && loc cc.sc y) = true from h)
    have h1' : X.N[i]? = some y := by rw [G.hN]; exact of_decide_eq_true h1
    exact pg_name (by rw [G.hN]; exact G.nd) h1' (G.sc.loc h2) (G.fn y h2)
  | _ => cases h
def gAll : List Nat → TGs
  | [] => gNil
  | i :: is => gCons (gName i) (gAll is)
theorem gAll_of (is : List Nat) (xs : List V) (σ : L2.St) (H : Hp) (Q : L2.St → Hp → Prop) (hl : xs.length = is.length) (q : Q ((is.zip xs).foldl (fun σ p => σ.set p.1 (some p.2)) σ) H) : gAll is xs σ H Q := by
  induction is generalizing xs σ with
  | nil =>
    cases xs with
    | nil => exact ⟨rfl, q⟩
    | cons x r => cases hl
  | cons i is ih =>
    cases xs with
    | nil => cases hl
    | cons x r => exact ⟨x, r, rfl, ih r _ (by simpa using hl) q⟩
theorem pgs_nms (G : Good C W n g cc X) : ∀ (is : List Nat) (xs : List Expr), all2 (chkNm cc) is xs = true → PGs X xs (gAll is) ∧ (assignEach xs X.env).length = is.length ∧ (assignEach xs X.env).findIdx? (·.1) = none
  | [], [], _ => ⟨pgs_nil, rfl, rfl⟩
  | [], _ :: _, h => by cases h
  | _ :: _, [], h => by cases h
  | i :: is, x :: xs, h => by
    obtain ⟨h1, h2⟩ := Bool.and_eq_true_iff.mp (show (chkNm cc i x && all2 (chkNm cc) is xs) = true from h)
    obtain ⟨a1, a2, a3⟩ := pgs_nms G is xs h2
    have hx := pg_nm G h1
    cases x with
    | Name y p =>
      refine ⟨pgs_cons hx a1 rfl, ?_, ?_⟩
      · show (assignEach xs X.env).length + 1 = is.length + 1
        rw [a2]
      · show List.findIdx? (·.1) ((false, _) :: assignEach xs X.env) = none
        rw [List.findIdx?_cons, a3]; rfl
    | _ => cases h1
theorem pg_tg (G : Good C W n g cc X) {tg : Tg} {x : Expr} (h : chkTg cc tg x = true) : PG X x (gTg (tOf X C) tg) := by
  cases tg with
  | nm i => exact pg_nm G h
  | tp is =>
    cases x with
    | Tuple xs k p =>
      obtain ⟨h1, h2⟩ := Bool.and_eq_true_iff.mp (show (all2 (chkNm cc) is xs && decide is.Nodup) = true from h)
      obtain ⟨a1, a2, a3⟩ := pgs_nms G is xs h1
      have base := pg_tup (k := k) (pos := p) G.calm a1 a2 a3
      refine ⟨fun pins s σ H v u Q I r hw => base.run pins s σ H v u Q I r ?_⟩
      obtain ⟨a, ys, rfl, q1, q2, q3⟩ := hw
      exact ⟨a, ys, rfl, q1, q2, gAll_of is ys σ H Q q2 q3⟩
    | _ => cases h
end
/-! ### slots -/
section
variable {T : Pgm} {H : Hp} {μ : List Addr} {σ : Slots} {ρ : Env}
theorem EnvOk.set {i : Nat} {d : D} {v : V} (h : EnvOk T H μ σ ρ) (r : Rep T H μ d v []) : EnvOk T H μ (σ.set i (some v)) (ρ.set i (some d)) := by
  refine ⟨by simp [h.1], fun j x e => ?_⟩
  by_cases hj : i = j
  · subst hj
    have hl : i < ρ.length := by
      have := (List.getElem?_eq_some_iff.mp e).1
      simpa using this
    rw [List.getElem?_set_self hl] at e
    cases e
    exact ⟨v, by rw [List.getElem?_set_self (by rw [h.1]; exact hl)], r⟩
  · rw [List.getElem?_set_ne hj] at e
    obtain ⟨w, e1, r1⟩ := h.2 j x e
    exact ⟨w, by rw [List.getElem?_set_ne hj]; exact e1, r1⟩
theorem EnvOk.drop {i : Nat} (h : EnvOk T H μ σ ρ) : EnvOk T H μ (σ.set i none) (ρ.set i none) := by
  refine ⟨by simp [h.1], fun j x e => ?_⟩
  by_cases hj : i = j
  · subst hj
    have hl : i < ρ.length := by
      have := (List.getElem?_eq_some_iff.mp e).1
      simpa using this
    rw [List.getElem?_set_self hl] at e
    cases e
  · rw [List.getElem?_set_ne hj] at e
    obtain ⟨w, e1, r1⟩ := h.2 j x e
    exact ⟨w, by rw [List.getElem?_set_ne hj]; exact e1, r1⟩
theorem EnvOk.names : ∀ (is : List Nat) (ds : List D) (vs : List V) (σ : Slots) (ρ ρ' : Env), EnvOk T H μ σ ρ → Reps T H μ ds vs [] → setNames is ds ρ = some ρ' → vs.length = is.length ∧ EnvOk T H μ ((is.zip vs).foldl (fun σ p => σ.set p.1 (some p.2)) σ) ρ'
  | [], [], vs, σ, ρ, ρ', h, r, e => by
    obtain ⟨rfl, _⟩ := r
    cases e; exact ⟨rfl, h⟩
  | [], _ :: _, _, _, _, _, _, _, e => by cases e
  | _ :: _, [], _, _, _, _, _, _, e => by cases e
  | i :: is, d :: ds, vs, σ, ρ, ρ', h, r, e => by
    obtain ⟨v, w, f1, f2, rfl, r1, r2, ef⟩ := r
    obtain ⟨rfl, rfl⟩ := List.append_eq_nil_iff.mp ef.symm
    obtain ⟨a1, a2⟩ := EnvOk.names is ds w (σ.set i (some v)) (ρ.set i (some d)) ρ' (h.set r1) r2 e
    exact ⟨by rw [List.length_cons, List.length_cons, a1], a2⟩
/-- a target is given a value -/
theorem setTg_ok {tg : Tg} {d : D} {v : V} {fp : List Addr} {S S' : Sto} {ρ' : Env} {Q : L2.St → Hp → Prop} (env : EnvOk T H μ σ ρ) (ok : StOk T H μ S) (r : Rep T H μ d v fp) (nd : (μ ++ fp).Nodup) (e : setTg tg d ρ S = some (ρ', S'))
    (q : ∀ σ', EnvOk T H (μ ++ fp) σ' ρ' → StOk T H (μ ++ fp) S' → (∀ vs : List Nat, (∀ i ∈ tgIs tg, i ∈ vs) → wipe σ' vs = wipe σ vs) → Q σ' H) : gTg T tg v σ H Q := by
  have env' : EnvOk T H (μ ++ fp) σ ρ := ⟨env.1, fun i x h => by
    obtain ⟨w, h1, h2⟩ := env.2 i x h
    exact ⟨w, h1, Rep.widen (Rep.kinds d v fp r) _ _ _ h2⟩⟩
  have wp : ∀ (σ : L2.St) (i : Nat) (x : Option V) (vs : List Nat), i ∈ vs → wipe (σ.set i x) vs = wipe σ vs := fun σ i x vs => by
    induction vs with
    | nil => intro h; cases h
    | cons j vs ih =>
      intro h
      unfold wipe
      by_cases hj : i ∈ vs
      · rw [ih hj]
      · have hij : i = j := (List.mem_cons.mp h).resolve_right hj
        subst hij
        have comm : ∀ (vs : List Nat) (σ : L2.St), i ∉ vs → wipe (σ.set i x) vs = (wipe σ vs).set i x := fun vs => by
          induction vs with
          | nil => intro σ _; rfl
          | cons k vs ihv =>
            intro σ hk
            unfold wipe
            have h1 : i ≠ k := fun e => hk (by rw [e]; exact List.mem_cons_self)
            rw [ihv σ fun m => hk (List.mem_cons_of_mem _ m), List.set_comm _ _ h1]
        rw [comm vs σ hj, List.set_set]
  cases tg with
  | nm i =>
    obtain ⟨h1, h2⟩ := settle_ok d v fp μ S r ok nd
    cases e
    exact q _ (env'.set h1) h2 fun vs h => wp σ i _ vs (h i (by simp [tgIs]))
  | tp is =>
    cases d with
    | tup ds =>
      obtain ⟨a, vs, rfl, sq, rs⟩ := r
      obtain ⟨h1, h2⟩ := settles_ok ds vs fp μ S rs ok nd
      obtain ⟨ρ1, e1, e2⟩ := Option.map_eq_some_iff.mp (show (setNames is (settles ds S).1 ρ).map (fun ρ' => (ρ', (settles ds S).2)) = some (ρ', S') from e)
      cases e2
      obtain ⟨b1, b2⟩ := EnvOk.names is _ vs σ ρ _ env' h1 e1
      refine ⟨a, vs, rfl, sq, b1, q _ b2 h2 fun ws h => ?_⟩
      have fold : ∀ (l : List (Nat × V)) (σ : L2.St), (∀ p ∈ l, p.1 ∈ ws) → wipe (l.foldl (fun σ p => σ.set p.1 (some p.2)) σ) ws = wipe σ ws := fun l => by
        induction l with
        | nil => intro σ _; rfl
        | cons p l ihl =>
          intro σ hp
          rw [List.foldl_cons, ihl _ fun p m => hp p (List.mem_cons_of_mem _ m), wp σ _ _ _ (hp p List.mem_cons_self)]
      exact fold _ σ fun p m => h p.1 (List.of_mem_zip m).1
    | _ => cases e
end
end Ev
end
section
set_option Elab.async false
set_option linter.all false
set_option maxRecDepth 100000
namespace Ev
open PySem PySem.Spec PyProof.Rows L2 PySem.SeqAt
/-! ### does the text say that -/
def cstOk : D → Const → Bool
  | .non, .none => true
  | .bl a, .bool b => a == b
  | .int a, .int b => decide (a = b)
  | .str a, .str b => decide (a = b)
  | _, _ => false
def scEq : D → D → Bool
  | .non, .non => true
  | .bl a, .bl b => a == b
  | .int a, .int b => decide (a = b)
  | .str a, .str b => decide (a = b)
  | _, _ => false
theorem scEq_ok {a b : D} (h : scEq a b = true) : a = b := by
  cases a <;> cases b <;> first
    | rfl
    | cases h
    | (have h' := eq_of_beq h; rw [h'])
    | (have h' := of_decide_eq_true h; rw [h'])
def noSlice : Expr → Bool
  | .Slice _ _ _ _ => false
  | _ => true
def noSet : Expr → Bool
  | .Set _ _ _ => false
  | _ => true
def noCall0 : Expr → Bool
  | .Call (.Name _ _) [] [] _ => false
  | _ => true
theorem plain_ix {b : Expr} (h : noSlice b = true) : PlainIx b := fun o i => by
  cases b <;> first | rfl | cases h
theorem no_mark {op : CmpOp} {b : Expr} (h : noSet b = true) : behindInMarks op b = false := by
  cases b <;> first | rfl | cases h
theorem folded {e : Expr} {env : PySem.Env} (h : noSet e = true) : ∀ x, foldedSetIterable e env x = pure x := fun x => by
  cases e <;> first | rfl | cases h
theorem attr_base {o : Expr} {a : Str} {env : PySem.Env} (h : noCall0 o = true) : attributeBase o a env (eval o env) = eval o env := by
  unfold attributeBase
  split
  · cases h
  · rfl
def chkTy (cc : CC) (t : Ty) : Expr → Bool
  | .Name x _ => glob cc.sc x && (match t with | .cls c => decide (cc.cnames[c]? = some x) | t => decide (x = tyNm t))
  | _ => false
def chkTs (cc : CC) : List Ty → Expr → Bool
  | ts, .Tuple xs _ _ => !ts.isEmpty && all2 (chkTy cc) ts xs && decide (xs.length ≤ 1000)
  | [t], x => chkTy cc t x
  | _, _ => false
def ownOf : Tg → Expr → List (Str × Nat)
  | .nm i, .Name x _ => [(x, i)]
  | .tp is, .Tuple xs _ _ => (xs.zip is).filterMap fun p => match p.1 with | .Name x _ => some (x, p.2) | _ => none
  | _, _ => []
def isTupT : Expr → Bool
  | .Tuple _ _ _ => true
  | _ => false
def chkE : Nat → CC → PE → Expr → Bool
  | 0, _, _, _ => false
  | n + 1, cc, .var i, .Name x _ => decide (cc.N[i]? = some x) && vis cc.sc x && decide (x ≠ "__debug__") && decide (x ≠ "__classdict__")
  | n + 1, cc, .cst d, .Constant c _ _ => cstOk d c
  | n + 1, cc, .cst d, .Name x _ => glob cc.sc x && (match cc.consts.lookup x with | some d' => scEq d d' | none => false)
  | n + 1, cc, .tup es, .Tuple xs _ _ => all2 (chkE n cc) es xs && xs.all noStar && decide (xs.length ≤ 1000)
  | n + 1, cc, .lst es, .List xs _ => all2 (chkE n cc) es xs && xs.all noStar && decide (xs.length ≤ 1000)
  | n + 1, cc, .dct0, .Dict [] [] _ => true
  | n + 1, cc, .bin o a b, .BinOp x op y _ => decide (op = opOf o) && chkE n cc a x && chkE n cc b y
  | n + 1, cc, .neg a, .UnaryOp .USub x _ => chkE n cc a x
  | n + 1, cc, .not a, .UnaryOp .Not x _ => chkE n cc a x
  | n + 1, cc, .and a b, .BoolOp .And (x :: y :: rest) p => chkE n cc a x && (match rest with | [] => chkE n cc b y | _ => chkE n cc b (.BoolOp .And (y :: rest) p))
  | n + 1, cc, .or a b, .BoolOp .Or (x :: y :: rest) p => chkE n cc a x && (match rest with | [] => chkE n cc b y | _ => chkE n cc b (.BoolOp .Or (y :: rest) p))
  | n + 1, cc, .cmp o a b, .Compare x [op] [y] _ => decide (op = cOf o) && chkE n cc a x && chkE n cc b y && noSet y
  | n + 1, cc, .cmp2 o o' a b c, .Compare x [op, op'] [y, z] _ => decide (op = cOf o) && decide (op' = cOf o') && chkE n cc a x && chkE n cc b y && chkE n cc c z && noSet z
  | n + 1, cc, .is_ ng a c, .Compare x [op] [.Constant k _ _] _ => decide (op = if ng then .IsNot else .Is) && chkE n cc a x && cstOk c k
  | n + 1, cc, .ife c a b, .IfExp x y z _ => chkE n cc c x && chkE n cc a y && chkE n cc b z
  | n + 1, cc, .idx a i, .Subscript x y _ => chkE n cc a x && chkE n cc i y && noSlice y
  | n + 1, cc, .sl a lo hi, .Subscript x (.Slice l h none _) _ => chkE n cc a x && (match l with | some l => chkE n cc lo l | none => (match lo with | .cst .non => true | _ => false)) && (match h with | some h => chkE n cc hi h | none => (match hi with | .cst .non => true | _ => false))
  | n + 1, cc, .call f es, .Call (.Name x _) (y :: ys) [] _ => glob cc.sc x && decide (cc.fnames[f]? = some x) && all2 (chkE n cc) es (y :: ys) && (y :: ys).all noStar
  | n + 1, cc, .blt b es, .Call (.Name x _) (y :: ys) [] _ => glob cc.sc x && decide (x = bNm b) && all2 (chkE n cc) es (y :: ys) && (y :: ys).all noStar
  | n + 1, cc, .mth m o es, .Call (.Attribute x nm apos) ys [] cpos => decide (nm = mNm m) && chkE n cc o x && all2 (chkE n cc) es ys && ys.all noStar && noCall0 x && decide (ys.length < 20) && (apos.endLine == cpos.line)
  | n + 1, cc, .isi a ts, .Call (.Name x _) [y, t] [] _ => glob cc.sc x && decide (x = "isinstance") && chkE n cc a y && noStar y && noStar t && chkTs cc ts t
  | n + 1, cc, .comp tg k es ifs elt, .ListComp y [⟨tgx, iter, ifsx, 0⟩] scope _ =>
    (match k, es, iter with
      | .val, [e], x => chkE n cc e x
      | .rng1, [e], .Call (.Name nm _) [x] [] _ => decide (nm = "range") && glob cc.sc nm && chkE n cc e x && noStar x
      | .rng2, [e, e'], .Call (.Name nm _) [x, x'] [] _ => decide (nm = "range") && glob cc.sc nm && chkE n cc e x && noStar x && chkE n cc e' x' && noStar x'
      | .zip, [e, e'], .Call (.Name nm _) [x, x'] [] _ => decide (nm = "zip") && glob cc.sc nm && chkE n cc e x && noStar x && chkE n cc e' x' && noStar x' && isTupT tgx
      | _, _, _ => false) &&
    noSet iter && chkTg { cc with sc := scope } tg tgx && decide ((ownOf tg tgx).map (·.2) = tgIs tg) && blkC cc.N cc.sc scope (ownOf tg tgx) &&
    (match ifs, ifsx with | [], [] => true | [c], [cx] => chkE n { cc with sc := scope } c cx | _, _ => false) && chkE n { cc with sc := scope } elt y
  | _, _, _, _ => false
/-- the same of what a for walks -/
def chkI (n : Nat) (cc : CC) (k : ItK) (es : List PE) (tgx iter : Expr) : Bool := (match k, es, iter with
      | .val, [e], x => chkE n cc e x
      | .rng1, [e], .Call (.Name nm _) [x] [] _ => decide (nm = "range") && glob cc.sc nm && chkE n cc e x && noStar x
      | .rng2, [e, e'], .Call (.Name nm _) [x, x'] [] _ => decide (nm = "range") && glob cc.sc nm && chkE n cc e x && noStar x && chkE n cc e' x' && noStar x'
      | .zip, [e, e'], .Call (.Name nm _) [x, x'] [] _ => decide (nm = "zip") && glob cc.sc nm && chkE n cc e x && noStar x && chkE n cc e' x' && noStar x' && isTupT tgx
      | _, _, _ => false)
/-! ### truth -/
section
variable {T : Pgm} {H : Hp} {μ : List Addr} {S : Sto}
theorem tru_d {d : D} {v : V} {fp : List Addr} {b : Bool} (ok : StOk T H μ S) (r : Rep T H μ d v fp) (e : truth S d = some b) : TruV T.K v H b := by
  have lists : ∀ ds : List D, listOf S d = some ds → b = !ds.isEmpty → TruV T.K v H b := fun ds h1 h2 => by
    obtain ⟨a, vs, f1, rfl, sq, rs, _⟩ := list_at ok r h1
    refine .inl ⟨vs, sq, ?_⟩
    have := Reps.len _ _ _ rs
    rw [h2]
    cases vs <;> cases ds <;> first | rfl | cases this
  unfold truth at e
  split at e
  · cases e; obtain ⟨rfl, _⟩ := r; rfl
  · cases e; obtain ⟨rfl, _⟩ := r; rfl
  · cases e; obtain ⟨rfl, _⟩ := r; rfl
  · split at e
    · rename_i hl
      cases e; obtain ⟨rfl, _⟩ := r
      refine ⟨hl, ?_⟩
      rename_i x _
      by_cases h0 : x.length = 0
      · simp [h0]
      · have : ((x.length : Int) != 0) = true := by
          rw [bne_iff_ne]; omega
        rw [this]
        simp [h0]
    · cases e
  · cases e
    obtain ⟨a, vs, rfl, sq, rs⟩ := r
    refine .inr (.inl ⟨vs, sq, ?_⟩)
    have := Reps.len _ _ _ rs
    rename_i ds
    cases vs <;> cases ds <;> first | rfl | cases this
  · split at e
    · cases e
      exact lists _ (by assumption) rfl
    · cases e
end
section
variable {T : Pgm} {W : WX} {σ : Slots} {H : Hp} {μ : List Addr}
theorem Ran.test {m : Option (R D)} {Q : Bool → Sto → Prop} (h : Ran T W σ H μ (testE m) Q) : Ran T W σ H μ m fun d S => ∃ b, truth S d = some b ∧ Q b S := by
  match m, h with
  | some (.ok d S), h =>
    have h' : Ran T W σ H μ (match truth S d with | some b => some (.ok b S) | none => none) Q := h
    show ∃ b, truth S d = some b ∧ Q b S
    cases e : truth S d with
    | none => rw [e] at h'; exact h'.elim
    | some b => rw [e] at h'; exact ⟨b, rfl, h'⟩
  | some (.ex c S), h => exact h
theorem Ran.to_test {m : Option (R D)} {Q : Bool → Sto → Prop} (h : Ran T W σ H μ m fun d S => ∃ b, truth S d = some b ∧ Q b S) : Ran T W σ H μ (testE m) Q := by
  match m, h with
  | some (.ok d S), h =>
    obtain ⟨b, e, q⟩ := h
    show Ran T W σ H μ (match truth S d with | some b => some (.ok b S) | none => none) Q
    rw [e]; exact q
  | some (.ex c S), h => exact h
theorem Ran.tests {α : Type} {m : Option (R D)} {f : Bool → Sto → Option (R α)} {Q : α → Sto → Prop} (h : Ran T W σ H μ (tests m f fun c S => some (.ex c S)) Q) : Ran T W σ H μ (testE m) fun b S => Ran T W σ H μ (f b S) Q := by
  match m, h with
  | some (.ok d S), h =>
    have h' : Ran T W σ H μ (match truth S d with | some b => f b S | none => none) Q := h
    show Ran T W σ H μ (match truth S d with | some b => some (.ok b S) | none => none) _
    cases e : truth S d with
    | none => rw [e] at h'; exact h'.elim
    | some b => rw [e] at h'; exact h'
  | some (.ex c S), h => exact h
theorem evT1 {g : G} {a : PE} {ρ : Env} {S : Sto} (env : EnvOk T H μ σ ρ) (st : StOk T H μ S) {K : Bool → Sto → Prop} {Q : Bool → Hp → Prop} (h : Ran T W σ H μ (testE (evalE g a ρ S)) K)
    (f : ∀ b S1 H1 μ1, Stp H μ H1 μ1 → StOk T H1 μ1 S1 → K b S1 → Q b H1) : tEvT T W g a σ H Q :=
  ⟨ρ, S, μ, env, st, h.imp fun b S1 _ k H1 μ1 s o => f b S1 H1 μ1 s o k⟩
end
end Ev
end
section
set_option Elab.async false
set_option linter.all false
set_option maxRecDepth 100000
namespace Ev
open PySem PySem.Spec PyProof.Rows L2 PySem.SeqAt
section
variable {T : Pgm} {H H1 : Hp} {μ μ1 : List Addr} {S1 : Sto} {Q : VK} {z : D}
theorem fin_outs {ds : List D} {vs : List V} {fp : List Addr} (p : Psts T H μ ds S1 vs H1 μ1 fp) (k : Fin1 T H μ Q z S1) : Out T H1 μ1 S1 z fp Q := fun v H' fp' s r nd ow =>
  k v H' μ1 fp' ⟨p.stp.trans (Same.stp s), StOk.same s p.ok, r, nd, fun a m => (ow a m).elim (p.new a) p.stp.free⟩
theorem fin_out1 {d : D} {v0 : V} {fp : List Addr} (p : Pst T H μ d S1 v0 H1 μ1 fp) (k : Fin1 T H μ Q z S1) : Out T H1 μ1 S1 z fp Q := fun v H' fp' s r nd ow =>
  k v H' μ1 fp' ⟨p.stp.trans (Same.stp s), StOk.same s p.ok, r, nd, fun a m => (ow a m).elim (p.new a) p.stp.free⟩
theorem fin_scal {d : D} {v0 : V} {fp : List Addr} (p : Pst T H μ d S1 v0 H1 μ1 fp) (k : Fin1 T H μ Q z S1) {v : V} (r : Rep T H1 μ1 z v []) : Q v H1 := k v H1 μ1 [] (Pst.flat p.stp p.ok r)
theorem fin_scals {ds : List D} {vs : List V} {fp : List Addr} (p : Psts T H μ ds S1 vs H1 μ1 fp) (k : Fin1 T H μ Q z S1) {v : V} (r : Rep T H1 μ1 z v []) : Q v H1 := k v H1 μ1 [] (Pst.flat p.stp p.ok r)
end
theorem evalEs_len {g : G} : ∀ (es : List PE) (ρ : Env) (S : Sto) (ds : List D) (S1 : Sto), evalEs g es ρ S = some (.ok ds S1) → ds.length = es.length
  | [], ρ, S, ds, S1, h => by
    unfold evalEs at h
    cases h; rfl
  | e :: es, ρ, S, ds, S1, h => by
    unfold evalEs at h
    cases h1 : evalE g e ρ S with
    | none => rw [h1] at h; cases h
    | some r =>
      cases r with
      | ex c S' => rw [h1] at h; cases h
      | ok d S' =>
        rw [h1, bnd_ok] at h
        cases h2 : evalEs g es ρ S' with
        | none => rw [h2] at h; cases h
        | some r =>
          cases r with
          | ex c S'' => rw [h2] at h; cases h
          | ok ds' S'' =>
            rw [h2, bnd_ok] at h
            cases h
            rw [List.length_cons, List.length_cons, evalEs_len es ρ S' ds' _ h2]
section
variable {X : Cx} {C : Nat → Addr} {W : WX} {n : Nat} {g : G} {cc : CC}
theorem s_var {i : Nat} {x : Str} {p : Pos} (h1 : X.N[i]? = some x) (h2 : Vis X.env.scope x) (h3 : (x == ("__debug__" : Str)) = false) (h4 : (x == ("__classdict__" : Str)) = false) : L2.PE X (.Name x p) (tEv (tOf X C) W g (.var i)) := by
  refine PE.mono (pe_var h1 h2 h3 h4) fun σ H Q ⟨ρ, S, μ, env, st, h⟩ => ?_
  unfold evalE at h
  cases e : ρ[i]? with
  | none => rw [e] at h; exact h.elim
  | some o =>
    cases o with
    | none => rw [e] at h; exact h.elim
    | some d =>
      rw [e] at h
      obtain ⟨v, e1, r⟩ := env.2 i d e
      exact ⟨v, e1, h v H μ [] (Pst.flat Stp.refl st r)⟩
theorem s_val {x : Expr} {d : D} {v : V} (h : L2.PE X x (tC v)) (r : scalV d v) : L2.PE X x (tEv (tOf X C) W g (.cst d)) := by
  refine PE.mono h fun σ H Q ⟨ρ, S, μ, env, st, k⟩ => ?_
  unfold evalE at k
  exact k v H μ [] (Pst.flat Stp.refl st r.rep)
theorem pas : ∀ (es : List PE) (xs : List Expr), all2 (fun e x => decide True) es xs = true → (∀ (i : Nat) e x, es[i]? = some e → xs[i]? = some x → L2.PE X x (tEv (tOf X C) W g e)) → xs.all noStar = true → PA X xs (tEvs (tOf X C) W g es)
  | [], [], _, _, _ => by
    refine PA.mono pa_nil fun σ H Q ⟨ρ, S, μ, env, st, h⟩ => ?_
    unfold evalEs at h
    exact h [] H μ [] ⟨Stp.refl, st, ⟨rfl, rfl⟩, by simpa using st.nd, by simp⟩
  | [], _ :: _, h, _, _ => by cases h
  | _ :: _, [], h, _, _ => by cases h
  | e :: es, x :: xs, h, hp, hs => by
    rw [List.all_cons, Bool.and_eq_true] at hs
    have ih := pas es xs (Bool.and_eq_true_iff.mp h).2 (fun i e x h1 h2 => hp (i + 1) e x (by simpa using h1) (by simpa using h2)) hs.2
    refine PA.mono (pa_cons (hp 0 e x rfl rfl) ih (star_of hs.1)) fun σ H Q ⟨ρ, S, μ, env, st, h⟩ => ?_
    unfold evalEs at h
    refine ev1 env st h.bnd fun d S1 v H1 μ1 f1 p1 k => ?_
    refine ⟨ρ, S1, μ1, env.keep st.kinds p1.stp, p1.ok, (k.on p1.stp).bnd.imp fun ds S2 _ k2 vs H2 μ2 f2 p2 => ?_⟩
    have r1 : Rep (tOf X C) H2 μ2 d v f1 := Rep.keep p1.ok.kinds p2.stp d v f1 p1.rep (nd_out p1.nd)
    refine k2 (v :: vs) H2 μ2 (f1 ++ f2) ⟨p1.stp.trans p2.stp, p2.ok, ⟨v, vs, f1, f2, rfl, r1, p2.rep, rfl⟩, nd_step p2.stp p1.nd p2.nd (Rep.there d v f1 p1.rep) p2.new, fun a m => ?_⟩
    rcases List.mem_append.mp m with m | m
    · exact p1.new a m
    · exact p1.stp.free (p2.new a m)
variable {a b c : PE} {x y : Expr} {p : Pos}
theorem s_tup {es : List PE} {xs : List Expr} {k : Nat} (h : PA X xs (tEvs (tOf X C) W g es)) (hl : xs.length ≤ 1000) (hls : xs.length = es.length) : L2.PE X (.Tuple xs k p) (tEv (tOf X C) W g (.tup es)) := by
  refine PE.mono (pe_tup h) fun σ H Q ⟨ρ, S, μ, env, st, h⟩ => ?_
  unfold evalE at h
  refine evse env st h.bnd fun ds S1 vs H1 μ1 fp e1 p1 k1 => ?_
  have hlen : ds.length = es.length := evalEs_len es ρ S ds S1 e1
  refine ⟨by rw [Reps.len _ _ _ p1.rep, hlen, ← hls]; exact Nat.le_trans hl (by decide), out_tup (S := S1) p1.rep p1.nd (fun a m => m) (fin_outs p1 k1)⟩
theorem s_lst {es : List PE} {xs : List Expr} (h : PA X xs (tEvs (tOf X C) W g es)) (hl : xs.length ≤ 1000) (hls : xs.length = es.length) : L2.PE X (.List xs p) (tEv (tOf X C) W g (.lst es)) := by
  refine PE.mono (pe_lst h) fun σ H Q ⟨ρ, S, μ, env, st, h⟩ => ?_
  unfold evalE at h
  refine evse env st h.bnd fun ds S1 vs H1 μ1 fp e1 p1 k1 => ?_
  have hlen : ds.length = es.length := evalEs_len es ρ S ds S1 e1
  refine ⟨by rw [Reps.len _ _ _ p1.rep, hlen, ← hls]; exact Nat.le_trans hl (by decide), out_lst p1.ok p1.rep p1.nd (fun a m => m) (fin_outs p1 k1)⟩
theorem s_dct0 : L2.PE X (.Dict [] [] p) (tEv (tOf X C) W g .dct0) := by
  refine PE.mono pe_dnewK fun σ H Q ⟨ρ, S, μ, env, st, h⟩ => ?_
  unfold evalE at h
  intro d nd
  have sm : Same H (upd H d (.dK [])) := Same.upd nd
  refine h _ _ μ [d] ⟨Same.stp sm, StOk.same sm st, ⟨d, [], [], rfl, ⟨[], upd_same, rfl, rfl, List.nodup_nil⟩, ⟨rfl, rfl⟩, rfl⟩, ?_, fun a m => ?_⟩
  · refine List.nodup_append.mpr ⟨st.nd, by simp, fun a ha b hb e => ?_⟩
    have : b = d := by simpa using hb
    subst this; subst e
    rcases st.kinds a ha with ⟨_, z⟩ | ⟨_, z⟩ <;> (rw [nd] at z; cases z)
  · have : a = d := by simpa using m
    subst this; exact nd
theorem s_bin {o : Bin} (ha : L2.PE X x (tEv (tOf X C) W g a)) (hb : L2.PE X y (tEv (tOf X C) W g b)) : L2.PE X (.BinOp x (opOf o) y p) (tEv (tOf X C) W g (.bin o a b)) := by
  refine PE.mono (pe_op (op_bin (C := C) o) ha hb) fun σ H Q ⟨ρ, S, μ, env, st, h⟩ => ?_
  unfold evalE at h
  refine ev2 env st (h.bnd.imp fun x S1 _ k => k.bnd) fun d e S2 u v H2 μ2 f1 f2 p2 r1 r2 k => ?_
  obtain ⟨z, e1, k1⟩ := k.map
  exact ⟨d, e, S2, μ2, f1, f2, z, ⟨r1, r2, p2.ok, p2.nd⟩, e1, fin_outs p2 k1⟩
theorem s_neg (ha : L2.PE X x (tEv (tOf X C) W g a)) : L2.PE X (.UnaryOp .USub x p) (tEv (tOf X C) W g (.neg a)) := by
  refine PE.mono (pe_un un_neg ha) fun σ H Q ⟨ρ, S, μ, env, st, h⟩ => ?_
  unfold evalE at h
  refine ev1 env st h.bnd fun d S1 v H1 μ1 fp p1 k => ?_
  cases d with
  | int i =>
    obtain ⟨rfl, rfl⟩ := p1.rep
    exact ⟨i, rfl, fin_scal p1 k ⟨rfl, rfl⟩⟩
  | _ => exact k.elim
theorem s_not (ha : L2.PE X x (tEv (tOf X C) W g a)) : L2.PE X (.UnaryOp .Not x p) (tEv (tOf X C) W g (.not a)) := by
  refine PE.mono (pe_notT ha) fun σ H Q ⟨ρ, S, μ, env, st, h⟩ => ?_
  unfold evalE at h
  refine ev1 env st h.tests.test fun d S1 v H1 μ1 fp p1 ⟨t, e, k⟩ => ?_
  exact ⟨t, tru_d p1.ok p1.rep e, fin_scal p1 k ⟨rfl, rfl⟩⟩
theorem s_and {rest : List Expr} (ha : L2.PE X x (tEv (tOf X C) W g a)) (hb : L2.PE X (.BoolOp .And (y :: rest) p) (tEv (tOf X C) W g b)) : L2.PE X (.BoolOp .And (x :: y :: rest) p) (tEv (tOf X C) W g (.and a b)) := by
  refine PE.mono (pe_andT ha hb) fun σ H Q ⟨ρ, S, μ, env, st, h⟩ => ?_
  unfold evalE at h
  refine ev1 env st h.bnd fun d S1 v H1 μ1 fp p1 k => ?_
  cases e : truth S1 d with
  | none => rw [e] at k; exact k.elim
  | some t =>
    rw [e] at k
    refine ⟨t, tru_d p1.ok p1.rep e, ?_⟩
    cases t with
    | true =>
      rw [if_pos rfl]
      refine ⟨ρ, S1, μ1, env.keep st.kinds p1.stp, p1.ok, (k.on p1.stp).imp fun z S2 _ k2 v2 H2 μ2 f2 p2 => k2 v2 H2 μ2 f2 ⟨p1.stp.trans p2.stp, p2.ok, p2.rep, p2.nd, fun a m => p1.stp.free (p2.new a m)⟩⟩
    | false =>
      rw [if_neg (by decide)]
      exact k v H1 μ1 fp p1
theorem s_or {rest : List Expr} (ha : L2.PE X x (tEv (tOf X C) W g a)) (hb : L2.PE X (.BoolOp .Or (y :: rest) p) (tEv (tOf X C) W g b)) : L2.PE X (.BoolOp .Or (x :: y :: rest) p) (tEv (tOf X C) W g (.or a b)) := by
  refine PE.mono (pe_orT ha hb) fun σ H Q ⟨ρ, S, μ, env, st, h⟩ => ?_
  unfold evalE at h
  refine ev1 env st h.bnd fun d S1 v H1 μ1 fp p1 k => ?_
  cases e : truth S1 d with
  | none => rw [e] at k; exact k.elim
  | some t =>
    rw [e] at k
    refine ⟨t, tru_d p1.ok p1.rep e, ?_⟩
    cases t with
    | false =>
      rw [if_neg (by decide)]
      refine ⟨ρ, S1, μ1, env.keep st.kinds p1.stp, p1.ok, (k.on p1.stp).imp fun z S2 _ k2 v2 H2 μ2 f2 p2 => k2 v2 H2 μ2 f2 ⟨p1.stp.trans p2.stp, p2.ok, p2.rep, p2.nd, fun a m => p1.stp.free (p2.new a m)⟩⟩
    | true =>
      rw [if_pos rfl]
      exact k v H1 μ1 fp p1
end
end Ev
end
section
set_option Elab.async false
set_option linter.all false
set_option maxRecDepth 100000
namespace Ev
open PySem PySem.Spec PyProof.Rows L2 PySem.SeqAt
section
variable {X : Cx} {C : Nat → Addr} {W : WX} {n : Nat} {g : G} {cc : CC} {a b c : PE} {x y z : Expr} {p : Pos}
theorem s_cmp {o : Cmp} (hu : X.A.units + 200 < cLine) (ha : L2.PE X x (tEv (tOf X C) W g a)) (hb : L2.PE X y (tEv (tOf X C) W g b)) (hy : noSet y = true) : L2.PE X (.Compare x [cOf o] [y] p) (tEv (tOf X C) W g (.cmp o a b)) := by
  refine PE.mono (pe_cmpR (op_cmp (C := C) hu o) ha hb (no_mark hy)) fun σ H Q ⟨ρ, S, μ, env, st, h⟩ => ?_
  unfold evalE at h
  refine ev2 env st (h.bnd.imp fun x S1 _ k => k.bnd) fun d e S2 u v H2 μ2 f1 f2 p2 r1 r2 k => ?_
  obtain ⟨t, e1, k1⟩ := k.map
  exact ⟨d, e, S2, μ2, f1, f2, t, ⟨r1, r2, p2.ok, p2.nd⟩, e1, fin_scals p2 k1 ⟨rfl, rfl⟩⟩
theorem tst_cmp {o : Cmp} (hu : X.A.units + 200 < cLine) (ha : L2.PE X x (tEv (tOf X C) W g a)) (hb : L2.PE X y (tEv (tOf X C) W g b)) (hy : noSet y = true) : PT X (.Compare x [cOf o] [y] p) (tEvT (tOf X C) W g (.cmp o a b)) := by
  refine PT.mono (pt_cmpR (op_cmp (C := C) hu o) ha hb (no_mark hy)) fun σ H Q ⟨ρ, S, μ, env, st, h⟩ => ?_
  have h := h.test
  unfold evalE at h
  refine ev2 env st (h.bnd.imp fun x S1 _ k => k.bnd) fun d e S2 u v H2 μ2 f1 f2 p2 r1 r2 k => ?_
  obtain ⟨t, e1, b', eb, k1⟩ := k.map
  have eb' : b' = t := by cases eb; rfl
  subst eb'
  exact ⟨d, e, S2, μ2, f1, f2, b', ⟨r1, r2, p2.ok, p2.nd⟩, e1, b', rfl, k1 H2 μ2 p2.stp p2.ok⟩
/-- the chain, whatever is made of its end -/
theorem chain_of {o o' : Cmp} {σ : Slots} {H : Hp} {μ : List Addr} {ρ : Env} {S : Sto} {Q : VK} {K : Bool → Sto → Prop} (env : EnvOk (tOf X C) H μ σ ρ) (st : StOk (tOf X C) H μ S)
    (h : Ran (tOf X C) W σ H μ (evalE g (.cmp2 o o' a b c) ρ S) fun d S' => ∃ t, d = .bl t ∧ K t S') (fin : ∀ t S' H' μ', Stp H μ H' μ' → StOk (tOf X C) H' μ' S' → K t S' → Q (.bl t) H') :
    tChain (rCmp (tOf X C) o) (rCmp (tOf X C) o') (tEv (tOf X C) W g a) (tEv (tOf X C) W g b) (tEv (tOf X C) W g c) σ H Q := by
  unfold evalE at h
  refine ev2 env st (h.bnd.imp fun x S1 _ k => k.bnd) fun d e S2 u v H2 μ2 f1 f2 p2 r1 r2 k => ?_
  cases hc : cmpE S2 o d e with
  | none => rw [hc] at k; exact k.elim
  | some t =>
    rw [hc] at k
    refine ⟨d, e, S2, μ2, f1, f2, t, ⟨r1, r2, p2.ok, p2.nd⟩, hc, t, rfl, ?_⟩
    cases t with
    | false =>
      rw [if_neg (by decide)]
      obtain ⟨t', et, k'⟩ := k
      cases et
      exact fin false S2 H2 μ2 p2.stp p2.ok k'
    | true =>
      rw [if_pos rfl]
      have k2 : Ran (tOf X C) W σ H μ (bnd (evalE g c ρ S2) fun z S => (cmpE S o' e z).map fun u => R.ok (D.bl u) S) fun d S' => ∃ t, d = D.bl t ∧ K t S' := k
      refine ev1 (env.keep st.kinds p2.stp) p2.ok (k2.on p2.stp).bnd fun z S3 w H3 μ3 f3 p3 k3 => ?_
      obtain ⟨t', e1, t2, et, k4⟩ := k3.map
      cases et
      have kd := p2.ok.kinds
      have r2' : Rep (tOf X C) H3 μ3 e v f2 := Rep.keep kd p3.stp e v f2 r2 fun a m => nd_out p2.nd a (List.mem_append_right _ m)
      have nd2 : (μ2 ++ f2).Nodup := nd_sub p2.nd (List.sublist_append_right _ _)
      exact ⟨e, z, S3, μ3, f2, f3, _, ⟨r2', p3.rep, p3.ok, nd_step p3.stp nd2 p3.nd (Rep.there e v f2 r2) p3.new⟩, e1, fin _ S3 H3 μ3 (p2.stp.trans p3.stp) p3.ok k4⟩
theorem cmp2_bl {o o' : Cmp} {ρ : Env} {S : Sto} {T : Pgm} {σ : Slots} {H : Hp} {μ : List Addr} {Q : D → Sto → Prop} (h : Ran T W σ H μ (evalE g (.cmp2 o o' a b c) ρ S) Q) : Ran T W σ H μ (evalE g (.cmp2 o o' a b c) ρ S) fun d S' => ∃ t, d = .bl t ∧ Q (.bl t) S' := by
  refine h.imp fun d S' e q => ?_
  have : ∃ t, d = .bl t := by
    unfold evalE at e
    cases h1 : evalE g a ρ S with
    | none => rw [h1] at e; cases e
    | some r =>
      cases r with
      | ex _ _ => rw [h1] at e; cases e
      | ok d1 S1 =>
        rw [h1, bnd_ok] at e
        cases h2 : evalE g b ρ S1 with
        | none => rw [h2] at e; cases e
        | some r =>
          cases r with
          | ex _ _ => rw [h2] at e; cases e
          | ok d2 S2 =>
            rw [h2, bnd_ok] at e
            cases hc : cmpE S2 o d1 d2 with
            | none => rw [hc] at e; cases e
            | some t =>
              cases t with
              | false => rw [hc] at e; cases e; exact ⟨false, rfl⟩
              | true =>
                rw [hc] at e
                cases h3 : evalE g c ρ S2 with
                | none => simp only [h3, bnd_none] at e; cases e
                | some r =>
                  cases r with
                  | ex _ _ => simp only [h3, bnd_ex] at e; cases e
                  | ok d3 S3 =>
                    simp only [h3, bnd_ok] at e
                    obtain ⟨u, _, eu⟩ := Option.map_eq_some_iff.mp e
                    cases eu; exact ⟨u, rfl⟩
  obtain ⟨t, rfl⟩ := this
  exact ⟨t, rfl, q⟩
theorem marks2 {op op' : CmpOp} {y z : Expr} (h : noSet z = true) : lastMarks [op, op'] [y, z] = false := by
  show behindInMarks op' z = false
  exact no_mark h
theorem s_cmp2 {o o' : Cmp} (hu : X.A.units + 200 < cLine) (ha : L2.PE X x (tEv (tOf X C) W g a)) (hb : L2.PE X y (tEv (tOf X C) W g b)) (hc : L2.PE X z (tEv (tOf X C) W g c)) (hz : noSet z = true) : L2.PE X (.Compare x [cOf o, cOf o'] [y, z] p) (tEv (tOf X C) W g (.cmp2 o o' a b c)) := by
  refine PE.mono (pe_chain (op_cmp (C := C) hu o) (op_cmp (C := C) hu o') ha hb hc (marks2 hz)) fun σ H Q ⟨ρ, S, μ, env, st, h⟩ => ?_
  exact chain_of env st (cmp2_bl h) fun t S' H' μ' s ok k => k _ H' μ' [] (Pst.flat s ok ⟨rfl, rfl⟩)
theorem tst_cmp2 {o o' : Cmp} (hu : X.A.units + 200 < cLine) (ha : L2.PE X x (tEv (tOf X C) W g a)) (hb : L2.PE X y (tEv (tOf X C) W g b)) (hc : L2.PE X z (tEv (tOf X C) W g c)) (hz : noSet z = true) : PT X (.Compare x [cOf o, cOf o'] [y, z] p) (tEvT (tOf X C) W g (.cmp2 o o' a b c)) := by
  refine PT.mono (pt_chain (op_cmp (C := C) hu o) (op_cmp (C := C) hu o') ha hb hc (marks2 hz)) fun σ H Q ⟨ρ, S, μ, env, st, h⟩ => ?_
  exact chain_of env st (cmp2_bl h.test) fun t S' H' μ' s ok ⟨t', e, k⟩ => ⟨t, rfl, by cases e; exact k H' μ' s ok⟩
/-! ### is -/
def rIsD' (T : Pgm) (ng : Bool) : R2 := fun x y H Q => ∃ d c μ fp b, Rep T H μ d x fp ∧ scalV c y ∧ isC ng c d = some b ∧ Q (.bl b) H
theorem op_isD (ng : Bool) : OpR X (compareOp (if ng then .IsNot else .Is)) (rIsD' (tOf X C) ng) := by
  intro pins s σ H x y v u Q I rx ry ⟨d, c, μ, fp, b, r, sc, e, q⟩
  have plain : ∀ (w : Value), plainIs v w = true → u = w → (∀ k, k = (if ng then !(v == w) else (v == w)) → k = b) → wpAny (model X.prog X.w) X.A (compareOp (if ng then .IsNot else .Is) v u) (EP X pins σ Q) X.xe s := fun w hp hw hk => by
    subst hw
    cases ng with
    | false => exact wpAny_is_plain hp ⟨.bl b, H, I, by rw [hk (v == u) rfl]; rfl, q⟩
    | true => exact wpAny_isNot_plain hp ⟨.bl b, H, I, by rw [hk (!(v == u)) rfl]; rfl, q⟩
  have refv : ∀ {a : Addr}, x = .ref a → v = .ref a := fun {a} h => by subst h; exact rx
  cases c with
  | non =>
    have ey : u = .none := by
      have : y = .non := sc
      subst this; exact ry
    cases d with
    | non =>
      obtain ⟨rfl, _⟩ := r
      cases (show v = Value.none from rx)
      cases e
      exact plain .none rfl ey fun k hk => by rw [hk]; cases ng <;> rfl
    | bl b1 =>
      obtain ⟨rfl, _⟩ := r
      cases (show v = Value.bool b1 from rx)
      cases e
      exact plain .none rfl ey fun k hk => by rw [hk]; cases ng <;> rfl
    | int i =>
      obtain ⟨rfl, _⟩ := r
      obtain ⟨t, rfl⟩ := rx
      cases e
      exact plain .none rfl ey fun k hk => by rw [hk]; cases ng <;> rfl
    | str i =>
      obtain ⟨rfl, _⟩ := r
      obtain ⟨t, rfl⟩ := rx
      cases e
      exact plain .none rfl ey fun k hk => by rw [hk]; cases ng <;> rfl
    | tup ds =>
      obtain ⟨a, _, ea, _⟩ := r
      have := refv ea; subst this
      cases e
      exact plain .none rfl ey fun k hk => by rw [hk]; cases ng <;> rfl
    | lst ds =>
      obtain ⟨a, _, _, ea, _⟩ := r
      have := refv ea; subst this
      cases e
      exact plain .none rfl ey fun k hk => by rw [hk]; cases ng <;> rfl
    | fz ds =>
      obtain ⟨a, _, ea, _⟩ := r
      have := refv ea; subst this
      cases e
      exact plain .none rfl ey fun k hk => by rw [hk]; cases ng <;> rfl
    | dct ks ds =>
      obtain ⟨a, _, _, ea, _⟩ := r
      have := refv ea; subst this
      cases e
      exact plain .none rfl ey fun k hk => by rw [hk]; cases ng <;> rfl
    | ref m =>
      obtain ⟨a, ea, _⟩ := r
      have := refv ea; subst this
      cases e
      exact plain .none rfl ey fun k hk => by rw [hk]; cases ng <;> rfl
    | exc m =>
      obtain ⟨a, ea, _⟩ := r
      have := refv ea; subst this
      cases e
      exact plain .none rfl ey fun k hk => by rw [hk]; cases ng <;> rfl
  | bl cb =>
    have ey : u = .bool cb := by
      have : y = .bl cb := sc
      subst this; exact ry
    cases d with
    | non =>
      obtain ⟨rfl, _⟩ := r
      cases (show v = Value.none from rx)
      cases e
      exact plain (.bool cb) rfl ey fun k hk => by rw [hk]; cases ng <;> rfl
    | bl b1 =>
      obtain ⟨rfl, _⟩ := r
      cases (show v = Value.bool b1 from rx)
      cases e
      exact plain (.bool cb) rfl ey fun k hk => by rw [hk]; cases ng <;> cases cb <;> cases b1 <;> rfl
    | int i =>
      obtain ⟨rfl, _⟩ := r
      obtain ⟨t, rfl⟩ := rx
      cases e
      exact plain (.bool cb) rfl ey fun k hk => by rw [hk]; cases ng <;> rfl
    | str i =>
      obtain ⟨rfl, _⟩ := r
      obtain ⟨t, rfl⟩ := rx
      cases e
      exact plain (.bool cb) rfl ey fun k hk => by rw [hk]; cases ng <;> rfl
    | tup ds =>
      obtain ⟨a, _, ea, _⟩ := r
      have := refv ea; subst this
      cases e
      exact plain (.bool cb) rfl ey fun k hk => by rw [hk]; cases ng <;> rfl
    | lst ds =>
      obtain ⟨a, _, _, ea, _⟩ := r
      have := refv ea; subst this
      cases e
      exact plain (.bool cb) rfl ey fun k hk => by rw [hk]; cases ng <;> rfl
    | fz ds =>
      obtain ⟨a, _, ea, _⟩ := r
      have := refv ea; subst this
      cases e
      exact plain (.bool cb) rfl ey fun k hk => by rw [hk]; cases ng <;> rfl
    | dct ks ds =>
      obtain ⟨a, _, _, ea, _⟩ := r
      have := refv ea; subst this
      cases e
      exact plain (.bool cb) rfl ey fun k hk => by rw [hk]; cases ng <;> rfl
    | ref m =>
      obtain ⟨a, ea, _⟩ := r
      have := refv ea; subst this
      cases e
      exact plain (.bool cb) rfl ey fun k hk => by rw [hk]; cases ng <;> rfl
    | exc m =>
      obtain ⟨a, ea, _⟩ := r
      have := refv ea; subst this
      cases e
      exact plain (.bool cb) rfl ey fun k hk => by rw [hk]; cases ng <;> rfl
  | _ => cases d <;> cases e
theorem s_is {ng : Bool} {cd : D} {y : Expr} {v : V} (ha : L2.PE X x (tEv (tOf X C) W g a)) (hy : L2.PE X y (tC v)) (sc : scalV cd v) (hn : noSet y = true) : L2.PE X (.Compare x [if ng then .IsNot else .Is] [y] p) (tEv (tOf X C) W g (.is_ ng a cd)) := by
  refine PE.mono (pe_cmpR (op_isD (C := C) ng) ha hy (no_mark hn)) fun σ H Q ⟨ρ, S, μ, env, st, h⟩ => ?_
  unfold evalE at h
  refine ev1 env st h.bnd fun d S1 u H1 μ1 fp p1 k => ?_
  obtain ⟨t, e1, k1⟩ := k.map
  exact ⟨d, cd, μ1, fp, t, p1.rep, sc, e1, fin_scal p1 k1 ⟨rfl, rfl⟩⟩
theorem tst_is {ng : Bool} {cd : D} {y : Expr} {v : V} (ha : L2.PE X x (tEv (tOf X C) W g a)) (hy : L2.PE X y (tC v)) (sc : scalV cd v) (hn : noSet y = true) : PT X (.Compare x [if ng then .IsNot else .Is] [y] p) (tEvT (tOf X C) W g (.is_ ng a cd)) := by
  refine PT.mono (pt_cmpR (op_isD (C := C) ng) ha hy (no_mark hn)) fun σ H Q ⟨ρ, S, μ, env, st, h⟩ => ?_
  have h := h.test
  unfold evalE at h
  refine ev1 env st h.bnd fun d S1 u H1 μ1 fp p1 k => ?_
  obtain ⟨t, e1, b', eb, k1⟩ := k.map
  cases eb
  exact ⟨d, cd, μ1, fp, _, p1.rep, sc, e1, _, rfl, k1 H1 μ1 p1.stp p1.ok⟩
/-! ### tests -/
theorem tst_plain (ha : L2.PE X x (tEv (tOf X C) W g a)) (hx : plainTest x = true) : PT X x (tEvT (tOf X C) W g a) := by
  refine PT.mono (pt_truth ha (test_of hx)) fun σ H Q ⟨ρ, S, μ, env, st, h⟩ => ?_
  exact ev1 env st h.test fun d S1 v H1 μ1 fp p1 ⟨t, e, k⟩ => ⟨t, tru_d p1.ok p1.rep e, k H1 μ1 p1.stp p1.ok⟩
theorem tst_not (ha : PT X x (tEvT (tOf X C) W g a)) : PT X (.UnaryOp .Not x p) (tEvT (tOf X C) W g (.not a)) := by
  refine PT.mono (pt_not ha) fun σ H Q ⟨ρ, S, μ, env, st, h⟩ => ?_
  have h := h.test
  unfold evalE at h
  refine evT1 env st h.tests fun t S1 H1 μ1 s ok ⟨b', eb, k⟩ => ?_
  cases eb
  exact k H1 μ1 s ok
theorem tst_and {rest : List Expr} (ha : PT X x (tEvT (tOf X C) W g a)) (hb : PW X (.BoolOp .And (y :: rest) p) (tEvT (tOf X C) W g b)) : PW X (.BoolOp .And (x :: y :: rest) p) (tEvT (tOf X C) W g (.and a b)) := by
  refine ⟨fun whole pins s σ H Q I q => (pw_and ha hb).run whole pins s σ H Q I ?_⟩
  obtain ⟨ρ, S, μ, env, st, h⟩ := q
  have h := h.test
  unfold evalE at h
  have h2 : Ran (tOf X C) W σ H μ (testE (evalE g a ρ S)) fun t S1 => if t = true then Ran (tOf X C) W σ H μ (testE (evalE g b ρ S1)) (FinB (tOf X C) H μ Q) else FinB (tOf X C) H μ Q false S1 := by
    refine Ran.to_test (h.bnd.imp fun d S1 _ k => ?_)
    cases e : truth S1 d with
    | none => rw [e] at k; exact k.elim
    | some t =>
      rw [e] at k
      refine ⟨t, rfl, ?_⟩
      cases t with
      | true => rw [if_pos rfl]; exact Ran.to_test k
      | false =>
        rw [if_neg (by decide)]
        obtain ⟨t', e', k'⟩ := k
        rw [e] at e'; cases e'; exact k'
  refine evT1 env st h2 fun t S1 H1 μ1 s ok k => ?_
  cases t with
  | true =>
    rw [if_pos rfl] at k ⊢
    exact ⟨ρ, S1, μ1, env.keep st.kinds s, ok, (k.on s).imp fun b S2 _ k2 H2 μ2 s2 ok2 => k2 H2 μ2 (s.trans s2) ok2⟩
  | false =>
    rw [if_neg (by decide)] at k ⊢
    exact k H1 μ1 s ok
theorem tst_or {rest : List Expr} (ha : PT X x (tEvT (tOf X C) W g a)) (hb : PW X (.BoolOp .Or (y :: rest) p) (tEvT (tOf X C) W g b)) : PW X (.BoolOp .Or (x :: y :: rest) p) (tEvT (tOf X C) W g (.or a b)) := by
  refine ⟨fun whole pins s σ H Q I q => (pw_or ha hb).run whole pins s σ H Q I ?_⟩
  obtain ⟨ρ, S, μ, env, st, h⟩ := q
  have h := h.test
  unfold evalE at h
  have h2 : Ran (tOf X C) W σ H μ (testE (evalE g a ρ S)) fun t S1 => if t = true then FinB (tOf X C) H μ Q true S1 else Ran (tOf X C) W σ H μ (testE (evalE g b ρ S1)) (FinB (tOf X C) H μ Q) := by
    refine Ran.to_test (h.bnd.imp fun d S1 _ k => ?_)
    cases e : truth S1 d with
    | none => rw [e] at k; exact k.elim
    | some t =>
      rw [e] at k
      refine ⟨t, rfl, ?_⟩
      cases t with
      | false => rw [if_neg (by decide)]; exact Ran.to_test k
      | true =>
        rw [if_pos rfl]
        obtain ⟨t', e', k'⟩ := k
        rw [e] at e'; cases e'; exact k'
  refine evT1 env st h2 fun t S1 H1 μ1 s ok k => ?_
  cases t with
  | false =>
    rw [if_neg (by decide)] at k ⊢
    exact ⟨ρ, S1, μ1, env.keep st.kinds s, ok, (k.on s).imp fun b S2 _ k2 H2 μ2 s2 ok2 => k2 H2 μ2 (s.trans s2) ok2⟩
  | true =>
    rw [if_pos rfl] at k ⊢
    exact k H1 μ1 s ok
theorem s_ife {z : Expr} (hc : PT X z (tEvT (tOf X C) W g c)) (ha : L2.PE X x (tEv (tOf X C) W g a)) (hb : L2.PE X y (tEv (tOf X C) W g b)) : L2.PE X (.IfExp z x y p) (tEv (tOf X C) W g (.ife c a b)) := by
  refine PE.mono (pe_ifExp hc ha hb) fun σ H Q ⟨ρ, S, μ, env, st, h⟩ => ?_
  unfold evalE at h
  refine evT1 env st h.tests fun t S1 H1 μ1 s ok k => ?_
  cases t with
  | true =>
    rw [if_pos rfl] at k ⊢
    exact ⟨ρ, S1, μ1, env.keep st.kinds s, ok, (k.on s).imp fun d S2 _ k2 v2 H2 μ2 f2 p2 => k2 v2 H2 μ2 f2 ⟨s.trans p2.stp, p2.ok, p2.rep, p2.nd, fun a m => s.free (p2.new a m)⟩⟩
  | false =>
    rw [if_neg (by decide)] at k ⊢
    exact ⟨ρ, S1, μ1, env.keep st.kinds s, ok, (k.on s).imp fun d S2 _ k2 v2 H2 μ2 f2 p2 => k2 v2 H2 μ2 f2 ⟨s.trans p2.stp, p2.ok, p2.rep, p2.nd, fun a m => s.free (p2.new a m)⟩⟩
end
end Ev
end
section
set_option Elab.async false
set_option linter.all false
set_option maxRecDepth 100000
namespace Ev
open PySem PySem.Spec PyProof.Rows L2 PySem.SeqAt
section
variable {X : Cx} {C : Nat → Addr} {W : WX} {n : Nat} {g : G} {cc : CC} {a b c : PE} {x y z : Expr} {p : Pos}
theorem s_idx (hu : X.A.units + 200 < cLine) (ha : L2.PE X x (tEv (tOf X C) W g a)) (hb : L2.PE X y (tEv (tOf X C) W g b)) (hy : noSlice y = true) : L2.PE X (.Subscript x y p) (tEv (tOf X C) W g (.idx a b)) := by
  refine PE.mono (pe_ix (ix_d (C := C) (by omega)) ha hb (plain_ix hy)) fun σ H Q ⟨ρ, S, μ, env, st, h⟩ => ?_
  unfold evalE at h
  refine ev2 env st (h.bnd.imp fun x S1 _ k => k.bnd) fun d e S2 u v H2 μ2 f1 f2 p2 r1 r2 k => ?_
  obtain ⟨z, e1, k1⟩ := k.map
  exact ⟨d, e, S2, μ2, f1, f2, z, ⟨r1, r2, p2.ok, p2.nd⟩, e1, fin_outs p2 k1⟩
/-- a part of a slice -/
def tEvO (T : Pgm) (W : WX) (g : G) (e : PE) : TO := fun σ H Q => ∃ ρ S μ, EnvOk T H μ σ ρ ∧ StOk T H μ S ∧ Ran T W σ H μ (evalE g e ρ S) fun d S' => ∃ o, partOf d = some o ∧ ∀ H' μ', Stp H μ H' μ' → StOk T H' μ' S' → Q o H'
theorem po_no : PO X none (tEvO (tOf X C) W g (.cst .non)) := by
  refine ⟨fun pins s σ H Q I ⟨ρ, S, μ, env, st, h⟩ => po_none.run pins s σ H Q I ?_⟩
  unfold evalE at h
  obtain ⟨o, e, q⟩ := h
  cases e
  exact q H μ Stp.refl st
theorem po_so (ha : L2.PE X x (tEv (tOf X C) W g a)) : PO X (some x) (tEvO (tOf X C) W g a) := by
  refine ⟨fun pins s σ H Q I ⟨ρ, S, μ, env, st, h⟩ => ?_⟩
  rw [evalPart_some]
  have h2 : tEv (tOf X C) W g a σ H fun v H' => ∃ o, ((v = .non ∧ o = none) ∨ ∃ i, v = .int i ∧ o = some i) ∧ Q o H' := ev1 env st h fun d S1 v H1 μ1 fp p1 ⟨o, e, q⟩ => by
    cases d with
    | int i =>
      cases e
      obtain ⟨rfl, rfl⟩ := p1.rep
      exact ⟨_, .inr ⟨i, rfl, rfl⟩, q H1 μ1 p1.stp p1.ok⟩
    | non =>
      cases e
      obtain ⟨rfl, rfl⟩ := p1.rep
      exact ⟨_, .inl ⟨rfl, rfl⟩, q H1 μ1 p1.stp p1.ok⟩
    | _ => cases e
  refine thn (ha.run pins s σ H _ I h2) fun u s1 ⟨x, H1, I1, r1, o, alt, q⟩ => ?_
  rcases alt with ⟨rfl, rfl⟩ | ⟨i, rfl, rfl⟩
  · cases r1
    exact ⟨none, H1, I1, .none, q⟩
  · obtain ⟨t, rfl⟩ := r1
    exact ⟨some i, H1, I1, .int i t, q⟩
theorem s_sl {l h : Option Expr} {lo hi : PE} {p2 : Pos} (ha : L2.PE X x (tEv (tOf X C) W g a)) (hl : PO X l (tEvO (tOf X C) W g lo)) (hh : PO X h (tEvO (tOf X C) W g hi)) : L2.PE X (.Subscript x (.Slice l h none p2) p) (tEv (tOf X C) W g (.sl a lo hi)) := by
  refine PE.mono (pe_slice (sl_d (C := C)) ha hl hh) fun σ H Q ⟨ρ, S, μ, env, st, h⟩ => ?_
  unfold evalE at h
  refine ev1 env st h.bnd fun d S1 v H1 μ1 fp p1 k => ?_
  refine ⟨ρ, S1, μ1, env.keep st.kinds p1.stp, p1.ok, (k.on p1.stp).bnd.imp fun dl S2 _ k2 => ?_⟩
  by_cases hip : isPart dl = true
  case neg => rw [if_neg hip] at k2; exact k2.elim
  rw [if_pos hip] at k2
  have hpl : ∃ ol, partOf dl = some ol := by
    cases dl <;> first | exact ⟨_, rfl⟩ | cases hip
  have go : ∀ ol, partOf dl = some ol → ∀ H2 μ2, Stp H1 μ1 H2 μ2 → StOk (tOf X C) H2 μ2 S2 → tEvO (tOf X C) W g hi σ H2 fun u H3 => rSlD (tOf X C) v ol u H3 Q := fun ol eo H2 μ2 s2 ok2 => by
    refine ⟨ρ, S2, μ2, (env.keep st.kinds p1.stp).keep p1.ok.kinds s2, ok2, (k2.on s2).bnd.imp fun dh S3 _ k3 => ?_⟩
    obtain ⟨z, e1, k4⟩ := k3.map
    have hp : ∃ oh, partOf dh = some oh := by
      unfold slE at e1
      cases dh <;> first
        | exact ⟨_, rfl⟩
        | (exfalso
           split at e1
           · split at e1
             · rename_i q1 q2; cases q2
             · cases e1
           · split at e1
             · rename_i q1 q2; cases q2
             · cases e1
           · split at e1
             · split at e1
               · rename_i q1 q2; cases q2
               · cases e1
             · cases e1)
    obtain ⟨oh, eh⟩ := hp
    refine ⟨oh, eh, fun H3 μ3 s3 ok3 => ?_⟩
    have s13 := s2.trans s3
    have r3 : Rep (tOf X C) H3 μ3 d v fp := Rep.keep p1.ok.kinds s13 d v fp p1.rep (nd_out p1.nd)
    have nd3 : (μ3 ++ fp).Nodup := by
      have := nd_step (f2 := []) s13 p1.nd (by simpa using ok3.nd) (Rep.there d v fp p1.rep) (by simp)
      simpa using this
    refine ⟨d, dl, dh, S3, μ3, fp, z, r3, ok3, nd3, eo, eh, e1, fun v' H' fp' s r nd ow => ?_⟩
    exact k4 v' H' μ3 fp' ⟨(p1.stp.trans s13).trans (Same.stp s), StOk.same s ok3, r, nd, fun a m => (ow a m).elim (p1.new a) fun e => p1.stp.free (s13.free e)⟩
  obtain ⟨ol, eo⟩ := hpl
  exact ⟨ol, eo, fun H2 μ2 s2 ok2 => go ol eo H2 μ2 s2 ok2⟩
end
end Ev
end
section
set_option Elab.async false
set_option linter.all false
set_option maxRecDepth 100000
namespace Ev
open PySem PySem.Spec PyProof.Rows L2 PySem.SeqAt
section
variable {X : Cx} {C : Nat → Addr} {W : WX} {n : Nat} {g : G} {cc : CC} {a b c : PE} {x y z : Expr} {p p' : Pos} {es : List PE} {ys : List Expr}
theorem s_call {f : Nat} {nm : Str} (G : Good C W n g cc X) (hg : glob cc.sc nm = true) (hf : cc.fnames[f]? = some nm) (ha : PA X (y :: ys) (tEvs (tOf X C) W g es)) (hs : (y :: ys).all noStar = true) : L2.PE X (.Call (.Name nm p') (y :: ys) [] p) (tEv (tOf X C) W g (.call f es)) := by
  obtain ⟨addr, fd, ps, h1, h2, h3, h4⟩ := G.funs f nm hf
  obtain ⟨g1, g2, g3⟩ := G.gl hg
  rw [List.all_cons, Bool.and_eq_true] at hs
  refine PE.mono (pe_callS h4 G.room g1 h1 h2 h3 (fun σ => passAt G.tk σ) ha g2 (star_of hs.1) (stars_none hs.2)) fun σ H Q ⟨ρ, S, μ, env, st, h⟩ => ?_
  unfold evalE at h
  refine evse env st h.bnd fun ds S1 vs H1 μ1 fp e1 p1 k => ?_
  refine ⟨ds, S1, μ1, fp, p1.rep, p1.ok, p1.nd, ?_⟩
  cases hF : g.F f ds S1 with
  | none => rw [hF] at k; exact k.elim
  | some r =>
    rw [hF] at k
    cases r with
    | ok d S2 => exact fun v H' μ' fp' s ok r nd ow => k v H' μ' fp' ⟨StpO.of p1.stp p1.new (nd_out p1.nd) s, ok, r, nd, fun a m => (ow a m).elim (p1.new a) p1.stp.free⟩
    | ex cl S2 => exact fun H' μ' s ok => k H' μ' (StpO.of p1.stp p1.new (nd_out p1.nd) s) ok
theorem s_blt {bt : Blt} (G : Good C W n g cc X) (hg : glob cc.sc (bNm bt) = true) (ha : PA X (y :: ys) (tEvs (tOf X C) W g es)) (hs : (y :: ys).all noStar = true) : L2.PE X (.Call (.Name (bNm bt) p') (y :: ys) [] p) (tEv (tOf X C) W g (.blt bt es)) := by
  obtain ⟨g1, g2, g3⟩ := G.gl hg
  rw [List.all_cons, Bool.and_eq_true] at hs
  have hm := G.free _ (bNm_mem bt)
  have base : L2.PE X (.Call (.Name (bNm bt) p') (y :: ys) [] p) (tCB (rBlt (tOf X C) bt) (tEvs (tOf X C) W g es)) := by
    have hb := boot_b bt
    have hc := call_blt (C := C) G.calm bt
    cases bt <;> first
      | exact pe_callB hc g1 hm hb ha g3 g2 (star_of hs.1) (stars_none hs.2)
      | exact pe_callTy hc g1 hm hb ha g3 g2 (star_of hs.1) (stars_none hs.2)
  refine PE.mono base fun σ H Q ⟨ρ, S, μ, env, st, h⟩ => ?_
  unfold evalE at h
  refine evse env st h.bnd fun ds S1 vs H1 μ1 fp e1 p1 k => ?_
  obtain ⟨z, e2, k1⟩ := k.map
  exact ⟨ds, S1, μ1, fp, z, p1.rep, p1.ok, p1.nd, e2, fin_outs p1 k1⟩
theorem mSlot (m : Mth) : PlainAttrs (mTy m) ∧ Slot (mTy m) (mNm m) (mId m) ∧ typeOf (.builtin (mId m)) = pure (.type "method_descriptor") := by
  cases m with
  | append => exact ⟨PySem.F.plainAttrs_list, PySem.F.slot_list_append, PySem.F.type_list_append⟩
  | pop => exact ⟨PySem.F.plainAttrs_list, PySem.F.slot_list_pop, PySem.F.type_list_pop⟩
  | extend => exact ⟨PySem.F.plainAttrs_list, PySem.F.slot_list_extend, PySem.F.type_list_extend⟩
  | join => exact ⟨PySem.F.plainAttrs_str, PySem.F.slot_str_join, PySem.F.type_str_join⟩
  | upper => exact ⟨PySem.F.plainAttrs_str, PySem.F.slot_str_upper, PySem.F.type_str_upper⟩
  | get => exact ⟨PySem.F.plainAttrs_dict, PySem.F.slot_dict_get, PySem.F.type_dict_get⟩
theorem recv_ty {m : Mth} {d : D} {v : V} {fp : List Addr} {H : Hp} {μ : List Addr} {S : Sto} (ok : StOk (tOf X C) H μ S) (r : Rep (tOf X C) H μ d v fp) (h : recvOk m d S = true) : tyV X.K (mTy m) v H := by
  have ls : (listOf S d).isSome = true → tyV X.K "list" v H := fun h => by
    obtain ⟨ds, e⟩ := Option.isSome_iff_exists.mp h
    obtain ⟨a, vs, f1, rfl, sq, _⟩ := list_at ok r e
    exact .inl ⟨rfl, vs, sq⟩
  cases m with
  | append => exact ls h
  | pop => exact ls h
  | extend => exact ls h
  | join =>
    cases d with
    | str z => obtain ⟨rfl, _⟩ := r; exact rfl
    | _ => cases h
  | upper =>
    cases d with
    | str z => obtain ⟨rfl, _⟩ := r; exact rfl
    | _ => cases h
  | get =>
    obtain ⟨⟨ks, vs⟩, e⟩ := Option.isSome_iff_exists.mp (show (dictOf S d).isSome = true from h)
    obtain ⟨a, us, f1, rfl, ⟨kvs, q, _⟩, _⟩ := dict_at ok r e
    exact .inr (.inr (.inl ⟨rfl, .inl ⟨kvs, q⟩⟩))
theorem mth_fin {m : Mth} {d : D} {v : V} {f1 : List Addr} {S1 : Sto} {H H1 : Hp} {μ μ1 : List Addr} {σ : Slots} {Q : VK} (p1 : Pst (tOf X C) H μ d S1 v H1 μ1 f1) {ds : List D} {S2 : Sto} {vs : List V} {H2 : Hp} {μ2 f2 : List Addr} (p2 : Psts (tOf X C) H1 μ1 ds S2 vs H2 μ2 f2)
    (k : Ran (tOf X C) W σ H μ ((mthE m d ds S2).map fun r => R.ok r.1 r.2) (Fin1 (tOf X C) H μ Q)) : rMth (tOf X C) m v vs H2 Q := by
  obtain ⟨⟨z, S'⟩, e, k1⟩ := k.map
  have r1 : Rep (tOf X C) H2 μ2 d v f1 := Rep.keep p1.ok.kinds p2.stp d v f1 p1.rep (nd_out p1.nd)
  have nd := nd_step p2.stp p1.nd p2.nd (Rep.there d v f1 p1.rep) p2.new
  have s12 := p1.stp.trans p2.stp
  have nw : ∀ a ∈ f1 ++ f2, H a = none := fun a m => (List.mem_append.mp m).elim (p1.new a) fun m => p1.stp.free (p2.new a m)
  exact ⟨d, ds, S2, μ2, f1, f2, z, S', r1, p2.rep, p2.ok, nd, e, fun v' H' μ' fp' s ok r nd' ow => k1 v' H' μ' fp' ⟨StpO.of s12 nw (nd_out nd) s, ok, r, nd', fun a m => (ow a m).elim (nw a) s12.free⟩⟩
theorem s_mth {m : Mth} {apos : Pos} (G : Good C W n g cc X) (ho : L2.PE X x (tEv (tOf X C) W g a)) (ha : PA X ys (tEvs (tOf X C) W g es)) (hs : ys.all noStar = true) (hes : es.length = ys.length) (hx : noCall0 x = true) (hl : ys.length < 20) (hln : (apos.endLine == p.line) = true) :
    L2.PE X (.Call (.Attribute x (mNm m) apos) ys [] p) (tEv (tOf X C) W g (.mth m a es)) := by
  obtain ⟨m1, m2, m3⟩ := mSlot m
  have hu : X.A.units + 1 < cLine := by have := G.units; omega
  cases ys with
  | nil =>
    refine PE.mono (pe_bm0 m1 m2 m3 (mt_d (C := C) hu m) ho (attr_base hx) hln) fun σ H Q ⟨ρ, S, μ, env, st, h⟩ => ?_
    unfold evalE at h
    refine ev1 env st h.bnd fun d S1 v H1 μ1 f1 p1 k => ?_
    by_cases hr : recvOk m d S1 = true
    case neg => rw [if_neg hr] at k; exact k.elim
    rw [if_pos hr] at k
    refine ⟨recv_ty p1.ok p1.rep hr, ?_⟩
    have hes' : es = [] := List.eq_nil_of_length_eq_zero hes
    subst hes'
    unfold evalEs at k
    have p2 : Psts (tOf X C) H1 μ1 [] S1 [] H1 μ1 [] := ⟨Stp.refl, p1.ok, ⟨rfl, rfl⟩, by simpa using p1.ok.nd, by simp⟩
    exact mth_fin p1 p2 k
  | cons y ys =>
    rw [List.all_cons, Bool.and_eq_true] at hs
    have hfew : ((backTo p (starEach (y :: ys) X.env)).all (fun x => !x.1) && (backToKw p (keywordEach [] X.env)).all (fun x => x.1.isSome) && decide ((y :: ys).length + ([] : List Keyword).length + (if ([] : List Keyword).isEmpty then 0 else 1) < 30)) = true := by
      rw [stars_all (by rw [List.all_cons, hs.1, hs.2]; rfl)]
      simp only [Bool.true_and, Bool.and_eq_true, decide_eq_true_eq]
      refine ⟨rfl, ?_⟩
      show (y :: ys).length + 0 + 0 < 30
      omega
    refine PE.mono (pe_bm m1 m2 m3 (mt_d (C := C) hu m) ho ha (attr_base hx) hfew hln (star_of hs.1) (stars_none hs.2)) fun σ H Q ⟨ρ, S, μ, env, st, h⟩ => ?_
    unfold evalE at h
    refine ev1 env st h.bnd fun d S1 v H1 μ1 f1 p1 k => ?_
    by_cases hr : recvOk m d S1 = true
    case neg => rw [if_neg hr] at k; exact k.elim
    rw [if_pos hr] at k
    refine ⟨recv_ty p1.ok p1.rep hr, ?_⟩
    exact ⟨ρ, S1, μ1, env.keep st.kinds p1.stp, p1.ok, (k.bnd.on p1.stp).imp fun ds S2 _ k2 vs H2 μ2 f2 p2 => mth_fin p1 p2 k2⟩
/-! ### isinstance -/
theorem s_cls (G : Good C W n g cc X) {t : Ty} {x : Expr} (h : chkTy cc t x = true) : L2.PE X x (tC (clsV C t)) ∧ noStar x = true := by
  cases x with
  | Name nm q =>
    unfold chkTy at h
    obtain ⟨h1, h2⟩ := Bool.and_eq_true_iff.mp h
    obtain ⟨g1, g2, g3⟩ := G.gl h1
    refine ⟨?_, rfl⟩
    cases t with
    | cls c => exact pe_glob g1 (G.cls c nm (of_decide_eq_true h2)) rfl g2
    | int => obtain ⟨b1, b2, b3, b4, b5⟩ := boot_ty C .int (fun c h => nomatch h); have e := of_decide_eq_true h2; subst e; exact pe_bltn g1 (G.free _ b3) b1 b2 b4 b5
    | str => obtain ⟨b1, b2, b3, b4, b5⟩ := boot_ty C .str (fun c h => nomatch h); have e := of_decide_eq_true h2; subst e; exact pe_bltn g1 (G.free _ b3) b1 b2 b4 b5
    | tuple => obtain ⟨b1, b2, b3, b4, b5⟩ := boot_ty C .tuple (fun c h => nomatch h); have e := of_decide_eq_true h2; subst e; exact pe_bltn g1 (G.free _ b3) b1 b2 b4 b5
    | list => obtain ⟨b1, b2, b3, b4, b5⟩ := boot_ty C .list (fun c h => nomatch h); have e := of_decide_eq_true h2; subst e; exact pe_bltn g1 (G.free _ b3) b1 b2 b4 b5
    | dict => obtain ⟨b1, b2, b3, b4, b5⟩ := boot_ty C .dict (fun c h => nomatch h); have e := of_decide_eq_true h2; subst e; exact pe_bltn g1 (G.free _ b3) b1 b2 b4 b5
    | bool => obtain ⟨b1, b2, b3, b4, b5⟩ := boot_ty C .bool (fun c h => nomatch h); have e := of_decide_eq_true h2; subst e; exact pe_bltn g1 (G.free _ b3) b1 b2 b4 b5
    | valueError => obtain ⟨b1, b2, b3, b4, b5⟩ := boot_ty C .valueError (fun c h => nomatch h); have e := of_decide_eq_true h2; subst e; exact pe_bltn g1 (G.free _ b3) b1 b2 b4 b5
  | _ => cases h
theorem pa_cls (G : Good C W n g cc X) : ∀ (ts : List Ty) (xs : List Expr), all2 (chkTy cc) ts xs = true → PA X xs (fun σ H Q => Q (ts.map (clsV C)) H)
  | [], [], _ => pa_nil
  | [], _ :: _, h => by cases h
  | _ :: _, [], h => by cases h
  | t :: ts, x :: xs, h => by
    obtain ⟨h1, h2⟩ := Bool.and_eq_true_iff.mp (show (chkTy cc t x && all2 (chkTy cc) ts xs) = true from h)
    obtain ⟨c1, c2⟩ := s_cls G h1
    exact pa_cons c1 (pa_cls G ts xs h2) (star_of c2)
theorem s_isi {ts : List Ty} {t : Expr} (G : Good C W n g cc X) (hg : glob cc.sc "isinstance" = true) (hne : ts ≠ []) (ha : L2.PE X y (tEv (tOf X C) W g a)) (hy : noStar y = true) (ht : noStar t = true)
    (hts : (∃ t0, ts = [t0] ∧ chkTy cc t0 t = true) ∨ ∃ xs k q, t = .Tuple xs k q ∧ all2 (chkTy cc) ts xs = true ∧ xs.length ≤ 1000) : L2.PE X (.Call (.Name "isinstance" p') [y, t] [] p) (tEv (tOf X C) W g (.isi a ts)) := by
  obtain ⟨g1, g2, g3⟩ := G.gl hg
  have hm := G.free "isinstance" (by decide +kernel)
  have hst : [y, t].all noStar = true := by simp [hy, ht]
  have base : ∀ {tt : TE}, L2.PE X t tt → L2.PE X (.Call (.Name "isinstance" p') [y, t] [] p) (tCB (rIsD (tOf X C) g.isa ts) (tCons (tEv (tOf X C) W g a) (tCons tt tNil))) := fun {tt} h =>
    pe_callB (call_isD G.ec ts hne) g1 hm PyProof.Rows.boot_isinstance (pa_cons ha (pa_cons h pa_nil (star_of ht)) (star_of hy)) g3 g2 (star_of hy) (stars_none (es := [t]) (by simpa using ht))
  rcases hts with ⟨t0, rfl, h0⟩ | ⟨xs, k, q, rfl, h0, hl⟩
  · refine PE.mono (base (s_cls G h0).1) fun σ H Q ⟨ρ, S, μ, env, st, h⟩ => ?_
    unfold evalE at h
    refine ev1 env st h.bnd fun d S1 v H1 μ1 f1 p1 k => ?_
    obtain ⟨bb, e1, k1⟩ := k.map
    exact ⟨d, S1, μ1, f1, v, bb, p1.rep, p1.ok, e1, fin_scal p1 k1 ⟨rfl, rfl⟩, .inl ⟨t0, rfl, rfl⟩⟩
  · refine PE.mono (base (pe_tup (pa_cls G ts xs h0))) fun σ H Q ⟨ρ, S, μ, env, st, h⟩ => ?_
    unfold evalE at h
    refine ev1 env st h.bnd fun d S1 v H1 μ1 f1 p1 k => ?_
    obtain ⟨bb, e1, k1⟩ := k.map
    have hlen : (ts.map (clsV C)).length ≤ sizeLine := by
      have : ∀ (ts : List Ty) (xs : List Expr), all2 (chkTy cc) ts xs = true → ts.length = xs.length := fun ts => by
        induction ts with
        | nil => intro xs h; cases xs with | nil => rfl | cons _ _ => cases h
        | cons t ts ih => intro xs h; cases xs with | nil => cases h | cons x xs => rw [List.length_cons, List.length_cons, ih xs (Bool.and_eq_true_iff.mp h).2]
      rw [List.length_map, this ts xs h0]
      exact Nat.le_trans hl (by decide)
    refine ⟨hlen, fun q nq => ?_⟩
    have sm : Same H1 (upd H1 q (.tup (ts.map (clsV C)))) := Same.upd nq
    refine ⟨d, S1, μ1, f1, v, bb, Rep.same sm _ _ _ p1.rep, StOk.same sm p1.ok, e1, ?_, .inr ⟨q, rfl, upd_same⟩⟩
    exact k1 _ _ μ1 [] (Pst.flat (p1.stp.trans (Same.stp sm)) (StOk.same sm p1.ok) ⟨rfl, rfl⟩)
end
end Ev
end
section
set_option Elab.async false
set_option linter.all false
set_option maxRecDepth 100000
namespace Ev
open PySem PySem.Spec PyProof.Rows L2 PySem.SeqAt
def W0 : WX := fun _ _ _ _ => False
/-! ### the tests of a comprehension -/
def tEvI (T : Pgm) (W : WX) (g : G) (es : List PE) : TT := fun σ H Q => ∃ ρ S μ, EnvOk T H μ σ ρ ∧ StOk T H μ S ∧ Ran T W σ H μ (evalIfs g es ρ S) (FinB T H μ Q)
section
variable {X : Cx} {C : Nat → Addr} {W : WX} {n : Nat} {g : G} {cc : CC} {a b c : PE} {x y z : Expr} {p p' : Pos} {es : List PE} {ys : List Expr}
theorem PTs.mono {ifs : List Expr} {t t' : TT} (h : PTs X ifs t) (m : ∀ σ H Q, t' σ H Q → t σ H Q) : PTs X ifs t' := ⟨fun pins s σ H Q I q => h.run pins s σ H Q I (m σ H Q q)⟩
theorem ifs_nil : PTs X [] (tEvI (tOf X C) W g []) := by
  refine PTs.mono pts_nil fun σ H Q ⟨ρ, S, μ, env, st, h⟩ => ?_
  unfold evalIfs at h
  exact h H μ Stp.refl st
theorem ifs_one (h : PT X x (tEvT (tOf X C) W g a)) : PTs X [x] (tEvI (tOf X C) W g [a]) := by
  refine PTs.mono (pts_one h) fun σ H Q ⟨ρ, S, μ, env, st, h⟩ => ?_
  unfold evalIfs at h
  refine evT1 env st h.tests fun t S1 H1 μ1 s ok k => ?_
  cases t with
  | true =>
    rw [if_pos rfl] at k
    unfold evalIfs at k
    exact k H1 μ1 s ok
  | false =>
    rw [if_neg (by decide)] at k
    exact k H1 μ1 s ok
end
/-! ### the slots of its own -/
def wipeE (ρ : Env) : List Nat → Env
  | [] => ρ
  | v :: vs => (wipeE ρ vs).set v none
theorem EnvOk.wipe {T : Pgm} {H : Hp} {μ : List Addr} {σ : Slots} {ρ : Env} (h : EnvOk T H μ σ ρ) : ∀ vs : List Nat, EnvOk T H μ (L2.wipe σ vs) (wipeE ρ vs)
  | [] => h
  | v :: vs => EnvOk.drop (EnvOk.wipe h vs)
theorem wipe_set {σ : L2.St} {i : Nat} {x : Option V} {vs : List Nat} : i ∈ vs → wipe (σ.set i x) vs = wipe σ vs := by
  induction vs with
  | nil => intro h; cases h
  | cons j vs ih =>
    intro h
    unfold wipe
    by_cases hj : i ∈ vs
    · rw [ih hj]
    · have hij : i = j := (List.mem_cons.mp h).resolve_right hj
      subst hij
      have comm : ∀ (vs : List Nat) (σ : L2.St), i ∉ vs → wipe (σ.set i x) vs = (wipe σ vs).set i x := fun vs => by
        induction vs with
        | nil => intro σ _; rfl
        | cons k vs ihv =>
          intro σ hk
          unfold wipe
          have h1 : i ≠ k := fun e => hk (by rw [e]; exact List.mem_cons_self)
          rw [ihv σ fun m => hk (List.mem_cons_of_mem _ m), List.set_comm _ _ h1]
      rw [comm vs σ hj, List.set_set]
theorem setNames_set : ∀ (is : List Nat) (ds : List D) (ρ : Env) (j : Nat) (x : Option D), j ∈ is → setNames is ds (ρ.set j x) = setNames is ds ρ
  | [], _, _, _, _, m => by cases m
  | i :: is, [], _, _, _, _ => rfl
  | i :: is, d :: ds, ρ, j, x, m => by
    show setNames is ds ((ρ.set j x).set i (some d)) = setNames is ds (ρ.set i (some d))
    by_cases e : j = i
    · subst e; rw [List.set_set]
    · rw [List.set_comm _ _ e]
      exact setNames_set is ds _ j x ((List.mem_cons.mp m).resolve_left e)
theorem setNames_wipe (is : List Nat) (ds : List D) (ρ : Env) : ∀ vs : List Nat, (∀ v ∈ vs, v ∈ is) → setNames is ds (wipeE ρ vs) = setNames is ds ρ
  | [], _ => rfl
  | v :: vs, h => by
    unfold wipeE
    rw [setNames_set is ds _ v none (h v List.mem_cons_self)]
    exact setNames_wipe is ds ρ vs fun u m => h u (List.mem_cons_of_mem _ m)
theorem setTg_wipe (tg : Tg) (d : D) (ρ : Env) (S : Sto) : setTg tg d (wipeE ρ (tgIs tg)) S = setTg tg d ρ S := by
  cases tg with
  | nm i =>
    show some (((ρ.set i none).set i _), _) = some (ρ.set i _, _)
    rw [List.set_set]
  | tp is =>
    cases d with
    | tup ds =>
      show (setNames is (settles ds S).1 (wipeE ρ is)).map _ = (setNames is (settles ds S).1 ρ).map _
      rw [setNames_wipe is _ ρ is fun v m => m]
    | _ => rfl
section
variable {T : Pgm} {H : Hp} {μ : List Addr} {S : Sto}
theorem StOk.upd1 {N : Addr} {xs ys : List V} (h : StOk T H μ S) (hN : H N = some (.lst xs)) (n : N ∉ μ) : StOk T (L2.upd H N (.lst ys)) μ S := ⟨h.len, h.nd, fun i d a h1 h2 => by
  have q := h.at_ i d a h1 h2
  have hne : a ≠ N := fun e => n (by rw [← e]; exact List.mem_iff_getElem?.mpr ⟨i, h2⟩)
  cases d with
  | lst ds => obtain ⟨vs, e, r⟩ := q; exact ⟨vs, by rw [upd_ne hne]; exact e, Reps.upd1 hN r (by simp)⟩
  | dct ks ds => obtain ⟨us, e, r⟩ := q; exact ⟨us, DictAt.keep (upd_ne hne) e, Reps.upd1 hN r (by simp)⟩
  | _ => exact q.elim⟩
theorem guardS_some {α : Type} {lk : Option (Nat × List D)} {x : Option α} {y : α} (h : guardS lk S x = some y) : stays lk S ∧ x = some y := by
  unfold guardS at h
  split at h
  · exact ⟨by assumption, h⟩
  · cases h
end
section
variable {X : Cx} {C : Nat → Addr} {W : WX} {n : Nat} {g : G} {cc : CC}
/-- how things lie ahead of turn i -/
def LcI (T : Pgm) (Gw : Nat → Hp → List Addr → Prop) (H : Hp) (μ : List Addr) (H1 : Hp) (N : Addr) (lk : Option (Nat × List D)) (f : D → Sto → Option (R (Option D))) (its out : List D) (Sf : Sto) (i m : Nat) (Hc : Hp) : Prop :=
  i + m = its.length ∧ ∃ S' μ' acc vs fp rest, StOk T Hc μ' S' ∧ Stp H μ Hc μ' ∧ Gw i Hc μ' ∧ Hc N = some (.lst vs) ∧ Reps T Hc μ' acc vs fp ∧ (μ' ++ (fp ++ [N])).Nodup ∧ (∀ a ∈ fp, H a = none ∧ H1 a = none) ∧
    (∀ b o, H1 b = some o → ∃ o', Hc b = some o') ∧ acc.length ≤ i ∧ compL lk f (its.drop i) S' = some (rest, Sf) ∧ out = acc ++ rest
theorem lc_blk {scope : Scope} {own : List (Str × Nat)} (G : Good C W n g cc X) (hb : blkC cc.N cc.sc scope own = true) : BlkOk X.N X.env.scope scope own := by
  have b := blkOk_by hb
  rw [G.hN]
  refine ⟨b.kind, b.uniq, b.ix, fun y hy e => ?_, b.own⟩
  rcases b.free y hy e with h | h <;> obtain ⟨k', h1, h2⟩ := G.sc.look _ _ h
  · rcases h2 with rfl | ⟨z, _⟩
    · exact .inl h1
    · cases z
  · rcases h2 with rfl | ⟨_, rfl⟩
    · exact .inr h1
    · exact .inl h1
theorem lc_read {tg : Tg} {k : ItK} {es ifs : List PE} {elt : PE} {vs : List Nat} (ho : vs = tgIs tg) {σ : L2.St} {H : Hp} {Q : VK} (hx : tEv (tOf X C) W g (.comp tg k es ifs elt) σ H Q) :
    tLc (tIt (tOf X C) W g k es) (gTg (tOf X C) tg) (tEvI (tOf X C) W0 g ifs) (tEv (tOf X C) W0 g elt) vs σ H Q := by
  obtain ⟨ρ, S, μ, env, st, h⟩ := hx
  rw [ho]
  unfold evalE at h
  refine ⟨ρ, S, μ, env, st, h.bnd.imp fun ds S1 _ k1 => ?_⟩
  cases hit : itemsOf S1 k ds with
  | none => rw [hit] at k1; exact k1.elim
  | some q0 =>
    obtain ⟨its, lk⟩ := q0
    rw [hit] at k1
    obtain ⟨⟨out, Sf⟩, e1, k2⟩ := k1.map
    refine ⟨its, lk, rfl, fun J H1 μ1 s1 ok1 bg N nN => ?_⟩
    obtain ⟨Gw, wk, g0, gup⟩ := bg.new N nN
    have hHN : H N = none := s1.free nN
    have nm1 : N ∉ μ1 := fun m => by rcases ok1.kinds N m with ⟨_, z⟩ | ⟨_, z⟩ <;> (rw [nN] at z; cases z)
    generalize hf : (fun d S => match setTg tg d ρ S with
        | some (ρ', S) => bnd (evalIfs g ifs ρ' S) fun b S => if b = true then bnd (evalE g elt ρ' S) fun x S => some (R.ok (some x) S) else some (R.ok none S)
        | none => none) = f at e1
    refine ⟨LcI (tOf X C) Gw H μ H1 N lk f its out Sf, ⟨its.length, by simp, S1, μ1, [], [], [], out, StOk.same (Same.upd nN) ok1, s1.trans (Stp.upd nN), g0, upd_same, ⟨rfl, rfl⟩, ?_, by simp, fun b o e => ⟨o, Same.upd nN b o e⟩, Nat.zero_le _, e1, rfl⟩, fun i m Hc ⟨him, S', μ', acc, vs, fp, rest, okc, sc, gc, hN, rs, nd, nw, dm, hac, hcl, hout⟩ => ?_⟩
    · refine List.nodup_append.mpr ⟨ok1.nd, by simp, fun a ha b hb e => ?_⟩
      have : b = N := by simpa using hb
      subst this; subst e; exact nm1 ha
    by_cases hil : its.length ≤ i
    · left
      rw [List.drop_eq_nil_of_le hil] at hcl
      obtain ⟨h1, h2⟩ := guardS_some (show guardS lk S' (some ([], S')) = some (rest, Sf) from hcl)
      cases h2
      refine ⟨wk.stop i Hc μ' _ hil gc okc h1, ?_⟩
      rw [List.append_nil] at hout
      subst hout
      refine k2 _ Hc μ' (fp ++ [N]) ⟨sc, okc, ⟨N, vs, fp, rfl, hN, rs, rfl⟩, nd, fun a m => ?_⟩
      rcases List.mem_append.mp m with m | m
      · exact (nw a m).1
      · have : a = N := by simpa using m
        subst this; exact hHN
    · right
      have hil' : i < its.length := by omega
      rw [List.drop_eq_getElem_cons hil'] at hcl
      obtain ⟨hst, hcl2⟩ := guardS_some (show guardS lk S' (bndN (f its[i] S') fun x S => (compL lk f (its.drop (i + 1)) S).map fun r => (match x with | some y => y :: r.1 | none => r.1, r.2)) = some (rest, Sf) from hcl)
      obtain ⟨jgo, jit⟩ := wk.item i its[i] Hc μ' S' (List.getElem?_eq_getElem hil') gc okc hst
      refine ⟨jgo, fun H' => LcI (tOf X C) Gw H μ H1 N lk f its out Sf (i + 1) (m - 1) H', fun H' h => ⟨m - 1, by omega, h⟩, fun v H' yl => ?_⟩
      obtain ⟨sm, f1, r1, nd1, nw1, g1⟩ := jit v H' yl
      rw [← hf] at hcl2
      cases est : setTg tg its[i] ρ S' with
      | none => simp only [est, bndN_none] at hcl2; cases hcl2
      | some q =>
        obtain ⟨ρ2, S2⟩ := q
        simp only [est] at hcl2
        rw [hf] at hcl2
        have hN' : H' N = some (.lst vs) := sm N _ hN
        have nf1 : ∀ a ∈ f1, a ∉ fp ++ [N] := fun a m m2 => by
          obtain ⟨_, o, ho⟩ := nw1 a m
          rcases List.mem_append.mp m2 with m2 | m2
          · rw [(nw a m2).2] at ho; cases ho
          · have : a = N := by simpa using m2
            subst this; rw [nN] at ho; cases ho
        have nda : ((μ' ++ f1) ++ (fp ++ [N])).Nodup := by
          obtain ⟨n1, n2, n3⟩ := List.nodup_append.mp nd
          refine List.nodup_append.mpr ⟨nd1, n2, fun a ha b hb e => ?_⟩
          subst e
          rcases List.mem_append.mp ha with ha | ha
          · exact n3 a ha a hb rfl
          · exact nf1 a ha hb
        have kf1 : Kinds H' f1 := Rep.kinds _ _ _ r1
        have sca : Stp H μ H' (μ' ++ f1) := Stp.own (own := []) (sc.trans (Same.stp sm)) fun a m => (nw1 a m).1
        have rsa : Reps (tOf X C) H' (μ' ++ f1) acc vs fp := Reps.widen kf1 _ _ _ (Reps.same sm _ _ _ rs)
        have nNa : N ∉ μ' ++ f1 := fun m => nd_out nda N (by simp) m
        have env' : EnvOk (tOf X C) H' μ' (L2.wipe σ (tgIs tg)) (wipeE ρ (tgIs tg)) := (env.keep st.kinds (sc.trans (Same.stp sm))).wipe _
        refine setTg_ok env' (StOk.same sm okc) r1 nd1 (by rw [setTg_wipe]; exact est) fun σ2 env2 ok2 hw => ⟨?_, ?_⟩
        · rw [hw (tgIs tg) fun _ m => m]
          have wipe_idem : ∀ vs : List Nat, ∀ ws : List Nat, (∀ v ∈ ws, v ∈ vs) → L2.wipe (L2.wipe σ ws) vs = L2.wipe σ vs := fun vs ws => by
            induction ws with
            | nil => intro _; rfl
            | cons w ws ih =>
              intro h
              rw [← ih fun v m => h v (List.mem_cons_of_mem _ m)]
              exact wipe_set (h w List.mem_cons_self)
          exact wipe_idem _ _ fun _ m => m
        cases eif : evalIfs g ifs ρ2 S2 with
        | none => rw [eif] at hcl2; simp only [bnd_none, bndN_none] at hcl2; cases hcl2
        | some rb =>
          cases rb with
          | ex c3 S3 => rw [eif] at hcl2; simp only [bnd_ex, bndN_ex] at hcl2; cases hcl2
          | ok b S3 =>
            rw [eif] at hcl2
            simp only [bnd_ok] at hcl2
            refine ⟨ρ2, S2, μ' ++ f1, env2, ok2, ?_⟩
            rw [eif]
            intro H3 μ3 s3 ok3
            have hN3 : H3 N = some (.lst vs) := s3.fr _ _ hN' nNa
            have nN3 : N ∉ μ3 := (s3.out N _ hN' nNa).1
            have g3 : Gw (i + 1) H3 μ3 := wk.keep _ _ _ _ _ g1 ok2.kinds s3 ok3.nd
            cases b with
            | false =>
              rw [if_neg (by decide)]
              simp only [Bool.false_eq_true, if_false, bndN_ok] at hcl2
              obtain ⟨⟨rest', Sf'⟩, ec, er⟩ := Option.map_eq_some_iff.mp hcl2
              cases er
              refine ⟨by omega, S3, μ3, acc, vs, fp, rest', ok3, sca.trans s3, g3, hN3, Reps.keep ok2.kinds s3 _ _ _ rsa fun a m => nd_out nda a (List.mem_append_left _ m), ?_, nw, fun b o e => ?_, by omega, ec, hout⟩
              · have := nd_step (f2 := []) s3 nda (by simpa using ok3.nd) (fun a m => (List.mem_append.mp m).elim (Reps.there _ _ _ rsa a) fun m => by
                  have : a = N := by simpa using m
                  subst this; exact ⟨_, hN'⟩) (by simp)
                simpa using this
              · obtain ⟨o1, e1⟩ := dm b o e
                exact s3.dom b o1 (sm _ _ e1)
            | true =>
              rw [if_pos rfl]
              simp only [if_true] at hcl2
              cases eel : evalE g elt ρ2 S3 with
              | none => rw [eel] at hcl2; simp only [bnd_none, bndN_none] at hcl2; cases hcl2
              | some rx =>
                cases rx with
                | ex c4 S4 => rw [eel] at hcl2; simp only [bnd_ex, bndN_ex] at hcl2; cases hcl2
                | ok x S4 =>
                  rw [eel] at hcl2
                  simp only [bnd_ok, bndN_ok] at hcl2
                  obtain ⟨⟨rest', Sf'⟩, ec, er⟩ := Option.map_eq_some_iff.mp hcl2
                  cases er
                  refine ⟨ρ2, S3, μ3, env2.keep ok2.kinds s3, ok3, ?_⟩
                  rw [eel]
                  intro w H4 μ4 f4 p4
                  have s34 := s3.trans p4.stp
                  have hN4 : H4 N = some (.lst vs) := p4.stp.fr _ _ hN3 nN3
                  have nN4 : N ∉ μ4 := (p4.stp.out N _ hN3 nN3).1
                  have there : ∀ a ∈ fp ++ [N], ∃ o, H' a = some o := fun a m => (List.mem_append.mp m).elim (Reps.there _ _ _ rsa a) fun m => by
                    have : a = N := by simpa using m
                    subst this; exact ⟨_, hN'⟩
                  have nd4 : (μ4 ++ ((fp ++ [N]) ++ f4)).Nodup := nd_step s34 nda p4.nd there fun a m => s3.free (p4.new a m)
                  have nd5 : (μ4 ++ ((fp ++ f4) ++ [N])).Nodup := by
                    refine (List.Perm.nodup_iff (List.Perm.append_left μ4 ?_)).mp nd4
                    rw [List.append_assoc, List.append_assoc]
                    exact List.Perm.append_left fp List.perm_append_comm
                  have nNf : N ∉ fp ++ f4 := fun m => by
                    obtain ⟨_, n2, _⟩ := List.nodup_append.mp nd5
                    exact (List.nodup_append.mp n2).2.2 N m N (by simp) rfl
                  have rs4 : Reps (tOf X C) H4 μ4 acc vs fp := Reps.keep ok2.kinds s34 _ _ _ rsa fun a m => nd_out nda a (List.mem_append_left _ m)
                  have hsz : vs.length < sizeLine := by
                    have := Reps.len _ _ _ rs4
                    have := bg.len
                    omega
                  refine ⟨vs, hN4, hsz, by omega, S4, μ4, acc ++ [x], vs ++ [w], fp ++ f4, rest', StOk.upd1 p4.ok hN4 nN4, ?_, ?_, upd_same, ?_, nd5, fun a m => ?_, fun b o e => ?_, ?_, ec, by rw [hout]; simp⟩
                  · have s0 := sca.trans s34
                    refine ⟨s0.ext, fun b o e nb => ?_, fun b o e => ?_⟩
                    · rw [upd_ne (ne_of_none e hHN)]; exact s0.fr b o e nb
                    · rw [upd_ne (ne_of_none e hHN)]; exact s0.dom b o e
                  · exact gup _ _ _ _ _ (wk.keep _ _ _ _ _ g3 ok3.kinds p4.stp p4.ok.nd) nN4 hN4
                  · refine Reps.upd1 hN4 (Reps.append _ _ _ _ _ _ rs4 ⟨w, [], f4, [], rfl, p4.rep, ⟨rfl, rfl⟩, by simp⟩) nNf
                  · rcases List.mem_append.mp m with m | m
                    · exact nw a m
                    · have n4 : H' a = none := s3.free (p4.new a m)
                      refine ⟨sca.free n4, ?_⟩
                      cases e : H1 a with
                      | none => rfl
                      | some o =>
                        obtain ⟨o1, e1⟩ := dm a o e
                        rw [sm _ _ e1] at n4; cases n4
                  · by_cases hb : b = N
                    · subst hb; exact ⟨_, upd_same⟩
                    · rw [upd_ne hb]
                      obtain ⟨o1, e1⟩ := dm b o e
                      exact s34.dom b o1 (sm _ _ e1)
                  · rw [List.length_append]; show acc.length + 1 ≤ i + 1; omega
theorem s_comp {tg : Tg} {k : ItK} {es ifs : List PE} {elt : PE} {y tgx iter : Expr} {ifsx : List Expr} {scope : Scope} {p : Pos} (G : Good C W n g cc X)
    (hi : PI X tgx iter (tIt (tOf X C) W g k es)) (hs : noSet iter = true) (ht : chkTg { cc with sc := scope } tg tgx = true) (ho : (ownOf tg tgx).map (·.2) = tgIs tg) (hb : blkC cc.N cc.sc scope (ownOf tg tgx) = true)
    (hif : ∀ (s : Shared) (H : Hp) (A : Addr) (cl : List (Str × Addr)) (fp : List Addr), PTs (X.blk s H scope (compEnvC scope cl A X.env) fp) ifsx (tEvI (tOf X C) W0 g ifs))
    (he : ∀ (s : Shared) (H : Hp) (A : Addr) (cl : List (Str × Addr)) (fp : List Addr), L2.PE (X.blk s H scope (compEnvC scope cl A X.env) fp) y (tEv (tOf X C) W0 g elt)) :
    L2.PE X (.ListComp y [⟨tgx, iter, ifsx, 0⟩] scope p) (tEv (tOf X C) W g (.comp tg k es ifs elt)) := by
  have hg : ∀ (s : Shared) (H : Hp) (A : Addr) (cl : List (Str × Addr)) (fp : List Addr), PG (X.blk s H scope (compEnvC scope cl A X.env) fp) tgx (gTg (tOf X C) tg) := fun s H A cl fp => pg_tg (G.blk scope s H A cl fp) ht
  exact PE.mono (pe_lc G.calm (by rw [G.hN]; exact G.nd) hi (lc_blk G hb) hg hif he (folded hs)) fun σ H Q h => lc_read ho h
/-- name = [..] -/
theorem s_setC {i : Nat} {nm : Str} {py spos : Pos} {tg : Tg} {k : ItK} {es ifs : List PE} {elt : PE} {y tgx iter : Expr} {ifsx : List Expr} {scope : Scope} {p : Pos} (G : Good C W n g cc X) (hn : chkNm cc i (.Name nm py) = true)
    (hi : PI X tgx iter (tIt (tOf X C) W g k es)) (hs : noSet iter = true) (ht : chkTg { cc with sc := scope } tg tgx = true) (ho : (ownOf tg tgx).map (·.2) = tgIs tg) (hb : blkC cc.N cc.sc scope (ownOf tg tgx) = true)
    (hif : ∀ (s : Shared) (H : Hp) (A : Addr) (cl : List (Str × Addr)) (fp : List Addr), PTs (X.blk s H scope (compEnvC scope cl A X.env) fp) ifsx (tEvI (tOf X C) W0 g ifs))
    (he : ∀ (s : Shared) (H : Hp) (A : Addr) (cl : List (Str × Addr)) (fp : List Addr), L2.PE (X.blk s H scope (compEnvC scope cl A X.env) fp) y (tEv (tOf X C) W0 g elt)) :
    L2.PS X (.Assign [.Name nm py] (.ListComp y [⟨tgx, iter, ifsx, 0⟩] scope p) spos) (tAsg (tEv (tOf X C) W g (.comp tg k es ifs elt)) (gName i)) := by
  have hg : ∀ (s : Shared) (H : Hp) (A : Addr) (cl : List (Str × Addr)) (fp : List Addr), PG (X.blk s H scope (compEnvC scope cl A X.env) fp) tgx (gTg (tOf X C) tg) := fun s H A cl fp => pg_tg (G.blk scope s H A cl fp) ht
  obtain ⟨h1, h2⟩ := Bool.and_eq_true_iff.mp (show (decide (cc.N[i]? = some nm) && loc cc.sc nm) = true from hn)
  have h1' : X.N[i]? = some nm := by rw [G.hN]; exact of_decide_eq_true h1
  have hN : X.N.Nodup := by rw [G.hN]; exact G.nd
  cases hsw : (X.env.blockKind == .function && X.env.kindOf nm == some .local && py.line == p.line && !(scope.names.any fun (n, k) => n == nm && (k == .local || k == .cell))) with
  | true =>
    have hl : X.env.scope.names.lookup nm = some .local := by
      simp only [Bool.and_eq_true] at hsw
      exact eq_of_beq hsw.1.1.2
    have sw : swapsWith (.ListComp y [⟨tgx, iter, ifsx, 0⟩] scope p) (some (.Name nm py)) spos.line X.env = pure true := by
      show (pure (X.env.blockKind == .function && X.env.kindOf nm == some .local && py.line == p.line && !(scope.names.any fun (n, k) => n == nm && (k == .local || k == .cell))) : Sem Bool) = pure true
      rw [hsw]
    have base := ps_setLc (py := py) (spos := spos) (pos := p) G.calm hN h1' hl sw hi (lc_blk G hb) hg hif he (folded hs)
    exact ⟨fun pins s σ H D I h => base.run pins s σ H D I (lc_read ho h)⟩
  | false =>
    have sw : swapsWith (.ListComp y [⟨tgx, iter, ifsx, 0⟩] scope p) (some (.Name nm py)) spos.line X.env = pure false := by
      show (pure (X.env.blockKind == .function && X.env.kindOf nm == some .local && py.line == p.line && !(scope.names.any fun (n, k) => n == nm && (k == .local || k == .cell))) : Sem Bool) = pure false
      rw [hsw]
    exact ps_set hN h1' (G.sc.loc h2) (s_comp G hi hs ht ho hb hif he) sw (G.fn nm h2)
end
end Ev
end
section
set_option Elab.async false
set_option linter.all false
set_option maxRecDepth 100000
namespace Ev
open PySem PySem.Spec PyProof.Rows L2 PySem.SeqAt
theorem all2_get {α β : Type} {f : α → β → Bool} : ∀ (as : List α) (bs : List β), all2 f as bs = true → ∀ (i : Nat) a b, as[i]? = some a → bs[i]? = some b → f a b = true
  | [], [], _, i, a, b, h, _ => by simp at h
  | [], _ :: _, h, _, _, _, _, _ => by cases h
  | _ :: _, [], h, _, _, _, _, _ => by cases h
  | x :: as, y :: bs, h, i, a, b, h1, h2 => by
    obtain ⟨q1, q2⟩ := Bool.and_eq_true_iff.mp (show (f x y && all2 f as bs) = true from h)
    cases i with
    | zero => simp at h1 h2; subst h1; subst h2; exact q1
    | succ j => exact all2_get as bs q2 j a b (by simpa using h1) (by simpa using h2)
theorem all2_true {α β : Type} {f : α → β → Bool} : ∀ (as : List α) (bs : List β), all2 f as bs = true → all2 (fun _ _ => decide True) as bs = true
  | [], [], _ => rfl
  | [], _ :: _, h => by cases h
  | _ :: _, [], h => by cases h
  | x :: as, y :: bs, h => by
    obtain ⟨q1, q2⟩ := Bool.and_eq_true_iff.mp (show (f x y && all2 f as bs) = true from h)
    show (decide True && all2 _ as bs) = true
    rw [all2_true as bs q2]; rfl
theorem all2_len {α β : Type} {f : α → β → Bool} : ∀ (as : List α) (bs : List β), all2 f as bs = true → as.length = bs.length
  | [], [], _ => rfl
  | [], _ :: _, h => by cases h
  | _ :: _, [], h => by cases h
  | x :: as, y :: bs, h => by
    obtain ⟨q1, q2⟩ := Bool.and_eq_true_iff.mp (show (f x y && all2 f as bs) = true from h)
    rw [List.length_cons, List.length_cons, all2_len as bs q2]
structure EOk (C : Nat → Addr) (W : WX) (g : G) (X : Cx) (e : PE) (x : Expr) : Prop where
  pe : L2.PE X x (tEv (tOf X C) W g e)
  pt : PT X x (tEvT (tOf X C) W g e)
  pw : ∀ o xs q, x = .BoolOp o xs q → PW X x (tEvT (tOf X C) W g e)
section
variable {X : Cx} {C : Nat → Addr} {W : WX} {n m : Nat} {g : G} {cc : CC} {a b c e : PE} {x y z : Expr} {p : Pos} {es : List PE} {xs : List Expr}
theorem EOk.of (h : L2.PE X x (tEv (tOf X C) W g e)) (hp : plainTest x = true) : EOk C W g X e x := ⟨h, tst_plain h hp, fun o xs q e => by subst e; cases hp⟩
theorem EOk.cmp {ops ys} (h : L2.PE X (.Compare x ops ys p) (tEv (tOf X C) W g e)) (ht : PT X (.Compare x ops ys p) (tEvT (tOf X C) W g e)) : EOk C W g X e (.Compare x ops ys p) := ⟨h, ht, fun o xs q e => nomatch e⟩
theorem tst_ife (hc : PT X z (tEvT (tOf X C) W g c)) (ha : PT X x (tEvT (tOf X C) W g a)) (hb : PT X y (tEvT (tOf X C) W g b)) : PT X (.IfExp z x y p) (tEvT (tOf X C) W g (.ife c a b)) := by
  refine ⟨fun pins s σ H Q I ⟨ρ, S, μ, env, st, h⟩ => ?_⟩
  have e1 : isTrue (.IfExp z x y p) X.env (eval (.IfExp z x y p) X.env) = (do if ← isTrue z X.env (eval z X.env) then isTrue x X.env (eval x X.env) else isTrue y X.env (eval y X.env)) := by
    simp only [PySem.isTrue]
  rw [e1]
  have h := h.test
  unfold evalE at h
  have h2 : Ran (tOf X C) W σ H μ (testE (evalE g c ρ S)) fun t S1 => Ran (tOf X C) W σ H μ (testE (evalE g (if t = true then a else b) ρ S1)) (FinB (tOf X C) H μ Q) := by
    refine h.tests.imp fun t S1 _ k => ?_
    cases t with
    | true => rw [if_pos rfl] at k ⊢; exact Ran.to_test k
    | false => rw [if_neg (by decide)] at k ⊢; exact Ran.to_test k
  have h3 : tEvT (tOf X C) W g c σ H fun t H1 => tEvT (tOf X C) W g (if t = true then a else b) σ H1 Q := evT1 env st h2 fun t S1 H1 μ1 s ok k => ⟨ρ, S1, μ1, env.keep st.kinds s, ok, (k.on s).imp fun b S2 _ k2 H2 μ2 s2 ok2 => k2 H2 μ2 (s.trans s2) ok2⟩
  refine wpAny_bind (thn (hc.run pins s σ H _ I h3) fun t s1 ⟨H1, I1, q1⟩ => ?_)
  cases t with
  | true => exact ha.run pins s1 σ H1 Q I1 q1
  | false => exact hb.run pins s1 σ H1 Q I1 q1
theorem s_const {d : D} {k : Const} {j : Nat} (h : cstOk d k = true) : ∃ v, L2.PE X (.Constant k j p) (tC v) ∧ scalV d v := by
  cases d <;> cases k <;> first
    | exact ⟨_, pe_non, rfl⟩
    | (cases h; done)
    | (have h' := eq_of_beq h; subst h'; exact ⟨_, pe_bl, rfl⟩)
    | (have h' := of_decide_eq_true h; subst h'; exact ⟨_, pe_int, rfl⟩)
    | (have h' := of_decide_eq_true h; subst h'; exact ⟨_, pe_str, rfl⟩)
end
def Ih (C : Nat → Addr) (g : G) (m n : Nat) : Prop := ∀ (W : WX) (cc : CC) (X : Cx), Good C W n g cc X → ∀ (e : PE) (x : Expr), chkE m cc e x = true → EOk C W g X e x
section
variable {X : Cx} {C : Nat → Addr} {W : WX} {n m : Nat} {g : G} {cc : CC} {a b c e : PE} {x y z : Expr} {p : Pos} {es : List PE} {xs : List Expr}
theorem Ih.pas (ih : Ih C g m n) (G : Good C W n g cc X) (h : all2 (chkE m cc) es xs = true) (hs : xs.all noStar = true) : PA X xs (tEvs (tOf X C) W g es) :=
  Ev.pas es xs (all2_true es xs h) (fun i e x h1 h2 => (ih _ _ _ G e x (all2_get es xs h i e x h1 h2)).pe) hs
theorem Ih.pi (ih : Ih C g m n) (G : Good C W n g cc X) {k : ItK} {tgx iter : Expr} (h : chkI m cc k es tgx iter = true) : PI X tgx iter (tIt (tOf X C) W g k es) := by
  unfold chkI at h
  split at h
  · exact pi_val (ih _ _ _ G _ _ h).pe
  · simp only [Bool.and_eq_true, decide_eq_true_eq] at h
    obtain ⟨⟨⟨rfl, h2⟩, h3⟩, h4⟩ := h
    obtain ⟨g1, g2, g3⟩ := G.gl h2
    exact pi_rng1 g1 (G.free _ (by decide +kernel)) h4 (ih.pas G (by simp [all2, h3]) (by simp [h4]))
  · simp only [Bool.and_eq_true, decide_eq_true_eq] at h
    obtain ⟨⟨⟨⟨⟨rfl, h2⟩, h3⟩, h4⟩, h5⟩, h6⟩ := h
    obtain ⟨g1, g2, g3⟩ := G.gl h2
    exact pi_rng2 g1 (G.free _ (by decide +kernel)) h4 h6 (ih.pas G (by simp [all2, h3, h5]) (by simp [h4, h6]))
  · simp only [Bool.and_eq_true, decide_eq_true_eq] at h
    obtain ⟨⟨⟨⟨⟨⟨rfl, h2⟩, h3⟩, h4⟩, h5⟩, h6⟩, h7⟩ := h
    obtain ⟨g1, g2, g3⟩ := G.gl h2
    cases tgx with
    | Tuple elts kk tpos => exact pi_zipD g1 (G.free _ (by decide +kernel)) h4 h6 (ih.pas G (by simp [all2, h3, h5]) (by simp [h4, h6]))
    | _ => cases h7
  · cases h
theorem main_e (C : Nat → Addr) (g : G) (n : Nat) : ∀ m, Ih C g m n
  | 0 => fun _ _ _ _ _ _ h => by cases h
  | m + 1 => fun W cc X G e x h => by
    have ih : Ih C g m n := main_e C g n m
    unfold chkE at h
    split at h
    all_goals try (have q := Nat.succ.inj ‹m + 1 = _ + 1›; subst q)
    · cases h
    · -- var
      simp only [Bool.and_eq_true, decide_eq_true_eq] at h
      obtain ⟨⟨⟨h1, h2⟩, h3⟩, h4⟩ := h
      exact .of (s_var (by rw [G.hN]; exact h1) (G.sc.vis h2) (beq_eq_false_iff_ne.mpr h3) (beq_eq_false_iff_ne.mpr h4)) rfl
    · obtain ⟨v, h1, h2⟩ := s_const (X := X) h
      exact .of (s_val h1 h2) rfl
    · simp only [Bool.and_eq_true] at h
      obtain ⟨h1, h2⟩ := h
      obtain ⟨g1, g2, g3⟩ := G.gl h1
      split at h2
      · rename_i d' hd
        have := scEq_ok h2
        subst this
        obtain ⟨u, v, e1, e2, e3⟩ := G.con _ _ hd
        exact .of (s_val (pe_glob g1 e1 e2 g2) e3) rfl
      · cases h2
    · simp only [Bool.and_eq_true, decide_eq_true_eq] at h
      obtain ⟨⟨h1, h2⟩, h3⟩ := h
      exact .of (s_tup (ih.pas G h1 h2) h3 (all2_len _ _ h1).symm) rfl
    · simp only [Bool.and_eq_true, decide_eq_true_eq] at h
      obtain ⟨⟨h1, h2⟩, h3⟩ := h
      exact .of (s_lst (ih.pas G h1 h2) h3 (all2_len _ _ h1).symm) rfl
    · exact .of s_dct0 rfl
    · simp only [Bool.and_eq_true, decide_eq_true_eq] at h
      obtain ⟨⟨rfl, h1⟩, h2⟩ := h
      exact .of (s_bin (ih _ _ _ G _ _ h1).pe (ih _ _ _ G _ _ h2).pe) rfl
    · exact .of (s_neg (ih _ _ _ G _ _ h).pe) rfl
    · exact ⟨s_not (ih _ _ _ G _ _ h).pe, tst_not (ih _ _ _ G _ _ h).pt, fun _ _ _ e => nomatch e⟩
    · -- and
      simp only [Bool.and_eq_true] at h
      obtain ⟨h1, h2⟩ := h
      have hx := ih _ _ _ G _ _ h1
      split at h2
      · have hy := ih _ _ _ G _ _ h2
        have w := tst_and (p := ‹Pos›) hx.pt (pw_and1 hy.pt)
        exact ⟨s_and hx.pe (pe_one hy.pe), w.pt, fun _ _ _ _ => w⟩
      · have hy := ih _ _ _ G _ _ h2
        have w := tst_and hx.pt (hy.pw _ _ _ rfl)
        exact ⟨s_and hx.pe hy.pe, w.pt, fun _ _ _ _ => w⟩
    · simp only [Bool.and_eq_true] at h
      obtain ⟨h1, h2⟩ := h
      have hx := ih _ _ _ G _ _ h1
      split at h2
      · have hy := ih _ _ _ G _ _ h2
        have w := tst_or (p := ‹Pos›) hx.pt (pw_or1 hy.pt)
        exact ⟨s_or hx.pe (pe_one hy.pe), w.pt, fun _ _ _ _ => w⟩
      · have hy := ih _ _ _ G _ _ h2
        have w := tst_or hx.pt (hy.pw _ _ _ rfl)
        exact ⟨s_or hx.pe hy.pe, w.pt, fun _ _ _ _ => w⟩
    · simp only [Bool.and_eq_true, decide_eq_true_eq] at h
      obtain ⟨⟨⟨rfl, h1⟩, h2⟩, h3⟩ := h
      exact .cmp (s_cmp G.units (ih _ _ _ G _ _ h1).pe (ih _ _ _ G _ _ h2).pe h3) (tst_cmp G.units (ih _ _ _ G _ _ h1).pe (ih _ _ _ G _ _ h2).pe h3)
    · simp only [Bool.and_eq_true, decide_eq_true_eq] at h
      obtain ⟨⟨⟨⟨⟨rfl, rfl⟩, h1⟩, h2⟩, h3⟩, h4⟩ := h
      exact .cmp (s_cmp2 G.units (ih _ _ _ G _ _ h1).pe (ih _ _ _ G _ _ h2).pe (ih _ _ _ G _ _ h3).pe h4) (tst_cmp2 G.units (ih _ _ _ G _ _ h1).pe (ih _ _ _ G _ _ h2).pe (ih _ _ _ G _ _ h3).pe h4)
    · simp only [Bool.and_eq_true, decide_eq_true_eq] at h
      obtain ⟨⟨rfl, h1⟩, h2⟩ := h
      obtain ⟨v, c1, c2⟩ := s_const (X := X) h2
      exact .cmp (s_is (ih _ _ _ G _ _ h1).pe c1 c2 rfl) (tst_is (ih _ _ _ G _ _ h1).pe c1 c2 rfl)
    · simp only [Bool.and_eq_true] at h
      obtain ⟨⟨h1, h2⟩, h3⟩ := h
      exact ⟨s_ife (ih _ _ _ G _ _ h1).pt (ih _ _ _ G _ _ h2).pe (ih _ _ _ G _ _ h3).pe, tst_ife (ih _ _ _ G _ _ h1).pt (ih _ _ _ G _ _ h2).pt (ih _ _ _ G _ _ h3).pt, fun _ _ _ e => nomatch e⟩
    · simp only [Bool.and_eq_true] at h
      obtain ⟨⟨h1, h2⟩, h3⟩ := h
      exact .of (s_idx G.units (ih _ _ _ G _ _ h1).pe (ih _ _ _ G _ _ h2).pe h3) rfl
    · -- slice
      simp only [Bool.and_eq_true] at h
      obtain ⟨⟨h1, h2⟩, h3⟩ := h
      refine .of (s_sl (ih _ _ _ G _ _ h1).pe ?_ ?_) rfl
      · split at h2
        · exact po_so (ih _ _ _ G _ _ h2).pe
        · split at h2
          · exact po_no
          · cases h2
      · split at h3
        · exact po_so (ih _ _ _ G _ _ h3).pe
        · split at h3
          · exact po_no
          · cases h3
    · simp only [Bool.and_eq_true, decide_eq_true_eq] at h
      obtain ⟨⟨⟨h1, h2⟩, h3⟩, h4⟩ := h
      exact .of (s_call G h1 h2 (ih.pas G h3 h4) h4) rfl
    · simp only [Bool.and_eq_true, decide_eq_true_eq] at h
      obtain ⟨⟨⟨h1, rfl⟩, h3⟩, h4⟩ := h
      exact .of (s_blt G h1 (ih.pas G h3 h4) h4) rfl
    · simp only [Bool.and_eq_true, decide_eq_true_eq] at h
      obtain ⟨⟨⟨⟨⟨⟨rfl, h1⟩, h2⟩, h3⟩, h4⟩, h5⟩, h6⟩ := h
      exact .of (s_mth G (ih _ _ _ G _ _ h1).pe (ih.pas G h2 h3) h3 (all2_len _ _ h2) h4 h5 h6) rfl
    · -- isinstance
      simp only [Bool.and_eq_true, decide_eq_true_eq] at h
      obtain ⟨⟨⟨⟨⟨h1, rfl⟩, h2⟩, h3⟩, h4⟩, h5⟩ := h
      unfold chkTs at h5
      split at h5
      · simp only [Bool.and_eq_true, decide_eq_true_eq] at h5
        obtain ⟨⟨k1, k2⟩, k3⟩ := h5
        exact .of (s_isi G h1 (by intro e; subst e; cases k1) (ih _ _ _ G _ _ h2).pe h3 h4 (.inr ⟨_, _, _, rfl, k2, k3⟩)) rfl
      · exact .of (s_isi G h1 (by simp) (ih _ _ _ G _ _ h2).pe h3 h4 (.inl ⟨_, rfl, h5⟩)) rfl
      · cases h5
    · -- comprehension
      simp only [Bool.and_eq_true, decide_eq_true_eq] at h
      obtain ⟨⟨⟨⟨⟨⟨h1, h2⟩, h3⟩, h4⟩, h5⟩, h6⟩, h7⟩ := h
      refine .of (s_comp G (ih.pi G (by unfold chkI; exact h1)) h2 h3 h4 h5 (fun s H A cl fp => ?_) fun s H A cl fp => (ih _ _ _ (G.blk _ s H A cl fp) _ _ h7).pe) rfl
      split at h6
      · exact ifs_nil
      · exact ifs_one (ih _ _ _ (G.blk _ s H A cl fp) _ _ h6).pt
      · cases h6
    · cases h
end
end Ev
end
section
set_option Elab.async false
set_option linter.all false
set_option maxRecDepth 100000
namespace Ev
open PySem PySem.Spec PyProof.Rows L2 PySem.SeqAt
section
variable {T : Pgm} {H : Hp} {μ : List Addr} {S : Sto}
theorem Reps.set : ∀ (ds : List D) (vs : List V) (k : Nat) (d : D) (v : V), Reps T H μ ds vs [] → Rep T H μ d v [] → Reps T H μ (ds.set k d) (vs.set k v) []
  | [], _, _, _, _, h, _ => by obtain ⟨rfl, _⟩ := h; exact ⟨rfl, rfl⟩
  | x :: ds, _, k, d, v, h, r => by
    obtain ⟨w, us, f1, f2, rfl, h1, h2, e⟩ := h
    obtain ⟨rfl, rfl⟩ := List.append_eq_nil_iff.mp e.symm
    cases k with
    | zero => exact ⟨v, us, [], [], rfl, r, h2, rfl⟩
    | succ k => exact ⟨w, us.set k v, [], [], rfl, h1, Reps.set ds us k d v h2 r, rfl⟩
theorem map_put {k : Key} {y : V} : ∀ (kvs : List (Key × V)), (kvs.map (·.1)).Nodup → ∀ j, (kvs.findIdx? fun p => decide (p.1 = k)) = some j →
    (kvs.map fun kv => if kv.1 = k then (kv.1, y) else kv).map (·.2) = (kvs.map (·.2)).set j y ∧ (kvs.map fun kv => if kv.1 = k then (kv.1, y) else kv).map (·.1) = kvs.map (·.1)
  | [], _, j, h => by simp at h
  | p :: r, nd, j, h => by
    rw [List.map_cons, List.nodup_cons] at nd
    rw [List.findIdx?_cons] at h
    by_cases e : p.1 = k
    · simp only [e, decide_true, if_true] at h
      cases h
      have id : (r.map fun kv => if kv.1 = k then (kv.1, y) else kv) = r := by
        conv => rhs; rw [← List.map_id r]
        refine List.map_congr_left fun kv m => ?_
        rw [if_neg fun q => nd.1 (by rw [e, ← q]; exact List.mem_map_of_mem m)]; rfl
      rw [List.map_cons, if_pos e, id]
      exact ⟨by simp, by simp⟩
    · have h' : (r.findIdx? fun p => decide (p.1 = k)).map (· + 1) = some j := by simpa [e] using h
      obtain ⟨j', h1, rfl⟩ := Option.map_eq_some_iff.mp h'
      obtain ⟨a, b⟩ := map_put r nd.2 j' h1
      rw [List.map_cons, if_neg e]
      exact ⟨by rw [List.map_cons, a]; rfl, by rw [List.map_cons, b]; rfl⟩
theorem put_key {a : Addr} {ks vs : List D} {kvs : List (Key × V)} {k : Key} {z : D} {y : V} (nd : (kvs.map (·.1)).Nodup) (ek : ks = kvs.map fun p => keyD p.1) (r : Reps T H μ vs (kvs.map (·.2)) []) (rz : Rep T H μ z y []) :
    (putK ks vs (keyD k) z).1 = (L2.putK kvs k y).map (fun p => keyD p.1) ∧ Reps T H μ (putK ks vs (keyD k) z).2 ((L2.putK kvs k y).map (·.2)) [] ∧ ((L2.putK kvs k y).map (·.1)).Nodup := by
  subst ek
  unfold putK
  rw [find_key]
  cases hf : kvs.findIdx? fun p => decide (p.1 = k) with
  | none =>
    have hv : valV kvs k = none := by
      have := findIdx_val k kvs
      rw [hf] at this
      cases h : valV kvs k with
      | none => rfl
      | some _ => rw [h] at this; cases this
    rw [putK_new y hv]
    have nk : k ∉ kvs.map (·.1) := fun m => by
      obtain ⟨p, pm, pe⟩ := List.mem_map.mp m
      have := List.findIdx?_eq_none_iff.mp hf p pm
      simp [pe] at this
    refine ⟨by simp, ?_, ?_⟩
    · rw [List.map_append]
      have := Reps.append _ _ _ _ _ _ r (show Reps T H μ [z] [y] [] from ⟨y, [], [], [], rfl, rz, ⟨rfl, rfl⟩, rfl⟩)
      simpa using this
    · rw [List.map_append]
      refine List.nodup_append.mpr ⟨nd, by simp, fun a ha b hb e => ?_⟩
      have : b = k := by simpa using hb
      subst this; subst e; exact nk ha
  | some j =>
    obtain ⟨m1, m2⟩ := map_put (y := y) kvs nd j hf
    have ha : (kvs.any fun kv => decide (kv.1 = k)) = true := by
      rw [valV_any, ← findIdx_val, hf]; rfl
    have e : L2.putK kvs k y = kvs.map fun kv => if kv.1 = k then (kv.1, y) else kv := by
      unfold L2.putK
      rw [if_pos ha]
    rw [e]
    refine ⟨?_, ?_, ?_⟩
    · show kvs.map (fun p => keyD p.1) = _
      have : ∀ l : List (Key × V), l.map (fun p => keyD p.1) = (l.map (·.1)).map keyD := fun l => by rw [List.map_map]; rfl
      rw [this, this, m2]
    · rw [m1]; exact Reps.set _ _ _ _ _ r rz
    · rw [m2]; exact nd
end
def rSetE (T : Pgm) : TSet := fun o i v H Q => ∃ dv d di S μ f1 f2 f3 S', Rep T H μ dv v f1 ∧ Rep T H μ d o f2 ∧ Rep T H μ di i f3 ∧ StOk T H μ S ∧ (μ ++ f1).Nodup ∧ setItE d di dv S = some S' ∧ ∀ H' μ', StpO f1 H μ H' μ' → StOk T H' μ' S' → Q H'
theorem set_d {X : Cx} {C : Nat → Addr} (hu : X.A.units + 1 < cLine) : PSet X (rSetE (tOf X C)) := by
  intro pins s σ H o i v ov iv u Q I ro ri rv ⟨dv, d, di, S, μ, f1, f2, f3, S', r1, r2, r3, ok, nd, e, q⟩
  unfold setItE at e
  split at e
  · rename_i n
    obtain ⟨a, rfl, hm, rfl⟩ := r2
    have ma : a ∈ μ := List.mem_of_getElem? hm
    obtain ⟨g1, g2⟩ := settle_ok dv v f1 μ S r1 ok nd
    have kf := Rep.kinds dv v f1 r1
    have hm' : (μ ++ f1)[n]? = some a := widen_g n a hm
    split at e
    · rename_i ds hS
      obtain ⟨vs, ha, rs⟩ := ok.at_ n _ a hS hm
      split at e
      · rename_i k
        obtain ⟨rfl, rfl⟩ := r3
        by_cases hk : 0 ≤ k ∧ k < ds.length
        case neg => simp only [if_neg hk] at e; cases e
        simp only [if_pos hk] at e
        cases e
        have hix : ixN vs.length k = some k.toNat := by
          unfold ixN
          rw [Reps.len _ _ _ rs, if_pos hk.1, if_pos hk.2]
        refine set_list pins s σ H _ _ v ov iv u Q I ro ri rv ⟨a, vs, k, k.toNat, rfl, rfl, ha, hix, ?_⟩
        exact q _ _ (StpO.put ma fun b hb => hb) (put_list g2 hm' (Reps.set _ _ _ _ _ (Reps.widen kf _ _ _ rs) g1))
      · cases e
    · rename_i ks vs hS
      obtain ⟨us, ⟨kvs, ha, ek, eu, ndk⟩, rs⟩ := ok.at_ n _ a hS hm
      split at e
      · rename_i hk
        obtain ⟨hk1, hk2⟩ := Bool.and_eq_true_iff.mp hk
        obtain ⟨key, rfl, rfl⟩ := keyV r3 hk1
        cases e
        have hlen : kvs.length < sizeLine := by
          have : ks.length < 16777216 := of_decide_eq_true hk2
          rw [ek, List.length_map] at this
          exact this
        refine set_dict hu pins s σ H _ _ v ov iv u Q I ro ri rv ⟨a, _, rfl, DPut.k ha hlen, ?_⟩
        subst eu
        obtain ⟨p1, p2, p3⟩ := put_key (k := key) (a := a) ndk ek (Reps.widen kf _ _ _ rs) g1
        have st : Stp H (μ ++ f1) (upd H a (.dK (L2.putK kvs key v))) (μ ++ f1) := Stp.put (List.mem_append_left _ ma)
        refine q _ _ (StpO.put ma fun b hb => hb) (g2.put hm' st (fun b hb => ?_) ⟨_, ⟨_, upd_same, p1, rfl, p3⟩, Reps.keep g2.kinds st _ _ _ p2 (by simp)⟩)
        have : b = a := by simpa using hb
        subst this; exact .inr ⟨_, upd_same⟩
      · cases e
    · cases e
  · cases e
end Ev
end
section
set_option Elab.async false
set_option linter.all false
set_option maxRecDepth 100000
namespace Ev
open PySem PySem.Spec PyProof.Rows L2 PySem.SeqAt
/-! ### statements: the reading -/
def FFin (T : Pgm) (W : WX) (H : Hp) (μ : List Addr) (D : Ends) : Option (Fl × Sto) → Prop
  | some (.nx ρ', S') => ∀ σ' H' μ', Stp H μ H' μ' → StOk T H' μ' S' → EnvOk T H' μ' σ' ρ' → D.nx σ' H'
  | some (.ret d, S') => ∀ v H' μ' fp, Pst T H μ d S' v H' μ' fp → D.rt v H'
  | some (.ex c, S') => ∀ σ' H' μ', Stp H μ H' μ' → StOk T H' μ' S' → W (.ref (T.C c)) none σ' H'
  | none => False
def tEvS (T : Pgm) (W : WX) (g : G) (s : PS) : TS := fun D σ H => ∃ ρ S μ, EnvOk T H μ σ ρ ∧ StOk T H μ S ∧ FFin T W H μ D (execS g s ρ S)
def tEvB (T : Pgm) (W : WX) (g : G) (s : List PS) : TS := fun D σ H => ∃ ρ S μ, EnvOk T H μ σ ρ ∧ StOk T H μ S ∧ FFin T W H μ D (execB g s ρ S)
section
variable {α : Type} {T : Pgm} {W : WX} {σ : Slots} {H H1 : Hp} {μ μ1 : List Addr} {D : Ends}
theorem FFin.bnd {m : Option (R α)} {f : α → Sto → Option (Fl × Sto)} (h : FFin T W H μ D (bndS m f)) : Ran T W σ H μ m fun a S => FFin T W H μ D (f a S) := by
  match m, h with
  | some (.ok a S), h => exact h
  | some (.ex c S), h => exact fun H' μ' s ok => h σ H' μ' s ok
theorem FFin.on {m : Option (Fl × Sto)} (s : Stp H μ H1 μ1) (h : FFin T W H μ D m) : FFin T W H1 μ1 D m := by
  match m, h with
  | some (.nx ρ', S'), h => exact fun σ' H' μ' s' => h σ' H' μ' (s.trans s')
  | some (.ret d, S'), h => exact fun v H' μ' fp p => h v H' μ' fp ⟨s.trans p.stp, p.ok, p.rep, p.nd, fun a m => s.free (p.new a m)⟩
  | some (.ex c, S'), h => exact fun σ' H' μ' s' => h σ' H' μ' (s.trans s')
theorem FFin.tests {m : Option (R Ev.D)} {f : Bool → Sto → Option (Fl × Sto)} (h : FFin T W H μ D (tests m f fun c S => some (.ex c, S))) : Ran T W σ H μ (testE m) fun b S => FFin T W H μ D (f b S) := by
  match m, h with
  | some (.ok d S), h =>
    have h' : FFin T W H μ D (match truth S d with | some b => f b S | none => none) := h
    show Ran T W σ H μ (match truth S d with | some b => some (.ok b S) | none => none) _
    cases e : truth S d with
    | none => rw [e] at h'; exact h'.elim
    | some b => rw [e] at h'; exact h'
  | some (.ex c S), h => exact fun H' μ' s ok => h σ H' μ' s ok
theorem FFin.guard {lk : Option (Nat × List Ev.D)} {S : Sto} {x : Option (Fl × Sto)} (h : FFin T W H μ D (guardS lk S x)) : stays lk S ∧ FFin T W H μ D x := by
  unfold guardS at h
  split at h
  · exact ⟨by assumption, h⟩
  · exact h.elim
/-- a value goes into a target -/
theorem FFin.tg {tg : Tg} {d : Ev.D} {v : V} {fp : List Addr} {S1 : Sto} {ρ : Env} (env : EnvOk T H μ σ ρ) (st : Kinds H μ) (p : Pst T H μ d S1 v H1 μ1 fp)
    (h : FFin T W H μ D (match setTg tg d ρ S1 with | some (ρ', S) => some (.nx ρ', S) | none => none)) : gTg T tg v σ H1 D.nx := by
  cases e : setTg tg d ρ S1 with
  | none => rw [e] at h; exact h.elim
  | some q =>
    obtain ⟨ρ', S'⟩ := q
    rw [e] at h
    exact setTg_ok (env.keep st p.stp) p.ok p.rep p.nd e fun σ' env' ok' _ => h σ' H1 (μ1 ++ fp) (Stp.own (own := []) p.stp p.new) ok' env'
end
def noComp : Expr → Bool
  | .ListComp _ _ _ _ => false
  | .SetComp _ _ _ _ => false
  | .DictComp _ _ _ _ _ => false
  | _ => true
theorem sw_no {e : Expr} {t : Option Expr} {l : Nat} {env : PySem.Env} (h : noComp e = true) : swapsWith e t l env = pure false := by
  cases e <;> first | rfl | cases h
def isTup : Expr → Bool
  | .Tuple _ _ _ => true
  | _ => false
section
variable {X : Cx} {C : Nat → Addr} {W : WX} {n m : Nat} {g : G} {cc : CC} {a b c e : PE} {x y z : Expr} {p p' : Pos} {es : List PE} {xs : List Expr}
theorem PS.mono {st : Stmt} {t t' : TS} (h : L2.PS X st t) (m : ∀ D σ H, t' D σ H → t D σ H) : L2.PS X st t' := ⟨fun pins s σ H D I q => h.run pins s σ H D I (m D σ H q)⟩
theorem PSs.mono {st : List Stmt} {t t' : TS} (h : L2.PSs X st t) (m : ∀ D σ H, t' D σ H → t D σ H) : L2.PSs X st t' := ⟨fun pins s σ H D I q => h.run pins s σ H D I (m D σ H q)⟩
theorem set_read {i : Nat} {D : Ends} {σ : Slots} {H : Hp} (h : tEvS (tOf X C) W g (.set i e) D σ H) : tAsg (tEv (tOf X C) W g e) (gName i) D σ H := by
  obtain ⟨ρ, S, μ, env, st, h⟩ := h
  unfold execS at h
  exact ev1 env st h.bnd fun d S1 v H1 μ1 fp p k => FFin.tg (tg := .nm i) env st.kinds p k
theorem t_set {i : Nat} {nm : Str} {py : Pos} (G : Good C W n g cc X) (hn : chkNm cc i (.Name nm py) = true) (he : L2.PE X x (tEv (tOf X C) W g e)) (hx : noComp x = true) : L2.PS X (.Assign [.Name nm py] x p) (tEvS (tOf X C) W g (.set i e)) := by
  obtain ⟨h1, h2⟩ := Bool.and_eq_true_iff.mp (show (decide (cc.N[i]? = some nm) && loc cc.sc nm) = true from hn)
  exact PS.mono (ps_set (by rw [G.hN]; exact G.nd) (by rw [G.hN]; exact of_decide_eq_true h1) (G.sc.loc h2) he (sw_no hx) (G.fn nm h2)) fun D σ H h => set_read h
theorem t_setT {is : List Nat} {ts : List Expr} {kk : Nat} {pt : Pos} (G : Good C W n g cc X) (ht : chkTg cc (.tp is) (.Tuple ts kk pt) = true) (he : L2.PE X x (tEv (tOf X C) W g e)) (hx : swappedStores [.Tuple ts kk pt] x X.env = pure none) :
    L2.PS X (.Assign [.Tuple ts kk pt] x p) (tEvS (tOf X C) W g (.setT is e)) := by
  have sw : swapsWithSole [.Tuple ts kk pt] x p.line X.env = pure false := by cases x <;> rfl
  refine PS.mono (ps_asg he (pg_tg G ht) sw hx rfl) fun D σ H ⟨ρ, S, μ, env, st, h⟩ => ?_
  unfold execS at h
  exact ev1 env st h.bnd fun d S1 v H1 μ1 fp p k => FFin.tg env st.kinds p k
theorem no_tup {ts : List Expr} {kk : Nat} {pt : Pos} {env : PySem.Env} (h : isTup x = false) : swappedStores [.Tuple ts kk pt] x env = pure none := by
  cases x <;> first | rfl | cases h
theorem par_eq {is : List Nat} {ρ : Env} {S : Sto} : execS g (.par is es) ρ S = execS g (.setT is (.tup es)) ρ S := by
  unfold execS evalE
  cases evalEs g es ρ S with
  | none => rfl
  | some r => cases r <;> rfl
theorem t_parB {is : List Nat} {ts vs : List Expr} {kk k2 : Nat} {pt p2 : Pos} (G : Good C W n g cc X) (ht : chkTg cc (.tp is) (.Tuple ts kk pt) = true) (he : L2.PE X (.Tuple vs k2 p2) (tEv (tOf X C) W g (.tup es))) (hf : vs.all (foldedForSure 8) = true) :
    L2.PS X (.Assign [.Tuple ts kk pt] (.Tuple vs k2 p2) p) (tEvS (tOf X C) W g (.par is es)) := by
  have hx : swappedStores [.Tuple ts kk pt] (.Tuple vs k2 p2) X.env = pure none := by
    unfold swappedStores
    simp only [hf, if_true]
    split
    · rfl
    split
    · rfl
    split
    · rfl
    · rfl
  refine PS.mono (t_setT G ht he hx) fun D σ H ⟨ρ, S, μ, env, st, h⟩ => ⟨ρ, S, μ, env, st, ?_⟩
  rw [← par_eq]; exact h
def isLoc (cc : CC) (x : Str) : Bool := decide (cc.sc.names.lookup x = some .local)
theorem isLoc_ok (G : Good C W n g cc X) {nm : Str} (h : isLoc cc nm = true) : X.env.scope.names.lookup nm = some .local := by
  obtain ⟨k, h1, h2⟩ := G.sc.look nm _ (of_decide_eq_true h)
  rcases h2 with rfl | ⟨z, _⟩
  · exact h1
  · cases z
theorem t_parA {i j : Nat} {x1 x2 : Str} {v1 v2 : Expr} {kk k2 : Nat} {pt p2 px py : Pos} (G : Good C W n g cc X) (h1 : cc.N[i]? = some x1) (h2 : cc.N[j]? = some x2) (hij : i ≠ j) (l1 : isLoc cc x1 = true) (l2 : isLoc cc x2 = true) (hne : x1 ≠ x2)
    (ha : PA X [v1, v2] (tEvs (tOf X C) W g es)) (hns : [v1, v2].all noStar = true) (hln : (py.line == px.line) = true) (hf : [v1, v2].all (foldedForSure 8) = false) (hcst : [v1, v2].all (constantsAlone 8) = false) :
    L2.PS X (.Assign [.Tuple [.Name x1 px, .Name x2 py] kk pt] (.Tuple [v1, v2] k2 p2) p) (tEvS (tOf X C) W g (.par [i, j] es)) := by
  have k1 := isLoc_ok G l1
  have k2' := isLoc_ok G l2
  refine ⟨fun pins s σ H D I h => ?_⟩
  have hw : swappedStores [.Tuple [.Name x1 px, .Name x2 py] kk pt] (.Tuple [v1, v2] k2 p2) X.env = pure (some [x1, x2]) := by
    have hb : X.env.blockKind = .function := by unfold Env.blockKind; rw [I.ok.kind]; rfl
    have e1 : (X.env.kindOf x1 == some .local) = true := by
      show (X.env.scope.names.lookup x1 == some .local) = true
      rw [k1]; rfl
    have e2 : (X.env.kindOf x2 == some .local) = true := by
      show (X.env.scope.names.lookup x2 == some .local) = true
      rw [k2']; rfl
    have hst : ([v1, v2].any fun | .Starred .. => true | _ => false) = false := by
      rw [List.all_cons, List.all_cons, Bool.and_eq_true, Bool.and_eq_true] at hns
      have q : ∀ v : Expr, noStar v = true → (match v with | .Starred .. => true | _ => false) = false := fun v h => by
        cases v <;> first | rfl | cases h
      simp only [List.any_cons, List.any_nil, Bool.or_false, Bool.or_eq_false_iff]
      exact ⟨q v1 hns.1, q v2 hns.2.1⟩
    have ed : ([x1, x2] : List Str).eraseDups = [x1, x2] := by
      rw [List.eraseDups_cons, List.filter_cons_of_pos (by simpa using fun e => hne e.symm), List.filter_nil, List.eraseDups_cons, List.filter_nil, List.eraseDups_nil]
    have hp1 : (px.line == px.line) = true := by simp
    unfold swappedStores
    simp only [hf, hcst, hst, hb, List.head?_cons, Option.map_some, Option.getD_some, Expr.pos, List.filterMap_cons, List.filterMap_nil, e1, e2, hln, hp1, Bool.and_self, if_true, ed, List.length_cons, List.length_nil]
    refine (if_neg (by decide)).trans ((if_neg fun hh => ?_).trans ((if_neg (by decide)).trans rfl))
    exact Bool.false_ne_true (hst.symm.trans hh)
  have sw : swapsWithSole [.Tuple [.Name x1 px, .Name x2 py] kk pt] (.Tuple [v1, v2] k2 p2) p.line X.env = pure false := rfl
  refine (ps_par (pos := p) G.calm (by rw [G.hN]; exact G.nd) (by rw [G.hN]; exact h1) (by rw [G.hN]; exact h2) hij k1 k2' ha hw sw).run pins s σ H D I ?_
  obtain ⟨ρ, S, μ, env, st, h⟩ := h
  unfold execS at h
  refine evse env st h.bnd fun ds S1 vs H1 μ1 fp e1 p1 k => ?_
  cases e : setTg (.tp [i, j]) (.tup ds) ρ S1 with
  | none => rw [e] at k; exact k.elim
  | some q =>
    obtain ⟨ρ', S'⟩ := q
    rw [e] at k
    obtain ⟨ρ2, e2, e3⟩ := Option.map_eq_some_iff.mp (show (setNames [i, j] (settles ds S1).1 ρ).map (fun ρ' => (ρ', (settles ds S1).2)) = some (ρ', S') from e)
    cases e3
    obtain ⟨r1, ok1⟩ := settles_ok ds vs fp μ1 S1 p1.rep p1.ok p1.nd
    have env1 : EnvOk (tOf X C) H1 (μ1 ++ fp) σ ρ := env.keep st.kinds (Stp.own (own := []) p1.stp p1.new)
    obtain ⟨b1, b2⟩ := EnvOk.names [i, j] _ vs σ ρ _ env1 r1 e2
    match vs, b1, b2 with
    | [v, w], _, b2 => exact ⟨v, w, rfl, k _ H1 _ (Stp.own (own := []) p1.stp p1.new) ok1 b2⟩
theorem t_setI {o i v : PE} {ox ix vx : Expr} {sp : Pos} (G : Good C W n g cc X) (ho : L2.PE X ox (tEv (tOf X C) W g o)) (hi : L2.PE X ix (tEv (tOf X C) W g i)) (hv : L2.PE X vx (tEv (tOf X C) W g v)) (hix : noSlice ix = true) :
    L2.PS X (.Assign [.Subscript ox ix sp] vx p) (tEvS (tOf X C) W g (.setI o i v)) := by
  have sw : swapsWithSole [.Subscript ox ix sp] vx p.line X.env = pure false := by cases vx <;> rfl
  have ha : ∀ v, assign (.Subscript ox ix sp) X.env v = (do
      let ov ← holding [v] (eval ox X.env)
      let iv ← holding [v, ov] (eval ix X.env)
      standAt sp
      holding [v, ov, iv] (setItem ov iv v)
      release [v, ov, iv] []) := fun v => by
    cases ix <;> first | rfl | cases hix
  have hu : X.A.units + 1 < cLine := by have := G.units; omega
  refine PS.mono (ps_asg hv (pg_sub ho hi (set_d (C := C) hu) ha) sw rfl rfl) fun D σ H ⟨ρ, S, μ, env, st, h⟩ => ?_
  unfold execS at h
  refine ev1 env st h.bnd fun dv S1 w H1 μ1 f1 p1 k => ?_
  have env1 := env.keep st.kinds p1.stp
  refine ev1 env1 p1.ok ((FFin.bnd k).on p1.stp) fun d S2 u H2 μ2 f2 p2 k2 => ?_
  have env2 := env1.keep p1.ok.kinds p2.stp
  refine ev1 env2 p2.ok ((FFin.bnd k2).on (p1.stp.trans p2.stp)) fun di S3 w3 H3 μ3 f3 p3 k3 => ?_
  cases e : setItE d di dv S3 with
  | none => rw [e] at k3; exact k3.elim
  | some S' =>
    rw [e] at k3
    have s13 := p2.stp.trans p3.stp
    have r1 : Rep (tOf X C) H3 μ3 dv w f1 := Rep.keep p1.ok.kinds s13 _ _ _ p1.rep (nd_out p1.nd)
    have nd1 : (μ3 ++ f1).Nodup := by
      have := nd_step (f2 := []) s13 p1.nd (by simpa using p3.ok.nd) (Rep.there _ _ _ p1.rep) (by simp)
      simpa using this
    refine ⟨dv, d, di, S3, μ3, f1, f2, f3, S', r1, Rep.keep p2.ok.kinds p3.stp _ _ _ p2.rep (nd_out p2.nd), p3.rep, p3.ok, nd1, e, fun H' μ' so ok' => ?_⟩
    have s3 : Stp H μ H3 μ3 := p1.stp.trans s13
    have s' : Stp H μ H' μ' := StpO.of s3 p1.new (nd_out nd1) so
    exact k3 σ H' μ' s' ok' (env.keep st.kinds s')
end
end Ev
end
section
set_option Elab.async false
set_option linter.all false
set_option maxRecDepth 100000
namespace Ev
open PySem PySem.Spec PyProof.Rows L2 PySem.SeqAt
/-! ### while, counted -/
def WRun (c : Env → Sto → Option (R D)) (b : Env → Sto → Option (Fl × Sto)) : Nat → Env → Sto → Fl × Sto → Prop
  | 0, _, _, _ => False
  | n + 1, ρ, S, r => match c ρ S with
    | none => False
    | some (.ex x S) => r = (.ex x, S)
    | some (.ok d S) => match truth S d with
      | none => False
      | some false => r = (.nx ρ, S)
      | some true => match b ρ S with
        | none => False
        | some (.ret d, S) => r = (.ret d, S)
        | some (.ex x, S) => r = (.ex x, S)
        | some (.nx ρ', S') => WRun c b n ρ' S' r
theorem wrun_of {c : Env → Sto → Option (R D)} {b : Env → Sto → Option (Fl × Sto)} : ∀ (ρ : Env) (S : Sto) (r : Fl × Sto), whileL c b ρ S = some r → ∃ n, WRun c b n ρ S r := by
  refine whileL.partial_correctness c b (fun ρ S r => ∃ n, WRun c b n ρ S r) fun wl ih ρ S r h => ?_
  cases hc : c ρ S with
  | none => simp only [hc] at h; cases h
  | some q =>
    cases q with
    | ex x S1 =>
      simp only [hc] at h
      exact ⟨1, by unfold WRun; rw [hc]; exact (Option.some.inj h).symm⟩
    | ok d S1 =>
      simp only [hc] at h
      cases ht : truth S1 d with
      | none => simp only [ht] at h; cases h
      | some t =>
        cases t with
        | false =>
          simp only [ht] at h
          exact ⟨1, by unfold WRun; simp only [hc, ht]; exact (Option.some.inj h).symm⟩
        | true =>
          simp only [ht] at h
          cases hb : b ρ S1 with
          | none => simp only [hb] at h; cases h
          | some q =>
            obtain ⟨fl, S2⟩ := q
            cases fl with
            | ret d2 =>
              simp only [hb] at h
              exact ⟨1, by unfold WRun; simp only [hc, ht, hb]; exact (Option.some.inj h).symm⟩
            | ex d2 =>
              simp only [hb] at h
              exact ⟨1, by unfold WRun; simp only [hc, ht, hb]; exact (Option.some.inj h).symm⟩
            | nx ρ2 =>
              simp only [hb] at h
              obtain ⟨n, hn⟩ := ih ρ2 S2 r h
              exact ⟨n + 1, by unfold WRun; simp only [hc, ht, hb]; exact hn⟩
section
variable {X : Cx} {C : Nat → Addr} {W : WX} {n m : Nat} {g : G} {cc : CC} {a b c e : PE} {x y z : Expr} {p p' : Pos} {es : List PE} {xs : List Expr} {body : List PS} {sts : List Stmt}
theorem t_expr (he : L2.PE X x (tEv (tOf X C) W g e)) (hx : noComp x = true) : L2.PS X (.Expr x p) (tEvS (tOf X C) W g (.expr e)) := by
  refine PS.mono (ps_expr he (sw_no hx)) fun D σ H ⟨ρ, S, μ, env, st, h⟩ => ?_
  unfold execS at h
  exact ev1 env st h.bnd fun d S1 v H1 μ1 fp p k => k σ H1 μ1 p.stp p.ok (env.keep st.kinds p.stp)
theorem t_ret (he : L2.PE X x (tEv (tOf X C) W g e)) : L2.PS X (.Return (some x) p) (tEvS (tOf X C) W g (.ret e)) := by
  refine PS.mono (ps_ret he) fun D σ H ⟨ρ, S, μ, env, st, h⟩ => ?_
  unfold execS at h
  exact ev1 env st h.bnd fun d S1 v H1 μ1 fp p k => k v H1 μ1 fp p
theorem t_if {as bs : List PS} {ys zs : List Stmt} (hc : PT X x (tEvT (tOf X C) W g c)) (ha : PSs X ys (tEvB (tOf X C) W g as)) (hb : PSs X zs (tEvB (tOf X C) W g bs)) : L2.PS X (.If x ys zs p) (tEvS (tOf X C) W g (.ife c as bs)) := by
  refine PS.mono (ps_if hc ha hb) fun D σ H ⟨ρ, S, μ, env, st, h⟩ => ?_
  unfold execS at h
  refine evT1 env st h.tests fun t S1 H1 μ1 s ok k => ?_
  cases t with
  | true =>
    rw [if_pos rfl] at k ⊢
    exact ⟨ρ, S1, μ1, env.keep st.kinds s, ok, FFin.on s k⟩
  | false =>
    rw [if_neg (by decide)] at k ⊢
    exact ⟨ρ, S1, μ1, env.keep st.kinds s, ok, FFin.on s k⟩
theorem t_while (hp : PassesOwn (model X.prog X.w) X.A X.env X.xe) (hc : PT X x (tEvT (tOf X C) W g c)) (hb : PSs X sts (tEvB (tOf X C) W g body)) : L2.PS X (.While x sts [] p) (tEvS (tOf X C) W g (.while_ c body)) := by
  refine PS.mono (ps_while hp hc hb) fun D σ H ⟨ρ, S, μ, env, st, h⟩ => ?_
  unfold execS at h
  cases hr : whileL (fun ρ S => evalE g c ρ S) (fun ρ S => execB g body ρ S) ρ S with
  | none => rw [hr] at h; exact h.elim
  | some r =>
    rw [hr] at h
    obtain ⟨m0, w0⟩ := wrun_of ρ S r hr
    refine ⟨fun m σ' H' => ∃ ρ' S' μ', EnvOk (tOf X C) H' μ' σ' ρ' ∧ StOk (tOf X C) H' μ' S' ∧ Stp H μ H' μ' ∧ WRun (fun ρ S => evalE g c ρ S) (fun ρ S => execB g body ρ S) m ρ' S' r, ⟨m0, ρ, S, μ, env, st, Stp.refl, w0⟩, fun m σ1 H1 ⟨ρ1, S1, μ1, env1, st1, s1, w1⟩ => ?_⟩
    cases m with
    | zero => exact w1.elim
    | succ m =>
      unfold WRun at w1
      refine ⟨ρ1, S1, μ1, env1, st1, ?_⟩
      cases hcv : evalE g c ρ1 S1 with
      | none => simp only [hcv] at w1
      | some q =>
        cases q with
        | ex cx S2 =>
          simp only [hcv] at w1
          subst w1
          exact fun H' μ' s' ok' => h σ1 H' μ' (s1.trans s') ok'
        | ok d S2 =>
          simp only [hcv] at w1
          cases ht : truth S2 d with
          | none => simp only [ht] at w1
          | some t =>
            have ev : testE (some (R.ok d S2)) = some (.ok t S2) := by
              show (match truth S2 d with | some b => some (R.ok b S2) | none => none) = _
              rw [ht]
            rw [ev]
            intro H2 μ2 s2 ok2
            have env2 := env1.keep st1.kinds s2
            cases t with
            | false =>
              rw [if_neg (by decide)]
              simp only [ht] at w1
              subst w1
              exact h σ1 H2 μ2 (s1.trans s2) ok2 env2
            | true =>
              rw [if_pos rfl]
              simp only [ht] at w1
              refine ⟨_, fun σ' H' hn => ⟨m, Nat.lt_succ_self m, hn⟩, ρ1, S2, μ2, env2, ok2, ?_⟩
              have s12 := s1.trans s2
              cases hbv : execB g body ρ1 S2 with
              | none => simp only [hbv] at w1
              | some q =>
                obtain ⟨fl, S3⟩ := q
                simp only [hbv] at w1
                cases fl with
                | ret d3 => subst w1; exact fun v H' μ' fp p => h v H' μ' fp ⟨s12.trans p.stp, p.ok, p.rep, p.nd, fun a m => s12.free (p.new a m)⟩
                | ex d3 => subst w1; exact fun σ' H' μ' s' ok' => h σ' H' μ' (s12.trans s') ok'
                | nx ρ3 => exact fun σ' H' μ' s' ok' env' => ⟨ρ3, S3, μ', env', ok', s12.trans s', w1⟩
theorem t_for {tg : Tg} {k : ItK} {tgx iter : Expr} (G : Good C W n g cc X) (hp : PassesOwn (model X.prog X.w) X.A X.env X.xe) (hi : PI X tgx iter (tIt (tOf X C) W g k es)) (ht : chkTg cc tg tgx = true) (hs : noSet iter = true)
    (hb : PSs X sts (tEvB (tOf X C) W g body)) : L2.PS X (.For tgx iter sts [] p) (tEvS (tOf X C) W g (.for_ tg k es body)) := by
  refine PS.mono (ps_for hp G.calm hi (pg_tg G ht) hb (folded hs)) fun D σ H ⟨ρ, S, μ, env, st, h⟩ => ?_
  unfold execS at h
  refine ⟨ρ, S, μ, env, st, h.bnd.imp fun ds S1 _ k1 => ?_⟩
  cases hit : itemsOf S1 k ds with
  | none => rw [hit] at k1; exact k1.elim
  | some q0 =>
    obtain ⟨its, lk⟩ := q0
    rw [hit] at k1
    refine ⟨its, lk, rfl, fun J H1 μ1 s1 ok1 bg => ?_⟩
    obtain ⟨Gw, wk, g0⟩ := bg.fwd
    generalize hf : (fun d ρ S => match setTg tg d ρ S with
        | some (ρ', S) => execB g body ρ' S
        | none => none) = f at k1
    refine ⟨fun i m σ' Hc => i + m = its.length ∧ ∃ ρ' S' μ', EnvOk (tOf X C) Hc μ' σ' ρ' ∧ StOk (tOf X C) Hc μ' S' ∧ Stp H μ Hc μ' ∧ Gw i Hc μ' ∧ FFin (tOf X C) W H μ D (forL lk f (its.drop i) ρ' S'),
      ⟨its.length, by simp, ρ, S1, μ1, env.keep st.kinds s1, ok1, s1, g0, k1⟩, fun i m σ' Hc ⟨him, ρ', S', μ', envc, okc, sc, gc, fc⟩ => ?_⟩
    by_cases hil : its.length ≤ i
    · left
      rw [List.drop_eq_nil_of_le hil] at fc
      obtain ⟨h1, h2⟩ := FFin.guard (show FFin (tOf X C) W H μ D (guardS lk S' (some (.nx ρ', S'))) from fc)
      exact ⟨wk.stop i Hc μ' S' hil gc okc h1, h2 σ' Hc μ' sc okc envc⟩
    · right
      have hil' : i < its.length := by omega
      rw [List.drop_eq_getElem_cons hil'] at fc
      obtain ⟨hst, fc2⟩ := FFin.guard (show FFin (tOf X C) W H μ D (guardS lk S' (seqS (f its[i] ρ' S') fun ρ S => forL lk f (its.drop (i + 1)) ρ S)) from fc)
      obtain ⟨jgo, jit⟩ := wk.item i its[i] Hc μ' S' (List.getElem?_eq_getElem hil') gc okc hst
      refine ⟨jgo, _, fun σ' H' hn => ⟨m - 1, by omega, hn⟩, fun v H' yl => ?_⟩
      obtain ⟨sm, f1, r1, nd1, nw1, g1⟩ := jit v H' yl
      have sca : Stp H μ H' (μ' ++ f1) := Stp.own (own := []) (sc.trans (Same.stp sm)) fun a m => (nw1 a m).1
      cases est : setTg tg its[i] ρ' S' with
      | none => rw [← hf] at fc2; simp only [est] at fc2; exact fc2.elim
      | some q =>
        obtain ⟨ρ2, S2⟩ := q
        have ef : f its[i] ρ' S' = execB g body ρ2 S2 := by rw [← hf]; simp only [est]
        rw [ef] at fc2
        refine setTg_ok (envc.keep okc.kinds (Same.stp sm)) (StOk.same sm okc) r1 nd1 est fun σ2 env2 ok2 _ => ⟨ρ2, S2, μ' ++ f1, env2, ok2, ?_⟩
        cases hbv : execB g body ρ2 S2 with
        | none => rw [hbv] at fc2; exact fc2.elim
        | some q =>
          obtain ⟨fl, S3⟩ := q
          rw [hbv] at fc2
          cases fl with
          | ret d3 => exact fun v H' μ' fp p => fc2 v H' μ' fp ⟨sca.trans p.stp, p.ok, p.rep, p.nd, fun a m => sca.free (p.new a m)⟩
          | ex d3 => exact fun σ' H' μ' s' ok' => fc2 σ' H' μ' (sca.trans s') ok'
          | nx ρ3 => exact fun σ3 H3 μ3 s3 ok3 env3 => ⟨by omega, ρ3, S3, μ3, env3, ok3, sca.trans s3, wk.keep _ _ _ _ _ g1 ok2.kinds s3 ok3.nd, fc2⟩
theorem b_nil : PSs X [] (tEvB (tOf X C) W g []) := by
  refine PSs.mono pss_nil fun D σ H ⟨ρ, S, μ, env, st, h⟩ => ?_
  unfold execB at h
  exact h σ H μ Stp.refl st env
theorem b_skip {st : Stmt} {ss : List PS} (h1 : L2.PS X st tNext) (h : PSs X sts (tEvB (tOf X C) W g ss)) : PSs X (st :: sts) (tEvB (tOf X C) W g ss) :=
  PSs.mono (pss_cons h1 h) fun D σ H h => h
theorem b_cons {s : PS} {st : Stmt} {ss : List PS} (h1 : L2.PS X st (tEvS (tOf X C) W g s)) (h2 : PSs X sts (tEvB (tOf X C) W g ss)) : PSs X (st :: sts) (tEvB (tOf X C) W g (s :: ss)) := by
  refine PSs.mono (pss_cons h1 h2) fun D σ H ⟨ρ, S, μ, env, st, h⟩ => ⟨ρ, S, μ, env, st, ?_⟩
  unfold execB at h
  cases hv : execS g s ρ S with
  | none => rw [hv] at h; exact h.elim
  | some q =>
    obtain ⟨fl, S1⟩ := q
    rw [hv] at h
    cases fl with
    | ret d => exact h
    | ex d => exact h
    | nx ρ1 => exact fun σ1 H1 μ1 s1 ok1 env1 => ⟨ρ1, S1, μ1, env1, ok1, FFin.on s1 h⟩
end
/-! ### does the text say that -/
def chkB (f : PS → Stmt → Bool) : List PS → List Stmt → Bool
  | [], [] => true
  | ss, .Expr (.Constant (.str _) _ _) _ :: r => chkB f ss r
  | ss, .Pass _ :: r => chkB f ss r
  | s :: ss, t :: r => f s t && chkB f ss r
  | _, _ => false
def parA (cc : CC) : List Nat → List Expr → List Expr → Bool
  | [i, j], [.Name x1 px, .Name x2 py], [v1, v2] => decide (cc.N[i]? = some x1) && decide (cc.N[j]? = some x2) && decide (i ≠ j) && isLoc cc x1 && isLoc cc x2 && decide (x1 ≠ x2) && (py.line == px.line) && !([v1, v2].all (foldedForSure 8)) && !([v1, v2].all (constantsAlone 8))
  | _, _, _ => false
def fuelE : Nat := 60
def isLC : Expr → Bool
  | .ListComp _ _ _ _ => true
  | _ => false
def chkLC (cc : CC) (i : Nat) (py : Pos) (nm : Str) : PE → Expr → Bool
  | .comp tg k es ifs elt, .ListComp y [⟨tgx, iter, ifsx, 0⟩] scope _ =>
    chkNm cc i (.Name nm py) && chkI fuelE cc k es tgx iter && noSet iter && chkTg { cc with sc := scope } tg tgx && decide ((ownOf tg tgx).map (·.2) = tgIs tg) && blkC cc.N cc.sc scope (ownOf tg tgx) &&
    (match ifs, ifsx with | [], [] => true | [c], [cx] => chkE fuelE { cc with sc := scope } c cx | _, _ => false) && chkE fuelE { cc with sc := scope } elt y
  | _, _ => false
def chkS : Nat → CC → PS → Stmt → Bool
  | 0, _, _, _ => false
  | _ + 1, cc, .set i e, .Assign [.Name nm py] x _ => if isLC x then chkLC cc i py nm e x else chkNm cc i (.Name nm py) && chkE fuelE cc e x && noComp x
  | _ + 1, cc, .setT is e, .Assign [.Tuple ts kk pt] x _ => chkTg cc (.tp is) (.Tuple ts kk pt) && chkE fuelE cc e x && !isTup x
  | _ + 1, cc, .par is es, .Assign [.Tuple ts kk pt] (.Tuple vs k2 p2) _ => all2 (chkE fuelE cc) es vs && vs.all noStar && decide (vs.length ≤ 1000) && (parA cc is ts vs || (chkTg cc (.tp is) (.Tuple ts kk pt) && vs.all (foldedForSure 8)))
  | _ + 1, cc, .setI o i v, .Assign [.Subscript ox ix _] vx _ => chkE fuelE cc o ox && chkE fuelE cc i ix && chkE fuelE cc v vx && noSlice ix
  | _ + 1, cc, .expr e, .Expr x _ => chkE fuelE cc e x && noComp x
  | _ + 1, cc, .ret e, .Return (some x) _ => chkE fuelE cc e x
  | n + 1, cc, .ife c as bs, .If x ys zs _ => chkE fuelE cc c x && chkB (chkS n cc) as ys && chkB (chkS n cc) bs zs
  | n + 1, cc, .while_ c as, .While x ys [] _ => chkE fuelE cc c x && chkB (chkS n cc) as ys
  | n + 1, cc, .for_ tg k es as, .For tgx iter ys [] _ => chkI fuelE cc k es tgx iter && chkTg cc tg tgx && noSet iter && chkB (chkS n cc) as ys
  | _, _, _, _ => false
section
variable {X : Cx} {C : Nat → Addr} {W : WX} {n m : Nat} {g : G} {cc : CC}
theorem main_b {f : PS → Stmt → Bool} (hf : ∀ s t, f s t = true → L2.PS X t (tEvS (tOf X C) W g s)) : ∀ (ts : List Stmt) (ss : List PS), chkB f ss ts = true → PSs X ts (tEvB (tOf X C) W g ss)
  | [], ss, h => by
    cases ss with
    | nil => exact b_nil
    | cons s ss => cases h
  | t :: ts, ss, h => by
    unfold chkB at h
    split at h
    · cases ‹_ :: _ = []›
    · obtain ⟨rfl, rfl⟩ := List.cons.inj ‹_ = _ :: _›
      exact b_skip ps_doc (main_b hf ts _ h)
    · obtain ⟨rfl, rfl⟩ := List.cons.inj ‹_ = _ :: _›
      exact b_skip ps_pass (main_b hf ts _ h)
    · obtain ⟨rfl, rfl⟩ := List.cons.inj ‹_ = _ :: _›
      obtain ⟨h1, h2⟩ := Bool.and_eq_true_iff.mp h
      exact b_cons (hf _ _ h1) (main_b hf ts _ h2)
    · cases h
theorem main_s (G : Good C W n g cc X) (hp : PassesOwn (model X.prog X.w) X.A X.env X.xe) : ∀ (m : Nat) (s : PS) (t : Stmt), chkS m cc s t = true → L2.PS X t (tEvS (tOf X C) W g s)
  | 0, _, _, h => by cases h
  | m + 1, s, t, h => by
    have ih := main_s G hp m
    have ie : Ih C g fuelE n := main_e C g n fuelE
    unfold chkS at h
    split at h
    all_goals try (have q := Nat.succ.inj ‹m + 1 = _ + 1›; subst q)
    · cases h
    · split at h
      · unfold chkLC at h
        split at h
        · simp only [Bool.and_eq_true, decide_eq_true_eq] at h
          obtain ⟨⟨⟨⟨⟨⟨⟨h0, h1⟩, h2⟩, h3⟩, h4⟩, h5⟩, h6⟩, h7⟩ := h
          refine PS.mono (s_setC G h0 (ie.pi G h1) h2 h3 h4 h5 (fun s H A cl fp => ?_) fun s H A cl fp => (ie _ _ _ (G.blk _ s H A cl fp) _ _ h7).pe) fun D σ H h => set_read h
          split at h6
          · exact ifs_nil
          · exact ifs_one (ie _ _ _ (G.blk _ s H A cl fp) _ _ h6).pt
          · cases h6
        · cases h
      · simp only [Bool.and_eq_true] at h
        obtain ⟨⟨h1, h2⟩, h3⟩ := h
        exact t_set G h1 (ie _ _ _ G _ _ h2).pe h3
    · simp only [Bool.and_eq_true] at h
      obtain ⟨⟨h1, h2⟩, h3⟩ := h
      exact t_setT G h1 (ie _ _ _ G _ _ h2).pe (no_tup (by simpa using h3))
    · simp only [Bool.and_eq_true, decide_eq_true_eq] at h
      obtain ⟨⟨⟨h1, h2⟩, h3⟩, h4⟩ := h
      have pa := ie.pas G h1 h2
      rcases Bool.or_eq_true_iff.mp h4 with h4 | h4
      · unfold parA at h4
        split at h4
        · simp only [Bool.and_eq_true, decide_eq_true_eq, Bool.not_eq_true'] at h4
          obtain ⟨⟨⟨⟨⟨⟨⟨⟨q1, q2⟩, q3⟩, q4⟩, q5⟩, q6⟩, q7⟩, q8⟩, q9⟩ := h4
          exact t_parA G q1 q2 q3 q4 q5 q6 pa h2 q7 q8 q9
        · cases h4
      · obtain ⟨q1, q2⟩ := Bool.and_eq_true_iff.mp h4
        exact t_parB G q1 (s_tup pa h3 (all2_len _ _ h1).symm) q2
    · simp only [Bool.and_eq_true] at h
      obtain ⟨⟨⟨h1, h2⟩, h3⟩, h4⟩ := h
      exact t_setI G (ie _ _ _ G _ _ h1).pe (ie _ _ _ G _ _ h2).pe (ie _ _ _ G _ _ h3).pe h4
    · simp only [Bool.and_eq_true] at h
      exact t_expr (ie _ _ _ G _ _ h.1).pe h.2
    · exact t_ret (ie _ _ _ G _ _ h).pe
    · simp only [Bool.and_eq_true] at h
      obtain ⟨⟨h1, h2⟩, h3⟩ := h
      exact t_if (ie _ _ _ G _ _ h1).pt (main_b ih _ _ h2) (main_b ih _ _ h3)
    · simp only [Bool.and_eq_true] at h
      exact t_while hp (ie _ _ _ G _ _ h.1).pt (main_b ih _ _ h.2)
    · simp only [Bool.and_eq_true] at h
      obtain ⟨⟨⟨h1, h2⟩, h3⟩, h4⟩ := h
      exact t_for G hp (ie.pi G h1) h2 h3 (main_b ih _ _ h4)
    · cases h
end
end Ev
end
section
set_option Elab.async false
set_option linter.all false
set_option maxRecDepth 100000
namespace Ev
open PySem PySem.Spec PyProof.Rows L2 PySem.SeqAt
section
variable {T : Pgm} {H : Hp} {μ : List Addr} {S : Sto} {b : Nat}
theorem take_get {n : Nat} {a : Addr} (h : μ[n]? = some a) (hn : n < b) : (μ.take b)[n]? = some a := by
  rw [List.getElem?_take_of_lt hn]; exact h
mutual
theorem Rep.narrow : ∀ (d : D) (v : V) (fp : List Addr), Rep T H μ d v fp → d.under b = true → Rep T H (μ.take b) d v fp
  | .non, _, _, h, _ => h
  | .bl _, _, _, h, _ => h
  | .int _, _, _, h, _ => h
  | .str _, _, _, h, _ => h
  | .tup ds, _, fp, h, u => by
    obtain ⟨a, vs, e, q, r⟩ := h
    exact ⟨a, vs, e, q, Reps.narrow ds vs fp r (by unfold D.under at u; exact u)⟩
  | .lst ds, _, _, h, u => by
    obtain ⟨a, vs, f, e, q, r, z⟩ := h
    exact ⟨a, vs, f, e, q, Reps.narrow ds vs f r (by unfold D.under at u; exact u), z⟩
  | .fz ds, _, fp, h, u => by
    obtain ⟨a, vs, e, q, r, z⟩ := h
    exact ⟨a, vs, e, q, Reps.narrow ds vs fp r (by unfold D.under at u; exact u), z⟩
  | .dct ks ds, _, _, h, u => by
    obtain ⟨a, us, f, e, q, r, z⟩ := h
    exact ⟨a, us, f, e, q, Reps.narrow ds us f r (by unfold D.under at u; exact (Bool.and_eq_true_iff.mp u).2), z⟩
  | .ref n, _, _, h, u => by
    obtain ⟨a, e, q, z⟩ := h
    exact ⟨a, e, take_get q (by unfold D.under at u; exact of_decide_eq_true u), z⟩
  | .exc c, _, _, h, _ => by
    obtain ⟨a, e, q, na, z⟩ := h
    exact ⟨a, e, q, ⟨fun m => na.1 (List.mem_of_mem_take m), na.2⟩, z⟩
theorem Reps.narrow : ∀ (ds : List D) (vs : List V) (fp : List Addr), Reps T H μ ds vs fp → unders b ds = true → Reps T H (μ.take b) ds vs fp
  | [], _, _, h, _ => h
  | d :: ds, _, _, h, u => by
    obtain ⟨v, r, f1, f2, e, h1, h2, z⟩ := h
    unfold unders at u
    obtain ⟨u1, u2⟩ := Bool.and_eq_true_iff.mp u
    exact ⟨v, r, f1, f2, e, Rep.narrow d v f1 h1 u1, Reps.narrow ds r f2 h2 u2, z⟩
end
theorem nodup_map_on {α β : Type} {f : α → β} : ∀ {l : List α}, (∀ x ∈ l, ∀ y ∈ l, f x = f y → x = y) → l.Nodup → (l.map f).Nodup
  | [], _, _ => by simp
  | a :: l, h, nd => by
    rw [List.nodup_cons] at nd
    rw [List.map_cons, List.nodup_cons]
    refine ⟨fun m => ?_, nodup_map_on (fun x hx y hy => h x (List.mem_cons_of_mem _ hx) y (List.mem_cons_of_mem _ hy)) nd.2⟩
    obtain ⟨y, hy, e⟩ := List.mem_map.mp m
    have := h a List.mem_cons_self y (List.mem_cons_of_mem _ hy) e.symm
    subst this; exact nd.1 hy
abbrev ad (μ : List Addr) (n : Nat) : Addr := μ.getD n 0
theorem mapM_cons {α β : Type} {f : α → Option β} {x : α} {xs : List α} {ys : List β} (h : (x :: xs).mapM f = some ys) : ∃ y r, f x = some y ∧ xs.mapM f = some r ∧ ys = y :: r := by
  rw [List.mapM_cons] at h
  cases h1 : f x with
  | none => rw [h1] at h; cases h
  | some y =>
    rw [h1] at h
    cases h2 : xs.mapM f with
    | none => rw [h2] at h; cases h
    | some r => rw [h2] at h; cases h; exact ⟨y, r, rfl, rfl, rfl⟩
theorem reifies (S : Sto) (k : Nat) (ih : ∀ d v fp d2, Rep T H μ d v fp → reify S b k d = some d2 → ∃ fp2, Rep T H (μ.take b) d2 v fp2 ∧ fp2.Perm (fp ++ (taken S b k d).map (ad μ)) ∧ ∀ n ∈ taken S b k d, b ≤ n ∧ n < μ.length) :
    ∀ (ds : List D) (vs : List V) (fp : List Addr) (ds2 : List D), Reps T H μ ds vs fp → ds.mapM (reify S b k) = some ds2 → ∃ fp2, Reps T H (μ.take b) ds2 vs fp2 ∧ fp2.Perm (fp ++ (ds.flatMap (taken S b k)).map (ad μ)) ∧ ∀ n ∈ ds.flatMap (taken S b k), b ≤ n ∧ n < μ.length
  | [], vs, fp, ds2, h, e => by
    obtain ⟨rfl, rfl⟩ := h
    have : ds2 = [] := by simpa using e.symm
    subst this
    exact ⟨[], ⟨rfl, rfl⟩, by simp, by simp⟩
  | d :: ds, _, _, ds2, h, e => by
    obtain ⟨v, r, f1, f2, rfl, h1, h2, rfl⟩ := h
    obtain ⟨y, ys, e1, e2, rfl⟩ := mapM_cons e
    obtain ⟨g1, a1, a2, a3⟩ := ih d v f1 y h1 e1
    obtain ⟨g2, b1, b2, b3⟩ := reifies S k ih ds r f2 ys h2 e2
    refine ⟨g1 ++ g2, ⟨v, r, g1, g2, rfl, a1, b1, rfl⟩, ?_, fun n m => ?_⟩
    · rw [List.flatMap_cons, List.map_append]
      refine (a2.append b2).trans ?_
      rw [List.append_assoc, List.append_assoc]
      refine List.Perm.append_left f1 ?_
      rw [← List.append_assoc, ← List.append_assoc]
      exact List.Perm.append_right _ List.perm_append_comm
    · rw [List.flatMap_cons] at m
      exact (List.mem_append.mp m).elim (a3 n) (b3 n)
theorem reify_ok (ok : StOk T H μ S) : ∀ (k : Nat) (d : D) (v : V) (fp : List Addr) (d2 : D), Rep T H μ d v fp → reify S b k d = some d2 → ∃ fp2, Rep T H (μ.take b) d2 v fp2 ∧ fp2.Perm (fp ++ (taken S b k d).map (ad μ)) ∧ ∀ n ∈ taken S b k d, b ≤ n ∧ n < μ.length
  | 0, d, v, fp, d2, h, e => by cases e
  | k + 1, d, v, fp, d2, h, e => by
    have ihs := reifies (H := H) (μ := μ) (T := T) (b := b) S k fun d v fp d2 => reify_ok ok k d v fp d2
    unfold reify at e
    unfold taken
    by_cases hu : d.under b = true
    · rw [if_pos hu] at e
      cases e
      rw [if_pos hu]
      exact ⟨fp, Rep.narrow d v fp h hu, by simp, by simp⟩
    rw [if_neg hu] at e
    rw [if_neg hu]
    cases d with
    | tup ds =>
      obtain ⟨ds2, e1, rfl⟩ := Option.map_eq_some_iff.mp (show (ds.mapM (reify S b k)).map D.tup = some d2 from e)
      obtain ⟨a, vs, ev, q, r⟩ := h
      obtain ⟨fp2, r2, p2, n2⟩ := ihs ds vs fp ds2 r e1
      exact ⟨fp2, ⟨a, vs, ev, q, r2⟩, p2, n2⟩
    | lst ds =>
      obtain ⟨ds2, e1, rfl⟩ := Option.map_eq_some_iff.mp (show (ds.mapM (reify S b k)).map D.lst = some d2 from e)
      obtain ⟨a, vs, f, ev, q, r, rfl⟩ := h
      obtain ⟨fp2, r2, p2, n2⟩ := ihs ds vs f ds2 r e1
      refine ⟨fp2 ++ [a], ⟨a, vs, fp2, ev, q, r2, rfl⟩, ?_, n2⟩
      refine (p2.append_right [a]).trans ?_
      rw [List.append_assoc, List.append_assoc]
      exact List.Perm.append_left f List.perm_append_comm
    | dct ks ds =>
      obtain ⟨ds2, e1, rfl⟩ := Option.map_eq_some_iff.mp (show (ds.mapM (reify S b k)).map (D.dct ks) = some d2 from e)
      obtain ⟨a, us, f, ev, q, r, rfl⟩ := h
      obtain ⟨fp2, r2, p2, n2⟩ := ihs ds us f ds2 r e1
      refine ⟨fp2 ++ [a], ⟨a, us, fp2, ev, q, r2, rfl⟩, ?_, n2⟩
      refine (p2.append_right [a]).trans ?_
      rw [List.append_assoc, List.append_assoc]
      exact List.Perm.append_left f List.perm_append_comm
    | ref n =>
      obtain ⟨a, ev, hm, rfl⟩ := h
      have hn : b ≤ n ∧ n < μ.length := by
        unfold D.under at hu
        have := (List.getElem?_eq_some_iff.mp hm).1
        simp only [decide_eq_true_eq] at hu
        omega
      have ha : ad μ n = a := by
        show μ.getD n 0 = a
        rw [List.getD_eq_getElem?_getD, hm]; rfl
      cases hS : S[n]? with
      | none => simp only [hS] at e; cases e
      | some o =>
        have ob := ok.at_ n o a hS hm
        cases o with
        | lst ds =>
          simp only [hS] at e ⊢
          obtain ⟨ds2, e1, rfl⟩ := Option.map_eq_some_iff.mp e
          obtain ⟨vs, q, r⟩ := ob
          obtain ⟨fp2, r2, p2, n2⟩ := ihs ds vs [] ds2 r e1
          refine ⟨fp2 ++ [a], ⟨a, vs, fp2, ev, q, r2, rfl⟩, ?_, fun m mm => ?_⟩
          · simp only [List.map_append, List.nil_append]
            refine (p2.append_right [a]).trans ?_
            rw [List.nil_append]
            show List.Perm _ (List.map (ad μ) (ds.flatMap (taken S b k)) ++ [ad μ n])
            rw [ha]
          · rcases List.mem_append.mp mm with mm | mm
            · exact n2 m mm
            · have : m = n := by simpa using mm
              subst this; exact hn
        | dct ks ds =>
          simp only [hS] at e ⊢
          obtain ⟨ds2, e1, rfl⟩ := Option.map_eq_some_iff.mp e
          obtain ⟨us, q, r⟩ := ob
          obtain ⟨fp2, r2, p2, n2⟩ := ihs ds us [] ds2 r e1
          refine ⟨fp2 ++ [a], ⟨a, us, fp2, ev, q, r2, rfl⟩, ?_, fun m mm => ?_⟩
          · simp only [List.map_append, List.nil_append]
            refine (p2.append_right [a]).trans ?_
            rw [List.nil_append]
            show List.Perm _ (List.map (ad μ) (ds.flatMap (taken S b k)) ++ [ad μ n])
            rw [ha]
          · rcases List.mem_append.mp mm with mm | mm
            · exact n2 m mm
            · have : m = n := by simpa using mm
              subst this; exact hn
        | _ => simp only [hS] at e; cases e
    | _ => cases e
theorem unders_get : ∀ (ds : List D) (i : Nat) (d : D), unders b ds = true → ds[i]? = some d → d.under b = true
  | [], i, d, _, h => by simp at h
  | x :: ds, i, d, u, h => by
    unfold unders at u
    obtain ⟨u1, u2⟩ := Bool.and_eq_true_iff.mp u
    cases i with
    | zero => simp at h; subst h; exact u1
    | succ j => exact unders_get ds j d u2 (by simpa using h)
theorem StOk.cut (ok : StOk T H μ S) (hc : closed b S = true) : StOk T H (μ.take b) (S.take b) := by
  refine ⟨by simp [ok.len], ok.nd.sublist (List.take_sublist _ _), fun n d a h1 h2 => ?_⟩
  have hn : n < b := by
    have := (List.getElem?_eq_some_iff.mp h1).1
    rw [List.length_take] at this; omega
  have u := unders_get _ n d hc h1
  rw [List.getElem?_take_of_lt hn] at h1 h2
  have q := ok.at_ n d a h1 h2
  cases d with
  | lst ds => obtain ⟨vs, e, r⟩ := q; exact ⟨vs, e, Reps.narrow _ _ _ r (by unfold D.under at u; exact u)⟩
  | dct ks ds => obtain ⟨us, e, r⟩ := q; exact ⟨us, e, Reps.narrow _ _ _ r (by unfold D.under at u; exact (Bool.and_eq_true_iff.mp u).2)⟩
  | _ => exact q.elim
end
section
variable {T : Pgm} {H H' : Hp} {μ μ' fp : List Addr} {S S' : Sto}
theorem StpO.wide (s : Stp H (μ ++ fp) H' μ') : StpO fp H μ H' μ' := by
  obtain ⟨e, he, f⟩ := s.ext
  exact ⟨⟨fp ++ e, by rw [he, List.append_assoc], fun a m => (List.mem_append.mp m).elim .inl fun m => .inr (f a m)⟩, fun b o h n1 n2 => s.fr b o h fun m => (List.mem_append.mp m).elim n1 n2, s.dom⟩
theorem StpO.back (s : Stp H (μ ++ fp) H' μ') : StpO fp H μ H' (μ'.take μ.length) := by
  obtain ⟨e, he, f⟩ := s.ext
  have : μ'.take μ.length = μ := by rw [he, List.append_assoc, List.take_left]
  rw [this]
  exact ⟨⟨[], by simp, by simp⟩, fun b o h n1 n2 => s.fr b o h fun m => (List.mem_append.mp m).elim n1 n2, s.dom⟩
theorem leave_ok {d d2 : D} {v : V} {f : List Addr} {S2 : Sto} (hl : S.length = μ.length) (p : Pst T H (μ ++ fp) d S' v H' μ' f) (e : leave S.length d S' = some (.ok d2 S2)) {Q : VK} (q : OutM T H μ fp S2 d2 Q) : Q v H' := by
  unfold leave at e
  by_cases hc : closed S.length S' = true
  · rw [if_pos hc] at e
    cases hr : reify S' S.length 9 d with
    | none => rw [hr] at e; cases e
    | some dr =>
      simp only [hr] at e
      by_cases hn : (taken S' S.length 9 d).Nodup
      case neg => rw [if_neg hn] at e; cases e
      rw [if_pos hn] at e
      cases e
      obtain ⟨fp2, r2, p2, n2⟩ := reify_ok p.ok 9 d v f d2 p.rep hr
      rw [hl] at r2 n2 hc hn p2 q
      have sb := StpO.back p.stp
      have inj : ∀ n ∈ taken S' μ.length 9 d, ∃ h : n < μ'.length, ad μ' n = μ'[n] := fun n m => ⟨(n2 n m).2, by
        show μ'.getD n 0 = _
        rw [List.getD_eq_getElem?_getD, List.getElem?_eq_getElem (n2 n m).2]; rfl⟩
      have ndt : ((taken S' μ.length 9 d).map (ad μ')).Nodup := by
        refine nodup_map_on ?_ hn
        intro x hx y hy exy
        obtain ⟨lx, ex⟩ := inj x hx
        obtain ⟨ly, ey⟩ := inj y hy
        rw [ex, ey] at exy
        exact (List.getElem_inj p.ok.nd).mp exy
      obtain ⟨m1, m2, m3⟩ := List.nodup_append.mp p.nd
      have ndf : (f ++ (taken S' μ.length 9 d).map (ad μ')).Nodup := by
        refine List.nodup_append.mpr ⟨m2, ndt, fun x hx y hy exy => ?_⟩
        subst exy
        obtain ⟨n, hn', en⟩ := List.mem_map.mp hy
        obtain ⟨ln, e1⟩ := inj n hn'
        exact m3 x (by rw [← en, e1]; exact List.getElem_mem ln) x hx rfl
      refine q v H' _ fp2 sb (p.ok.cut hc) r2 ?_ fun a m => ?_
      · refine List.nodup_append.mpr ⟨p.ok.nd.sublist (List.take_sublist _ _), (p2.nodup_iff).mpr ndf, fun x hx y hy exy => ?_⟩
        subst exy
        rcases List.mem_append.mp (p2.mem_iff.mp hy) with hy | hy
        · exact m3 x (List.mem_of_mem_take hx) x hy rfl
        · obtain ⟨n, hn', en⟩ := List.mem_map.mp hy
          obtain ⟨ln, e1⟩ := inj n hn'
          obtain ⟨i, hi, ei⟩ := List.mem_iff_getElem.mp hx
          rw [List.length_take] at hi
          rw [List.getElem_take] at ei
          have : i = n := (List.getElem_inj p.ok.nd).mp (by rw [ei, ← en, e1])
          have := (n2 n hn').1
          omega
      · rcases List.mem_append.mp (p2.mem_iff.mp m) with m | m
        · exact .inr (p.new a m)
        · obtain ⟨n, hn', en⟩ := List.mem_map.mp m
          obtain ⟨ln, e1⟩ := inj n hn'
          obtain ⟨e, he, fr⟩ := p.stp.ext
          have hge := (n2 n hn').1
          have ha : a = μ'[n] := by rw [← en, e1]
          have hmem : a ∈ μ'.drop μ.length := by
            rw [ha]
            refine List.mem_iff_getElem.mpr ⟨n - μ.length, by rw [List.length_drop]; omega, ?_⟩
            rw [List.getElem_drop]
            congr 1; omega
          rw [he, List.append_assoc, List.drop_left] at hmem
          rcases List.mem_append.mp hmem with m | m
          · exact .inl m
          · exact .inr (fr a m)
  · rw [if_neg hc] at e
    cases e
    exact q v H' μ' f (StpO.wide p.stp) p.ok p.rep p.nd fun a m => .inr (p.new a m)
theorem leaveX_ok {c : Nat} {E : XK} (hl : S.length = μ.length) (s : Stp H (μ ++ fp) H' μ') (ok : StOk T H' μ' S') (q : ∀ H' μ', StpO fp H μ H' μ' → StOk T H' μ' (if closed S.length S' = true then S'.take S.length else S') → E (.ref (T.C c)) none H') : E (.ref (T.C c)) none H' := by
  by_cases hc : closed S.length S' = true
  · rw [if_pos hc] at q
    rw [hl] at q hc
    exact q H' _ (StpO.back s) (ok.cut hc)
  · rw [if_neg hc] at q
    exact q H' μ' (StpO.wide s) ok
end
end Ev
end
section
set_option Elab.async false
set_option linter.all false
set_option maxRecDepth 100000
namespace Ev
open PySem PySem.Spec PyProof.Rows L2 PySem.SeqAt
structure Row where
  fn : Fn
  nm : Str
  N : List Str
  params : Arguments
  body : List Stmt
  scope : Scope
def Row.ps (r : Row) : List Str := r.N.take r.fn.np
structure Txt0 where
  rows : List Row
  cnames : List Str
  consts : List (Str × D)
def Txt0.cc (t : Txt0) (r : Row) : CC := ⟨r.N, t.rows.map (·.nm), t.cnames, t.consts, r.scope⟩
def Txt0.fns (t : Txt0) : List Fn := t.rows.map (·.fn)
def chkSc (r : Row) : Bool := (match r.scope.kind with | .function => true | _ => false) && !r.scope.isCoroutine && !r.scope.isGenerator && decide r.N.Nodup && decide (r.fn.np ≤ r.N.length) && decide (r.fn.ns = r.N.length) && r.ps.all (loc r.scope) && r.scope.names.all (fun y => match y.2 with | .free => false | _ => true)
def chkRow (t : Txt0) (r : Row) : Bool := chkSc r && chkB (chkS 40 (t.cc r)) r.fn.body r.body
theorem ps_len {r : Row} (h : r.fn.np ≤ r.N.length) : r.ps.length = r.fn.np := by
  unfold Row.ps; rw [List.length_take]; omega
theorem scope_ok {r : Row} (h : chkSc r = true) : FnScope r.N r.ps r.scope ∧ r.fn.np ≤ r.N.length ∧ r.fn.ns = r.N.length := by
  unfold chkSc at h
  simp only [Bool.and_eq_true, decide_eq_true_eq, Bool.not_eq_true', List.all_eq_true] at h
  obtain ⟨⟨⟨⟨⟨⟨⟨h1, h2⟩, h3⟩, h4⟩, h5⟩, h6⟩, h7⟩, h8⟩ := h
  refine ⟨⟨?_, h2, h3, h4, ?_, fun x hx => loc_ok (h7 x hx), fun y hy e => ?_⟩, h5, h6⟩
  · split at h1
    · assumption
    · cases h1
  · rw [ps_len h5]; rfl
  · have := h8 y hy
    rw [e] at this; cases this
/-- what stands behind the top -/
structure Stands (P : Program) (w : World) (K : PySem.W.Frag) (mg : Str → Option Value) (C : Nat → Addr) (isa : Nat → Ty → Bool) (t : Txt0) : Prop where
  ec : ExcK K C isa
  cls : ∀ (c : Nat) (x : Str), t.cnames[c]? = some x → mg x = some (.ref (C c))
  con : ∀ (x : Str) (d : D), t.consts.lookup x = some d → ∃ u v, mg x = some u ∧ RelV v u ∧ scalV d v
  free : ∀ x ∈ bltNames, mg x = none
  funs : ∀ (f : Nat) (r : Row), t.rows[f]? = some r → ∃ addr fd, mg r.nm = some (.ref addr) ∧ FunD K r.nm r.nm r.params r.body r.scope [] [] addr fd ∧ Binds K fd r.ps []
theorem env_start {T : Pgm} {H : Hp} {μ : List Addr} {N : List Str} {vs : List V} {ds : List D} {ns : Nat} (hn : ns = N.length) (r : Reps T H μ ds vs []) : EnvOk T H μ (L2.start N vs) (startE ns ds) := by
  have hl := Reps.len _ _ _ r
  refine ⟨by unfold L2.start startE; simp [hl, hn], fun i d e => ?_⟩
  unfold startE at e
  unfold L2.start
  by_cases hi : i < ds.length
  · rw [List.getElem?_append_left (by simpa using hi), List.getElem?_map] at e
    obtain ⟨x, e1, e2⟩ := Option.map_eq_some_iff.mp e
    cases e2
    obtain ⟨v, f, h1, h2, h3⟩ := Reps.get _ _ _ _ _ r e1
    have hf : f = [] := List.sublist_nil.mp h3
    subst hf
    refine ⟨v, ?_, h2⟩
    rw [List.getElem?_append_left (by rw [List.length_map, hl]; exact hi), List.getElem?_map, h1]; rfl
  · rw [List.getElem?_append_right (by simpa using hi)] at e
    rw [List.getElem?_replicate] at e
    split at e
    · cases e
    · cases e
theorem fns_ok {P : Program} {w : World} {K : PySem.W.Frag} {mg : Str → Option Value} {base : Heap} {C : Nat → Addr} {isa : Nat → Ty → Bool} {t : Txt0} (St : Stands P w K mg C isa t) (hchk : ∀ r ∈ t.rows, chkRow t r = true) :
    ∀ (n f : Nat) (r : Row), t.rows[f]? = some r → ∀ addr fd, FunD K r.nm r.nm r.params r.body r.scope [] [] addr fd → FnOk P w K mg base (L2.CX P w) n addr fd r.ps (spF ⟨K, w, C⟩ (callN t.fns isa n f))
  | 0, f, r, hr, addr, fd, F => by
    have no : ∀ vs H Q E, spF ⟨K, w, C⟩ (callN t.fns isa 0 f) vs H Q E → False := fun vs H Q E ⟨ds, S, μ, fp, _, _, _, h⟩ => h
    exact ⟨fun vs H Q E h => (no vs H Q E h).elim, fun A outer s H args us vs Q E _ _ _ _ h => (no vs H Q E h).elim⟩
  | n + 1, f, r, hr, addr, fd, F => by
    have ih := fns_ok (base := base) St hchk n
    have hc := hchk r (List.mem_of_getElem? hr)
    unfold chkRow at hc
    obtain ⟨hc1, hc2⟩ := Bool.and_eq_true_iff.mp hc
    obtain ⟨sc, hnp, hns⟩ := scope_ok hc1
    have hfn : t.fns[f]? = some r.fn := by unfold Txt0.fns; rw [List.getElem?_map, hr]; rfl
    refine F.ok sc (fun vs H Q E ⟨ds, S, μ, fp, rs, ok, nd, h⟩ => ?_) fun cdv A outer s H vs Q E hroom ⟨ds, S, μ, fp, rs, ok, nd, h⟩ => ?_
    · rw [ps_len hnp, Reps.len _ _ _ rs]
      unfold callN at h
      rw [hfn] at h
      by_cases hl : ds.length = r.fn.np
      · exact hl
      · simp only [if_neg hl] at h
    · have G : Good C (fun c d _ H => E c d H) n ⟨callN t.fns isa n, isa⟩ (t.cc r) (cxOf (L2.CX P w) P w K mg base r.N r.nm r.scope addr cdv A outer s H E) := by
        refine ⟨rfl, hroom, takes_of rfl rfl rfl rfl, rfl, sc.nd, ScOk.refl _, fun _ _ => .inl rfl, St.ec, fun f' x hx => ?_, St.cls, St.con, St.free⟩
        have hx' : (t.rows.map (·.nm))[f']? = some x := hx
        rw [List.getElem?_map] at hx'
        obtain ⟨r', e1, e2⟩ := Option.map_eq_some_iff.mp hx'
        obtain ⟨addr', fd', q1, q2, q3⟩ := St.funs f' r' e1
        subst e2
        exact ⟨addr', fd', r'.ps, q1, q2.kp, q3, ih f' r' e1 addr' fd' q2⟩
      have hp := passes_of (X := cxOf (L2.CX P w) P w K mg base r.N r.nm r.scope addr cdv A outer s H E) rfl
      refine ⟨_, main_b (main_s G hp 40) _ _ hc2, ?_⟩
      unfold callN at h
      rw [hfn] at h
      by_cases hl : ds.length = r.fn.np
      case neg => simp only [if_neg hl] at h
      simp only [if_pos hl] at h
      obtain ⟨r1, ok1⟩ := settles_ok ds vs fp μ S rs ok nd
      refine ⟨startE r.fn.ns (settles ds S).1, (settles ds S).2, μ ++ fp, env_start hns r1, ok1, ?_⟩
      cases hv : execB ⟨callN t.fns isa n, isa⟩ r.fn.body (startE r.fn.ns (settles ds S).1) (settles ds S).2 with
      | none => rw [hv] at h; exact h.elim
      | some q =>
        obtain ⟨fl, S'⟩ := q
        rw [hv] at h
        cases fl with
        | nx ρ' =>
          intro σ' H' μ' s' ok' _
          cases hlv : leave S.length .non S' with
          | none => simp only [hlv] at h
          | some q =>
            simp only [hlv] at h
            cases q with
            | ok d2 S2 => exact leave_ok ok.len (Pst.flat (d := .non) (v := .non) s' ok' ⟨rfl, rfl⟩) hlv h
            | ex c S2 =>
              exfalso
              unfold leave at hlv
              split at hlv
              · split at hlv
                · split at hlv <;> cases hlv
                · cases hlv
              · cases hlv
        | ret d =>
          intro v H' μ' f' p
          cases hlv : leave S.length d S' with
          | none => simp only [hlv] at h
          | some q =>
            simp only [hlv] at h
            cases q with
            | ok d2 S2 => exact leave_ok ok.len p hlv h
            | ex c S2 =>
              exfalso
              unfold leave at hlv
              split at hlv
              · split at hlv
                · split at hlv <;> cases hlv
                · cases hlv
              · cases hlv
        | ex c =>
          intro σ' H' μ' s' ok'
          simp only [leaveX] at h
          exact leaveX_ok (T := ⟨K, w, C⟩) ok.len s' ok' h
/-- the law's def is handed the script -/
theorem law_sp {K : PySem.W.Frag} {w : World} {C : Nat → Addr} {fns : List Fn} {isa : Nat → Ty → Bool} {n f : Nat} {H : Hp} {a : Addr} {ns : List Int} (hO : Only H) (hS : SqL K H a (ns.map V.int))
    (h : ∃ S', callN fns isa n f [.fz (ns.map .int)] [] = some (.ok (.bl true) S')) : spF ⟨K, w, C⟩ (callN fns isa n f) [.ref a] H (fun v _ => v = .bl true) fun _ _ _ => False := by
  obtain ⟨S', h⟩ := h
  have rs : ∀ ns : List Int, Reps ⟨K, w, C⟩ H [] (ns.map .int) (ns.map V.int) [] := fun ns => by
    induction ns with
    | nil => exact ⟨rfl, rfl⟩
    | cons i ns ih => exact ⟨.int i, ns.map V.int, [], [], rfl, ⟨rfl, rfl⟩, ih, rfl⟩
  have fz : FzAt K H a (ns.map V.int) := by
    rcases hS with (h | h) | h
    · rcases hO a with e | ⟨_, _, e⟩ <;> (rw [h] at e; cases e)
    · exact .inl h
    · exact .inr h
  refine ⟨[.fz (ns.map .int)], [], [], [], ⟨.ref a, [], [], [], rfl, ⟨a, _, rfl, fz, rs ns, rfl⟩, ⟨rfl, rfl⟩, rfl⟩, ⟨rfl, List.nodup_nil, fun n d a h => by simp at h⟩, List.nodup_nil, ?_⟩
  rw [h]
  exact fun v H' μ' fp _ _ r _ _ => r.1
/-- where nothing is let out -/
theorem fn_noX {P : Program} {w : World} {K : PySem.W.Frag} {mg : Str → Option Value} {base : Heap} {k : Nat} {f : Addr} {fd : FuncData} {ps : List Str} {sp : Sp} (F : FnOk P w K mg base (L2.CX P w) k f fd ps sp) :
    FnOk P w K mg base CX0 k f fd ps (fun vs H Q _ => sp vs H Q fun _ _ _ => False) := by
  refine ⟨fun vs H Q E h => F.len _ _ _ _ h, fun A outer s H args us vs Q E hr e0 hb hv hs => codeAny_mono (F.run A outer s H args us vs Q _ hr e0 hb hv hs) fun r s' h => ?_⟩
  cases r with
  | ok v =>
    cases v <;> exact h
  | error e =>
    obtain ⟨_, _, _, _, _, _, _, _, _, _, _, _, z⟩ := h
    exact z.elim
end Ev
end
section
set_option Elab.async false
set_option linter.all false
set_option maxRecDepth 100000
namespace Pg
open PySem Ev
def b_put_names : List PS := [.ife (.cmp .in_ (.idx (.var 0) (.cst (.int 0))) (.tup [(.cst (.str "unknown")), (.cst (.str "is")), (.cst (.str "apply")), (.cst (.str "row"))])) [.setI (.var 1) (.idx (.var 0) (.cst (.int 1))) (.cst (.bl true))] [],
  .for_ (.nm 2) .val [(.sl (.var 0) (.cst (.int 1)) (.cst .non))] [.ife (.isi (.var 2) [.tuple]) [.ife (.and (.cmp .ne (.var 2) (.tup [])) (.isi (.idx (.var 2) (.cst (.int 0))) [.str])) [.expr (.call 0 [(.var 2), (.var 1)])] [.for_ (.nm 3) .val [(.var 2)] [.expr (.call 0 [(.var 3), (.var 1)])]]] []]]
def n_put_names : List Str := ["thing", "names", "part", "inner"]
def b_names_in : List PS := [.set 1 (.dct0),
  .expr (.call 0 [(.var 0), (.var 1)]),
  .ret (.blt .sorted [(.var 1)])]
def n_names_in : List Str := ["wish", "names"]
def b_size_of_part : List PS := [.ife (.not (.isi (.var 0) [.tuple])) [.ret (.cst (.int 0))] [],
  .ret (.bin .add (.blt .int [(.and (.cmp .ne (.var 0) (.tup [])) (.isi (.idx (.var 0) (.cst (.int 0))) [.str]))]) (.blt .sum [(.comp (.nm 1) .val [(.var 0)] [] (.call 2 [(.var 1)]))]))]
def n_size_of_part : List Str := ["thing", "part"]
def b_size_of : List PS := [.ret (.blt .sum [(.comp (.nm 1) .val [(.var 0)] [] (.call 2 [(.var 1)]))])]
def n_size_of : List Str := ["wishes", "wish"]
def b__law_int : List PS := [.ret (.and (.isi (.var 0) [.int]) (.not (.isi (.var 0) [.bool])))]
def n__law_int : List Str := ["_law_found"]
def b__law_cell_at : List PS := [.ife (.cmp .lt (.var 1) (.blt .len [(.var 0)])) [.ret (.idx (.var 0) (.var 1))] [],
  .ret (.cst (.int 0))]
def n__law_cell_at : List Str := ["_law_script", "_law_k"]
def b__law_stream : List PS := [.set 2 (.lst []),
  .set 3 (.blt .abs [(.var 0)]),
  .for_ (.nm 4) .rng1 [(.var 1)] [.expr (.mth .append (.var 2) [(.bin .mod (.var 3) (.cst (.int 1000003)))]), .set 3 (.bin .fdiv (.var 3) (.cst (.int 1000003)))],
  .ife (.cmp .gt (.var 3) (.cst (.int 0))) [.ret (.var 2)] [],
  .set 5 (.lst []),
  .set 6 (.bin .add (.bin .mod (.var 0) (.cst (.int 2147483647))) (.cst (.int 48271))),
  .set 7 (.bin .add (.bin .mod (.var 0) (.cst (.int 2147483629))) (.cst (.int 16807))),
  .for_ (.nm 4) .rng1 [(.var 1)] [.set 6 (.bin .mod (.bin .mul (.var 6) (.cst (.int 48271))) (.cst (.int 2147483647))), .set 7 (.bin .mod (.bin .add (.bin .mul (.var 7) (.cst (.int 69621))) (.var 4)) (.cst (.int 2147483629))), .expr (.mth .append (.var 5) [(.bin .fdiv (.bin .add (.var 6) (.var 7)) (.cst (.int 7)))])],
  .ret (.var 5)]
def n__law_stream : List Str := ["_law_cell", "_law_many", "_law_digits", "_law_left", "_law_k", "_law_found", "_law_number", "_law_other"]
def b__law_world : List PS := [.set 1 (.bin .sub (.bin .mod (.idx (.var 0) (.cst (.int 0))) (.cst (.int 5))) (.cst (.int 2))),
  .set 2 (.tup [(.cst (.str "range")), (.var 1), (.bin .add (.var 1) (.bin .mod (.bin .fdiv (.idx (.var 0) (.cst (.int 0))) (.cst (.int 5))) (.cst (.int 4))))]),
  .set 3 (.tup [(.cst (.str "table")), (.bin .add (.cst (.int 2)) (.bin .mod (.idx (.var 0) (.cst (.int 1))) (.cst (.int 2))))]),
  .set 4 (.tup [(.cst (.str "table")), (.bin .sub (.cst (.int 3)) (.bin .mod (.idx (.var 0) (.cst (.int 1))) (.cst (.int 2))))]),
  .set 5 (.tup [(.cst (.str "fraction"))]),
  .set 6 (.lst [(.tup [(.cst (.str "unknown")), (.cst (.str "p")), (.tup [(.cst (.str "truth"))])]), (.tup [(.cst (.str "unknown")), (.cst (.str "x")), (.var 2)]), (.tup [(.cst (.str "unknown")), (.cst (.str "y")), (.var 5)]), (.tup [(.cst (.str "unknown")), (.cst (.str "c")), (.var 3)])]),
  .set 6 (.bin .add (.var 6) (.lst [(.tup [(.cst (.str "unknown")), (.cst (.str "d")), (.var 4)]), (.tup [(.cst (.str "unknown")), (.cst (.str "q")), (.tup [(.cst (.str "truth"))])]), (.tup [(.cst (.str "unknown")), (.cst (.str "z")), (.var 2)])])),
  .set 7 (.lst [(.lst [(.tup [(.cst (.str "function")), (.cst (.str "f")), (.tup [(.var 5)]), (.var 5)]), (.tup [(.cst (.str "function")), (.cst (.str "g")), (.tup [(.var 5)]), (.var 5)])])]),
  .expr (.mth .append (.var 7) [(.lst [(.tup [(.cst (.str "function")), (.cst (.str "h")), (.tup [(.var 3)]), (.var 4)]), (.tup [(.cst (.str "function")), (.cst (.str "i")), (.tup [(.var 3)]), (.var 4)])])]),
  .expr (.mth .append (.var 7) [(.lst [(.tup [(.cst (.str "function")), (.cst (.str "j")), (.tup [(.var 5)]), (.var 3)]), (.tup [(.cst (.str "function")), (.cst (.str "k")), (.tup [(.var 4), (.var 5)]), (.var 3)])])]),
  .expr (.mth .append (.var 7) [(.lst [(.tup [(.cst (.str "row")), (.cst (.str "a")), (.var 5), (.var 5)]), (.tup [(.cst (.str "row")), (.cst (.str "b")), (.var 5), (.var 5)])])]),
  .expr (.mth .append (.var 7) [(.lst [(.tup [(.cst (.str "row")), (.cst (.str "r")), (.var 3), (.var 4)]), (.tup [(.cst (.str "row")), (.cst (.str "s")), (.var 3), (.var 4)])])]),
  .expr (.mth .append (.var 7) [(.lst [(.tup [(.cst (.str "row")), (.cst (.str "t")), (.var 5), (.var 4)]), (.tup [(.cst (.str "row")), (.cst (.str "u")), (.var 4), (.var 5)])])]),
  .expr (.mth .append (.var 7) [(.lst [(.tup [(.cst (.str "function")), (.cst (.str "l")), (.tup [(.var 4)]), (.var 2)]), (.tup [(.cst (.str "function")), (.cst (.str "m")), (.tup [(.var 4)]), (.var 3)])])]),
  .set 8 (.bin .mod (.idx (.var 0) (.cst (.int 2))) (.cst (.int 7))),
  .set 9 (.bin .mod (.bin .add (.bin .add (.var 8) (.cst (.int 1))) (.bin .mod (.idx (.var 0) (.cst (.int 3))) (.cst (.int 6)))) (.cst (.int 7))),
  .set 10 (.sl (.idx (.var 7) (.var 9)) (.cst .non) (.bin .mod (.bin .fdiv (.idx (.var 0) (.cst (.int 3))) (.cst (.int 6))) (.cst (.int 2)))),
  .ret (.blt .tuple [(.bin .add (.bin .add (.sl (.var 6) (.bin .mod (.idx (.var 0) (.cst (.int 4))) (.cst (.int 2))) (.bin .add (.cst (.int 4)) (.bin .mod (.bin .fdiv (.idx (.var 0) (.cst (.int 4))) (.cst (.int 2))) (.cst (.int 4))))) (.idx (.var 7) (.var 8))) (.var 10))])]
def n__law_world : List Str := ["_law_xs", "_law_low", "_law_span", "_law_two", "_law_three", "_law_one", "_law_some", "_law_groups", "_law_at", "_law_beside", "_law_more"]
def b__law_sort : List PS := [.ife (.cmp .eq (.idx (.var 0) (.cst (.int 0))) (.cst (.str "truth"))) [.ret (.cst (.non))] [],
  .ife (.cmp .eq (.idx (.var 0) (.cst (.int 0))) (.cst (.str "table"))) [.ret (.var 0)] [],
  .ret (.cst (.str "number"))]
def n__law_sort : List Str := ["_law_kind"]
def b__law_constant : List PS := [.set 1 (.idx (.lst [(.cst (.int 1)), (.cst (.int 1)), (.cst (.int 2)), (.bin .add (.cst (.int 1)) (.bin .mod (.var 0) (.cst (.int 1000))))]) (.bin .mod (.var 0) (.cst (.int 4)))),
  .set 2 (.idx (.lst [(.bin .sub (.bin .mod (.bin .fdiv (.var 0) (.cst (.int 4))) (.cst (.int 9))) (.cst (.int 4))), (.bin .sub (.bin .mod (.bin .fdiv (.var 0) (.cst (.int 4))) (.cst (.int 2000001))) (.bin .pow (.cst (.int 10)) (.cst (.int 6))))]) (.bin .fdiv (.bin .mod (.bin .fdiv (.var 0) (.cst (.int 4))) (.cst (.int 8))) (.cst (.int 7)))),
  .set 3 (.blt .abs [(.var 2)]),
  .set 4 (.var 1),
  .while_ (.cmp .ne (.var 4) (.cst (.int 0))) [.par [3, 4] [(.var 4), (.bin .mod (.var 3) (.var 4))]],
  .ret (.tup [(.cst (.str "number")), (.bin .fdiv (.var 2) (.var 3)), (.bin .fdiv (.var 1) (.var 3))])]
def n__law_constant : List Str := ["_law_number", "_law_bottom", "_law_top", "_law_one", "_law_other"]
def b__law_leaf : List PS := [.set 3 (.comp (.nm 4) .val [(.var 0)] [(.and (.cmp .eq (.idx (.var 4) (.cst (.int 0))) (.cst (.str "unknown"))) (.cmp .eq (.call 8 [(.idx (.var 4) (.cst (.int 2)))]) (.var 1)))] (.var 4)),
  .ife (.and (.cmp .ne (.var 3) (.lst [])) (.cmp .gt (.bin .mod (.var 2) (.cst (.int 4))) (.cst (.int 0)))) [.ret (.tup [(.cst (.str "unknown")), (.idx (.idx (.var 3) (.bin .mod (.bin .fdiv (.var 2) (.cst (.int 4))) (.blt .len [(.var 3)]))) (.cst (.int 1)))])] [],
  .ife (.cmp .eq (.var 1) (.cst (.str "number"))) [.ret (.call 9 [(.bin .fdiv (.var 2) (.cst (.int 4)))])] [],
  .ret (.tup [(.cst (.str "member")), (.idx (.var 1) (.cst (.int 1))), (.bin .mod (.bin .fdiv (.var 2) (.cst (.int 4))) (.idx (.var 1) (.cst (.int 1))))])]
def n__law_leaf : List Str := ["_law_world_here", "_law_sort_here", "_law_number", "_law_some", "_law_row_here"]
def b__law_row : List PS := [.set 4 (.cst (.int 0)),
  .ife (.cmp .ne (.var 2) (.lst [])) [.set 4 (.mth .pop (.var 2) [])] [],
  .ife (.or (.cmp .lt (.var 3) (.cst (.int 1))) (.cmp .eq (.bin .mod (.var 4) (.cst (.int 2))) (.cst (.int 0)))) [.ret (.tup [(.cst (.str "row")), (.idx (.var 1) (.cst (.int 1)))])] [],
  .set 5 (.call 11 [(.var 0), (.var 1), (.var 2), (.bin .sub (.var 3) (.cst (.int 1)))]),
  .set 6 (.call 14 [(.var 0), (.call 8 [(.idx (.var 1) (.cst (.int 2)))]), (.var 2), (.bin .sub (.var 3) (.cst (.int 1)))]),
  .ret (.tup [(.cst (.str "write")), (.var 5), (.var 6), (.call 14 [(.var 0), (.call 8 [(.idx (.var 1) (.cst (.int 3)))]), (.var 2), (.bin .sub (.var 3) (.cst (.int 1)))])])]
def n__law_row : List Str := ["_law_world_here", "_law_row_here", "_law_xs", "_law_depth", "_law_number", "_law_inner", "_law_place"]
def b__law_told_row : List PS := [.set 5 (.comp (.nm 6) .val [(.var 0)] [(.and (.cmp .eq (.idx (.var 6) (.cst (.int 0))) (.cst (.str "row"))) (.cmp .eq (.call 8 [(.idx (.var 6) (.cst (.int 3)))]) (.var 1)))] (.var 6)),
  .ife (.cmp .eq (.var 5) (.lst [])) [.ret (.call 10 [(.var 0), (.var 1), (.var 4)])] [],
  .set 6 (.idx (.var 5) (.bin .mod (.var 4) (.blt .len [(.var 5)]))),
  .set 7 (.call 11 [(.var 0), (.var 6), (.var 2), (.bin .sub (.var 3) (.cst (.int 1)))]),
  .ret (.tup [(.cst (.str "read")), (.var 7), (.call 14 [(.var 0), (.call 8 [(.idx (.var 6) (.cst (.int 2)))]), (.var 2), (.bin .sub (.var 3) (.cst (.int 1)))])])]
def n__law_told_row : List Str := ["_law_world_here", "_law_sort_here", "_law_xs", "_law_depth", "_law_number", "_law_rows", "_law_row_here", "_law_inner"]
def b__law_told_function : List PS := [.set 5 (.comp (.nm 6) .val [(.var 0)] [(.and (.cmp .eq (.idx (.var 6) (.cst (.int 0))) (.cst (.str "function"))) (.cmp .eq (.call 8 [(.idx (.var 6) (.cst (.int 3)))]) (.var 1)))] (.var 6)),
  .ife (.cmp .eq (.var 5) (.lst [])) [.ret (.call 10 [(.var 0), (.var 1), (.var 4)])] [],
  .set 6 (.idx (.var 5) (.bin .mod (.var 4) (.blt .len [(.var 5)]))),
  .ret (.tup [(.cst (.str "apply")), (.idx (.var 6) (.cst (.int 1))), (.blt .tuple [(.comp (.nm 7) .val [(.idx (.var 6) (.cst (.int 2)))] [] (.call 14 [(.var 0), (.call 8 [(.var 7)]), (.var 2), (.bin .sub (.var 3) (.cst (.int 1)))]))])])]
def n__law_told_function : List Str := ["_law_world_here", "_law_sort_here", "_law_xs", "_law_depth", "_law_number", "_law_rows", "_law_row_here", "_law_kind"]
def b__law_term : List PS := [.set 4 (.cst (.int 0)),
  .ife (.cmp .ne (.var 2) (.lst [])) [.set 4 (.mth .pop (.var 2) [])] [],
  .set 5 (.bin .mod (.var 4) (.cst (.int 8))),
  .set 4 (.bin .fdiv (.var 4) (.cst (.int 8))),
  .ife (.or (.cmp .lt (.var 3) (.cst (.int 1))) (.cmp .gt (.var 5) (.cst (.int 4)))) [.ret (.call 10 [(.var 0), (.var 1), (.var 4)])] [],
  .ife (.cmp .eq (.var 5) (.cst (.int 0))) [.ret (.call 13 [(.var 0), (.var 1), (.var 2), (.var 3), (.var 4)])] [],
  .ife (.or (.cmp .eq (.var 5) (.cst (.int 1))) (.cmp .ne (.var 1) (.cst (.str "number")))) [.ret (.call 12 [(.var 0), (.var 1), (.var 2), (.var 3), (.var 4)])] [],
  .ife (.cmp .eq (.var 5) (.cst (.int 4))) [.ret (.tup [(.cst (.str "times")), (.bin .sub (.bin .mod (.var 4) (.cst (.int 41))) (.cst (.int 20))), (.call 14 [(.var 0), (.var 1), (.var 2), (.bin .sub (.var 3) (.cst (.int 1)))])])] [],
  .ret (.tup [(.cst (.str "plus")), (.blt .tuple [(.comp (.nm 6) .rng1 [(.bin .add (.cst (.int 1)) (.bin .mod (.var 4) (.cst (.int 3))))] [] (.call 14 [(.var 0), (.var 1), (.var 2), (.bin .sub (.var 3) (.cst (.int 1)))]))])])]
def n__law_term : List Str := ["_law_world_here", "_law_sort_here", "_law_xs", "_law_depth", "_law_number", "_law_way", "_law_k"]
def b__law_compared : List PS := [.set 4 (.lst [(.cst (.str "number"))]),
  .for_ (.nm 5) .val [(.var 0)] [.ife (.and (.cmp .eq (.idx (.idx (.var 5) (.neg (.cst (.int 1)))) (.cst (.int 0))) (.cst (.str "table"))) (.cmp .notin (.idx (.var 5) (.neg (.cst (.int 1)))) (.var 4))) [.expr (.mth .append (.var 4) [(.idx (.var 5) (.neg (.cst (.int 1))))])] []],
  .set 6 (.idx (.var 4) (.bin .mod (.bin .fdiv (.var 3) (.cst (.int 4))) (.blt .len [(.var 4)]))),
  .ife (.cmp .gt (.bin .mod (.var 3) (.cst (.int 4))) (.cst (.int 1))) [.set 6 (.cst (.str "number"))] [],
  .set 7 (.call 14 [(.var 0), (.var 6), (.var 1), (.var 2)]),
  .ret (.tup [(.idx (.lst [(.cst (.str "equal")), (.cst (.str "equal")), (.cst (.str "most")), (.cst (.str "less"))]) (.bin .mod (.var 3) (.cst (.int 4)))), (.var 7), (.call 14 [(.var 0), (.var 6), (.var 1), (.var 2)])])]
def n__law_compared : List Str := ["_law_world_here", "_law_xs", "_law_depth", "_law_number", "_law_sorts", "_law_row_here", "_law_sort_here", "_law_one"]
def b__law_wish : List PS := [.set 4 (.cst (.int 0)),
  .ife (.cmp .ne (.var 1) (.lst [])) [.set 4 (.mth .pop (.var 1) [])] [],
  .set 5 (.bin .mod (.var 4) (.cst (.int 10))),
  .set 4 (.bin .fdiv (.var 4) (.cst (.int 10))),
  .set 6 (.comp (.nm 9) .val [(.var 0)] [(.and (.cmp .eq (.idx (.var 9) (.cst (.int 0))) (.cst (.str "unknown"))) (.cmp .eq (.idx (.idx (.var 9) (.cst (.int 2))) (.cst (.int 0))) (.cst (.str "truth"))))] (.idx (.var 9) (.cst (.int 1)))),
  .ife (.and (.cmp .lt (.var 5) (.cst (.int 2))) (.cmp .ne (.var 6) (.lst []))) [.ret (.tup [(.cst (.str "is")), (.idx (.var 6) (.bin .mod (.var 4) (.blt .len [(.var 6)])))])] [],
  .ife (.or (.cmp .lt (.var 2) (.cst (.int 1))) (.cmp .lt (.var 5) (.cst (.int 5)))) [.ret (.call 15 [(.var 0), (.var 1), (.var 3), (.var 4)])] [],
  .ife (.cmp .eq (.var 5) (.cst (.int 5))) [.ret (.tup [(.cst (.str "not")), (.call 16 [(.var 0), (.var 1), (.bin .sub (.var 2) (.cst (.int 1))), (.var 3)])])] [],
  .ife (.cmp .lt (.var 5) (.cst (.int 8))) [.set 8 (.comp (.nm 10) .rng1 [(.bin .mod (.var 4) (.cst (.int 4)))] [] (.call 16 [(.var 0), (.var 1), (.bin .sub (.var 2) (.cst (.int 1))), (.var 3)])), .ret (.tup [(.idx (.lst [(.cst (.str "all")), (.cst (.str "any"))]) (.bin .sub (.var 5) (.cst (.int 6)))), (.blt .tuple [(.var 8)])])] [],
  .set 7 (.call 16 [(.var 0), (.var 1), (.bin .sub (.var 2) (.cst (.int 1))), (.var 3)]),
  .ret (.tup [(.idx (.lst [(.cst (.str "if")), (.cst (.str "same"))]) (.bin .sub (.var 5) (.cst (.int 8)))), (.var 7), (.call 16 [(.var 0), (.var 1), (.bin .sub (.var 2) (.cst (.int 1))), (.var 3)])])]
def n__law_wish : List Str := ["_law_world_here", "_law_xs", "_law_depth", "_law_deep", "_law_number", "_law_way", "_law_truths", "_law_one", "_law_some", "_law_row_here", "_law_k"]
def b__law_tagged : List PS := [.set 1 (.lst []),
  .set 2 (.lst [(.var 0)]),
  .while_ (.cmp .ne (.var 2) (.lst [])) [.set 3 (.mth .pop (.var 2) []), .ife (.isi (.var 3) [.tuple]) [.ife (.and (.cmp .ne (.var 3) (.tup [])) (.isi (.idx (.var 3) (.cst (.int 0))) [.str])) [.expr (.mth .append (.var 1) [(.var 3)])] [], .expr (.mth .extend (.var 2) [(.var 3)])] []],
  .ret (.var 1)]
def n__law_tagged : List Str := ["_law_thing", "_law_found", "_law_left", "_law_part"]
def b__law_names : List PS := [.set 1 (.dct0),
  .for_ (.nm 2) .val [(.call 17 [(.var 0)])] [.ife (.cmp .in_ (.idx (.var 2) (.cst (.int 0))) (.tup [(.cst (.str "is")), (.cst (.str "unknown")), (.cst (.str "apply")), (.cst (.str "row"))])) [.setI (.var 1) (.idx (.var 2) (.cst (.int 1))) (.cst (.bl true))] []],
  .ret (.blt .sorted [(.var 1)])]
def n__law_names : List Str := ["_law_wish_here", "_law_names_here", "_law_part"]
def b_law : List PS := [.set 1 (.call 7 [(.call 6 [(.call 5 [(.var 0), (.cst (.int 0))]), (.cst (.int 5))])]),
  .set 2 (.lst []),
  .for_ (.nm 3) .val [(.bin .add (.lst [(.call 5 [(.var 0), (.cst (.int 0))])]) (.sl (.var 0) (.cst (.int 1)) (.cst (.int 21))))] [.set 6 (.call 6 [(.var 3), (.cst (.int 14))]), .expr (.mth .append (.var 2) [(.call 16 [(.var 1), (.sl (.var 6) (.cst (.int 3)) (.cst .non)), (.bin .add (.cst (.int 1)) (.bin .mod (.idx (.var 6) (.cst (.int 2))) (.cst (.int 4)))), (.bin .mod (.bin .fdiv (.idx (.var 6) (.cst (.int 2))) (.cst (.int 4))) (.cst (.int 3)))])])],
  .set 4 (.cst (.int 0)),
  .for_ (.nm 5) .val [(.var 2)] [.set 7 (.call 1 [(.var 5)]), .ife (.or (.not (.isi (.var 7) [.list])) (.cmp .ne (.var 7) (.call 18 [(.var 5)]))) [.ret (.cst (.bl false))] [], .expr (.mth .append (.var 7) [(.cst (.str "zz"))]), .set 8 (.call 3 [(.lst [(.var 5)])]), .ife (.or (.not (.call 4 [(.var 8)])) (.or (.cmp .ne (.var 8) (.blt .len [(.call 17 [(.var 5)])])) (.cmp .ne (.call 1 [(.var 5)]) (.call 18 [(.var 5)])))) [.ret (.cst (.bl false))] [], .set 4 (.bin .add (.var 4) (.var 8))],
  .ret (.and (.cmp .eq (.call 3 [(.var 2)]) (.var 4)) (.and (.cmp .eq (.call 3 [(.blt .tuple [(.var 2)])]) (.var 4)) (.cmp .eq (.call 3 [(.lst [])]) (.cst (.int 0)))))]
def n_law : List Str := ["_law_script", "_law_world_here", "_law_wishes", "_law_cell", "_law_every", "_law_wish_here", "_law_xs", "_law_found", "_law_size"]
def fns : List Fn := [⟨2, 4, b_put_names⟩, ⟨1, 2, b_names_in⟩, ⟨1, 2, b_size_of_part⟩, ⟨1, 2, b_size_of⟩, ⟨1, 1, b__law_int⟩, ⟨2, 2, b__law_cell_at⟩, ⟨2, 8, b__law_stream⟩, ⟨1, 11, b__law_world⟩, ⟨1, 1, b__law_sort⟩, ⟨1, 5, b__law_constant⟩, ⟨3, 5, b__law_leaf⟩, ⟨4, 7, b__law_row⟩, ⟨5, 8, b__law_told_row⟩, ⟨5, 8, b__law_told_function⟩, ⟨4, 7, b__law_term⟩, ⟨4, 8, b__law_compared⟩, ⟨4, 11, b__law_wish⟩, ⟨1, 4, b__law_tagged⟩, ⟨1, 3, b__law_names⟩, ⟨1, 9, b_law⟩]
end Pg
end
section
set_option Elab.async false
set_option linter.all false
set_option maxRecDepth 100000
namespace Ev
open PySem
/-! ### plain data -/
mutual
theorem pure_under (b : Nat) : ∀ d : D, d.pure = true → d.under b = true
  | .non, _ => rfl
  | .bl _, _ => rfl
  | .int _, _ => rfl
  | .str _, _ => rfl
  | .tup ds, h => by unfold D.pure at h; unfold D.under; exact pures_under b ds h
  | .lst _, h => by cases h
  | .dct _ _, h => by cases h
  | .fz _, h => by cases h
  | .ref _, h => by cases h
  | .exc _, h => by cases h
theorem pures_under (b : Nat) : ∀ ds : List D, pures ds = true → unders b ds = true
  | [], _ => rfl
  | d :: ds, h => by
    unfold pures at h
    obtain ⟨h1, h2⟩ := Bool.and_eq_true_iff.mp h
    unfold unders
    rw [pure_under b d h1, pures_under b ds h2]; rfl
end
mutual
theorem settle_pure : ∀ (d : D) (S : Sto), d.pure = true → settle d S = (d, S)
  | .non, _, _ => rfl
  | .bl _, _, _ => rfl
  | .int _, _, _ => rfl
  | .str _, _, _ => rfl
  | .tup ds, S, h => by
    unfold D.pure at h
    unfold settle
    rw [settles_pure ds S h]
  | .lst _, _, h => by cases h
  | .dct _ _, _, h => by cases h
  | .fz _, _, h => by cases h
  | .ref _, _, h => by cases h
  | .exc _, _, h => by cases h
theorem settles_pure : ∀ (ds : List D) (S : Sto), pures ds = true → settles ds S = (ds, S)
  | [], _, _ => rfl
  | d :: ds, S, h => by
    unfold pures at h
    obtain ⟨h1, h2⟩ := Bool.and_eq_true_iff.mp h
    unfold settles
    rw [settle_pure d S h1]
    simp only
    rw [settles_pure ds S h2]
end
theorem pures_all : ∀ ds : List D, pures ds = ds.all D.pure
  | [] => rfl
  | d :: ds => by unfold pures; rw [List.all_cons, pures_all ds]
theorem unders_all (b : Nat) : ∀ ds : List D, unders b ds = ds.all (D.under b)
  | [] => rfl
  | d :: ds => by unfold unders; rw [List.all_cons, unders_all b ds]
/-- every object of the store names objects of the store -/
def Cl (S : Sto) : Prop := unders S.length S = true
theorem Cl.nil : Cl [] := rfl
theorem closed_of {S l : Sto} (h : Cl S) : closed S.length (S ++ l) = true := by
  unfold closed
  rw [List.take_left]; exact h
mutual
theorem under_mono {a b : Nat} (hab : a ≤ b) : ∀ d : D, d.under a = true → d.under b = true
  | .non, _ => rfl
  | .bl _, _ => rfl
  | .int _, _ => rfl
  | .str _, _ => rfl
  | .exc _, _ => rfl
  | .tup ds, h => by unfold D.under at h ⊢; exact unders_mono hab ds h
  | .lst ds, h => by unfold D.under at h ⊢; exact unders_mono hab ds h
  | .fz ds, h => by unfold D.under at h ⊢; exact unders_mono hab ds h
  | .dct ks vs, h => by
    unfold D.under at h ⊢
    obtain ⟨h1, h2⟩ := Bool.and_eq_true_iff.mp h
    rw [unders_mono hab ks h1, unders_mono hab vs h2]; rfl
  | .ref n, h => by
    unfold D.under at h ⊢
    have := of_decide_eq_true h
    exact decide_eq_true (by omega)
theorem unders_mono {a b : Nat} (hab : a ≤ b) : ∀ ds : List D, unders a ds = true → unders b ds = true
  | [], _ => rfl
  | d :: ds, h => by
    unfold unders at h ⊢
    obtain ⟨h1, h2⟩ := Bool.and_eq_true_iff.mp h
    rw [under_mono hab d h1, unders_mono hab ds h2]; rfl
end
theorem Cl.app {S l : Sto} (h : Cl S) (hl : unders (S.length + l.length) l = true) : Cl (S ++ l) := by
  unfold Cl at h ⊢
  rw [List.length_append, unders_all, List.all_append, ← unders_all, ← unders_all, unders_mono (by omega) S h, hl]; rfl
theorem Cl.set {S : Sto} {i : Nat} {d : D} (h : Cl S) (hd : d.under S.length = true) : Cl (S.set i d) := by
  unfold Cl at h ⊢
  rw [List.length_set, unders_all, List.all_eq_true]
  rw [unders_all, List.all_eq_true] at h
  intro x hx
  rcases List.mem_or_eq_of_mem_set hx with m | m
  · exact h x m
  · rw [m]; exact hd
/-! ### calls -/
def finish (b : Nat) : Option (Fl × Sto) → Option (R D)
  | some (.nx _, S') => leave b .non S'
  | some (.ret d, S') => leave b d S'
  | some (.ex c, S') => leaveX b c S'
  | none => none
theorem call_eq {fns : List Fn} {isa : Nat → Ty → Bool} {n f : Nat} {ds : List D} {S : Sto} {np ns : Nat} {body : List PS} (hf : fns[f]? = some ⟨np, ns, body⟩) (hl : ds.length = np) :
    callN fns isa (n + 1) f ds S = finish S.length (execB ⟨callN fns isa n, isa⟩ body (startE ns (settles ds S).1) (settles ds S).2) := by
  conv => lhs; unfold callN
  rw [hf]
  simp only [hl, if_true]
  cases execB ⟨callN fns isa n, isa⟩ body (startE ns (settles ds S).1) (settles ds S).2 with
  | none => rfl
  | some q => obtain ⟨fl, S'⟩ := q; cases fl <;> rfl
theorem leave_pure {S l : Sto} {d : D} (hc : Cl S) (h : d.pure = true) : leave S.length d (S ++ l) = some (.ok d S) := by
  unfold leave
  rw [if_pos (closed_of hc)]
  unfold reify taken
  rw [pure_under _ d h]
  simp
theorem leave_pure0 {S : Sto} {d : D} (hc : Cl S) (h : d.pure = true) : leave S.length d S = some (.ok d S) := by
  have := leave_pure (l := []) hc h
  simpa using this
theorem mapM_pure {S : Sto} {b k : Nat} : ∀ ds : List D, pures ds = true → ds.mapM (reify S b (k + 1)) = some ds
  | [], _ => rfl
  | d :: ds, h => by
    unfold pures at h
    obtain ⟨h1, h2⟩ := Bool.and_eq_true_iff.mp h
    rw [List.mapM_cons, mapM_pure ds h2]
    unfold reify
    rw [pure_under b d h1]
    rfl
theorem taken_pure {S : Sto} {b k : Nat} : ∀ ds : List D, pures ds = true → ds.flatMap (taken S b (k + 1)) = []
  | [], _ => rfl
  | d :: ds, h => by
    unfold pures at h
    obtain ⟨h1, h2⟩ := Bool.and_eq_true_iff.mp h
    rw [List.flatMap_cons, taken_pure ds h2]
    unfold taken
    rw [pure_under b d h1]
    rfl
/-- a list of plain data is handed back -/
theorem leave_lst {S l : Sto} {k : Nat} {ds : List D} (hc : Cl S) (hk : l[k]? = some (.lst ds)) (h : pures ds = true) : leave S.length (.ref (S.length + k)) (S ++ l) = some (.ok (.lst ds) S) := by
  unfold leave
  rw [if_pos (closed_of hc)]
  have hu : (D.ref (S.length + k)).under S.length = false := by unfold D.under; exact decide_eq_false (by omega)
  have hg : (S ++ l)[S.length + k]? = some (.lst ds) := by
    rw [List.getElem?_append_right (by omega)]
    simpa using hk
  unfold reify taken
  simp only [hu, hg, mapM_pure ds h, taken_pure ds h]
  simp
/-- an own list that the def hands back at once -/
theorem leave_own {S l : Sto} {ds : List D} (hc : Cl S) (h : pures ds = true) : leave S.length (.lst ds) (S ++ l) = some (.ok (.lst ds) S) := by
  unfold leave
  rw [if_pos (closed_of hc)]
  have hu : (D.lst ds).under S.length = true := by unfold D.under; exact pures_under _ ds h
  unfold reify taken
  simp only [hu]
  simp
/-! ### the store as a base and what is laid behind it -/
theorem get_app {S l : Sto} {k : Nat} : (S ++ l)[S.length + k]? = l[k]? := by
  rw [List.getElem?_append_right (by omega)]; simp
theorem get_app0 {S l : Sto} : (S ++ l)[S.length]? = l[0]? := by
  rw [List.getElem?_append_right (by omega)]; simp
theorem set_app {S l : Sto} {k : Nat} {d : D} : (S ++ l).set (S.length + k) d = S ++ l.set k d := by
  rw [List.set_append_right _ _ (by omega)]; simp
theorem set_app0 {S l : Sto} {d : D} : (S ++ l).set S.length d = S ++ l.set 0 d := by
  rw [List.set_append_right _ _ (by omega)]; simp
theorem guard_none {α : Type} {S : Sto} {x : Option α} : guardS none S x = x := by
  unfold guardS
  exact if_pos trivial
theorem guard_some {α : Type} {S : Sto} {x : Option α} {n : Nat} {ds : List D} (h : S[n]? = some (.lst ds)) : guardS (some (n, ds)) S x = x := by
  unfold guardS
  exact if_pos h
end Ev
end
section
set_option Elab.async false
set_option linter.all false
set_option maxRecDepth 100000
namespace Ev
open PySem
section
variable {S l : Sto} {g : G} {ρ : Env}
@[simp] theorem leave_int0 {i : Int} (h : Cl S) : leave S.length (.int i) S = some (.ok (.int i) S) := leave_pure0 h rfl
@[simp] theorem leave_int {i : Int} (h : Cl S) : leave S.length (.int i) (S ++ l) = some (.ok (.int i) S) := leave_pure h rfl
@[simp] theorem leave_bl0 {i : Bool} (h : Cl S) : leave S.length (.bl i) S = some (.ok (.bl i) S) := leave_pure0 h rfl
@[simp] theorem leave_bl {i : Bool} (h : Cl S) : leave S.length (.bl i) (S ++ l) = some (.ok (.bl i) S) := leave_pure h rfl
@[simp] theorem leave_str0 {i : Str} (h : Cl S) : leave S.length (.str i) S = some (.ok (.str i) S) := leave_pure0 h rfl
@[simp] theorem leave_str {i : Str} (h : Cl S) : leave S.length (.str i) (S ++ l) = some (.ok (.str i) S) := leave_pure h rfl
@[simp] theorem leave_non0 (h : Cl S) : leave S.length .non S = some (.ok .non S) := leave_pure0 h rfl
@[simp] theorem leave_non (h : Cl S) : leave S.length .non (S ++ l) = some (.ok .non S) := leave_pure h rfl
@[simp] theorem leave_tup0 {ds : List D} (h : Cl S) (hp : pures ds = true) : leave S.length (.tup ds) S = some (.ok (.tup ds) S) := leave_pure0 h (by unfold D.pure; exact hp)
@[simp] theorem leave_tup {ds : List D} (h : Cl S) (hp : pures ds = true) : leave S.length (.tup ds) (S ++ l) = some (.ok (.tup ds) S) := leave_pure h (by unfold D.pure; exact hp)
/-! truth -/
@[simp] theorem truth_non : truth S .non = some false := rfl
@[simp] theorem truth_bl {b : Bool} : truth S (.bl b) = some b := rfl
@[simp] theorem truth_int {i : Int} : truth S (.int i) = some (i != 0) := rfl
@[simp] theorem truth_tup {ds : List D} : truth S (.tup ds) = some (!ds.isEmpty) := rfl
@[simp] theorem truth_lst {ds : List D} : truth S (.lst ds) = some (!ds.isEmpty) := rfl
@[simp] theorem truth_fz {ds : List D} : truth S (.fz ds) = some (!ds.isEmpty) := rfl
/-! the shape of sequences -/
@[simp] theorem listOf_lst {ds : List D} : Ev.listOf S (.lst ds) = some ds := rfl
@[simp] theorem listOf_fz {ds : List D} : Ev.listOf S (.fz ds) = some ds := rfl
@[simp] theorem listOf_tup {ds : List D} : Ev.listOf S (.tup ds) = none := rfl
@[simp] theorem listOf_int {i : Int} : Ev.listOf S (.int i) = none := rfl
@[simp] theorem listOf_str {i : Str} : Ev.listOf S (.str i) = none := rfl
@[simp] theorem listOf_dct {a b : List D} : Ev.listOf S (.dct a b) = none := rfl
theorem listOf_ref {n : Nat} {ds : List D} (h : S[n]? = some (.lst ds)) : Ev.listOf S (.ref n) = some ds := by show (match S[n]? with | some (.lst ds) => some ds | _ => none) = _; rw [h]
theorem listOf_refd {n : Nat} {a b : List D} (h : S[n]? = some (.dct a b)) : Ev.listOf S (.ref n) = none := by show (match S[n]? with | some (.lst ds) => some ds | _ => none) = _; rw [h]
@[simp] theorem seqOf_tup {ds : List D} : Ev.seqOf S (.tup ds) = some ds := rfl
@[simp] theorem seqOf_lst {ds : List D} : Ev.seqOf S (.lst ds) = some ds := rfl
@[simp] theorem seqOf_fz {ds : List D} : Ev.seqOf S (.fz ds) = some ds := rfl
@[simp] theorem seqOf_ref {n : Nat} : Ev.seqOf S (.ref n) = Ev.listOf S (.ref n) := rfl
@[simp] theorem seqOf_dct {a b : List D} : Ev.seqOf S (.dct a b) = none := rfl
@[simp] theorem dictOf_dct {a b : List D} : Ev.dictOf S (.dct a b) = some (a, b) := rfl
theorem dictOf_ref {n : Nat} {a b : List D} (h : S[n]? = some (.dct a b)) : Ev.dictOf S (.ref n) = some (a, b) := by show (match S[n]? with | some (.dct ks vs) => some (ks, vs) | _ => none) = _; rw [h]
@[simp] theorem mutOf_lst {ds : List D} : Ev.mutOf S (.lst ds) = some ds := rfl
theorem mutOf_ref {n : Nat} {ds : List D} (h : S[n]? = some (.lst ds)) : Ev.mutOf S (.ref n) = some ds := by show (match S[n]? with | some (.lst ds) => some ds | _ => none) = _; rw [h]
/-! arithmetic -/
@[simp] theorem bin_add {i j : Int} : binE S .add (.int i) (.int j) = some (.int (i + j)) := rfl
@[simp] theorem bin_sub {i j : Int} : binE S .sub (.int i) (.int j) = some (.int (i - j)) := rfl
theorem bin_mul {i j : Int} (h : mulOk i j = true) : binE S .mul (.int i) (.int j) = some (.int (i * j)) := by show (if mulOk i j then _ else _) = _; rw [if_pos h]
theorem bin_fdiv {i j : Int} (h : divOk j = true) : binE S .fdiv (.int i) (.int j) = some (.int (i.fdiv j)) := by show (if divOk j then _ else _) = _; rw [if_pos h]
theorem bin_mod {i j : Int} (h : j ≠ 0) : binE S .mod (.int i) (.int j) = some (.int (i.fmod j)) := by show (if decide (j ≠ 0) then _ else _) = _; rw [if_pos (decide_eq_true h)]
/-! comparisons -/
@[simp] theorem cmp_lt {i j : Int} : cmpE S .lt (.int i) (.int j) = some (decide (i < j)) := rfl
@[simp] theorem cmp_gt {i j : Int} : cmpE S .gt (.int i) (.int j) = some (decide (j < i)) := rfl
@[simp] theorem cmp_le {i j : Int} : cmpE S .le (.int i) (.int j) = some (decide (i ≤ j)) := rfl
@[simp] theorem cmp_ge {i j : Int} : cmpE S .ge (.int i) (.int j) = some (decide (j ≤ i)) := rfl
@[simp] theorem cmp_eq {a b : D} : cmpE S .eq a b = eqE S a b := by cases a <;> rfl
@[simp] theorem cmp_ne {a b : D} : cmpE S .ne a b = (eqE S a b).map (!·) := by cases a <;> rfl
theorem cmp_in {a b : D} : cmpE S .in_ a b = inE S a b := by cases a <;> rfl
theorem cmp_nin {a b : D} : cmpE S .notin a b = (inE S a b).map (!·) := by cases a <;> rfl
theorem res_pure {d : D} {k : Nat} (h : d.pure = true) : res S (k + 1) d = some d := by unfold res; rw [if_pos h]
theorem eq_pure {a b : D} (ha : a.pure = true) (hb : b.pure = true) (hd : min a.depth b.depth ≤ 150) : eqE S a b = some (a.eqv b) := by
  unfold eqE
  rw [res_pure ha, res_pure hb]
  exact if_pos hd
@[simp] theorem eq_int {i j : Int} : eqE S (.int i) (.int j) = some (decide (i = j)) := eq_pure rfl rfl (by simp [D.depth])
@[simp] theorem eq_str {i j : Str} : eqE S (.str i) (.str j) = some (decide (i = j)) := eq_pure rfl rfl (by simp [D.depth])
/-! built-ins -/
@[simp] theorem len_seq {a : D} {ds : List D} (h : Ev.seqOf S a = some ds) : bltE S .len [a] = some (.int ds.length) := by
  cases a <;> first | (cases h; done) | (cases h; rfl) | (show (match Ev.seqOf S (.ref _) with | some ds => some (D.int ds.length) | none => _) = _; rw [h]) | skip
@[simp] theorem abs_int {i : Int} : bltE S .abs [.int i] = some (.int (if i < 0 then -i else i)) := rfl
@[simp] theorem tuple_seq {a : D} : bltE S .tuple [a] = (Ev.seqOf S a).map .tup := rfl
@[simp] theorem list_seq {a : D} : bltE S .list [a] = (Ev.seqOf S a).map .lst := rfl
@[simp] theorem int_bl {b : Bool} : bltE S .int [.bl b] = some (.int (if b then 1 else 0)) := rfl
theorem sum_list {a : D} {ds : List D} {ns : List Int} (h : Ev.listOf S a = some ds) (hn : intsOf ds = some ns) : bltE S .sum [a] = some (.int ns.sum) := by
  show (match (Ev.listOf S a).bind intsOf with | some ns => some (D.int ns.sum) | none => none) = _
  rw [h, Option.bind_some, hn]
@[simp] theorem intsOf_map : ∀ ns : List Int, intsOf (ns.map .int) = some ns
  | [] => rfl
  | i :: ns => by rw [List.map_cons]; show (intsOf (ns.map .int)).map (i :: ·) = _; rw [intsOf_map ns]; rfl
/-! places -/
theorem idx_tup {ds : List D} {i : Int} : idxE S (.tup ds) (.int i) = atI ds i := rfl
theorem idx_list {a : D} {ds : List D} {i : Int} (h : Ev.listOf S a = some ds) : idxE S a (.int i) = atI ds i := by
  cases a <;> first | (cases h; done) | (cases h; rfl) | (show (match Ev.listOf S (.ref _) with | some ds => _ | none => _) = _; rw [h])
/-! kinds -/
@[simp] theorem isTys_one {isa : Nat → Ty → Bool} {d : D} {t : Ty} {b : Bool} (h : isTy isa S t d = some b) : isTys isa S d [t] = some b := by
  unfold isTys
  rw [h]
  cases b <;> rfl
section
variable {isa : Nat → Ty → Bool}
@[simp] theorem isi_int_int {i : Int} : isTys isa S (.int i) [.int] = some true := rfl
@[simp] theorem isi_int_bool {i : Int} : isTys isa S (.int i) [.bool] = some false := rfl
@[simp] theorem isi_int_tuple {i : Int} : isTys isa S (.int i) [.tuple] = some false := rfl
@[simp] theorem isi_int_str {i : Int} : isTys isa S (.int i) [.str] = some false := rfl
@[simp] theorem isi_str_str {i : Str} : isTys isa S (.str i) [.str] = some true := rfl
@[simp] theorem isi_str_tuple {i : Str} : isTys isa S (.str i) [.tuple] = some false := rfl
@[simp] theorem isi_tup_tuple {i : List D} : isTys isa S (.tup i) [.tuple] = some true := rfl
@[simp] theorem isi_tup_str {i : List D} : isTys isa S (.tup i) [.str] = some false := rfl
@[simp] theorem isi_lst_list {i : List D} : isTys isa S (.lst i) [.list] = some true := rfl
theorem isi_ref_list {n : Nat} {i : List D} (h : S[n]? = some (.lst i)) : isTys isa S (.ref n) [.list] = some true := by
  refine isTys_one ?_
  show (match (match S[n]? with | some (.lst _) => some VT.lst | some (.dct _ _) => some VT.dct | _ => none) with | some v => isVT .list v | none => none) = _
  rw [h]; rfl
end
theorem forL_rel {f : D → Env → Sto → Option (Fl × Sto)} : ∀ (its : List D) (P : Nat → Env → Sto → Prop), (∀ k d ρ S, its[k]? = some d → P k ρ S → ∃ ρ' S', f d ρ S = some (.nx ρ', S') ∧ P (k + 1) ρ' S') → ∀ ρ S, P 0 ρ S → ∃ ρ' S', forL none f its ρ S = some (.nx ρ', S') ∧ P its.length ρ' S'
  | [], P, h, ρ, S, p => ⟨ρ, S, by unfold forL; exact guard_none, p⟩
  | d :: its, P, h, ρ, S, p => by
    obtain ⟨ρ1, S1, e1, p1⟩ := h 0 d ρ S rfl p
    obtain ⟨ρ2, S2, e2, p2⟩ := forL_rel its (fun k => P (k + 1)) (fun k d ρ S hk => h (k + 1) d ρ S (by simpa using hk)) ρ1 S1 p1
    refine ⟨ρ2, S2, ?_, p2⟩
    unfold forL
    rw [guard_none, e1, seqS_nx, e2]
theorem mul_small {i j : Int} (hi : i.natAbs < 2 ^ 100) (hj : j.natAbs < 2 ^ 100) : mulOk i j = true := by
  have q : ∀ n : Nat, n < 2 ^ 100 → n.log2 < 100 := fun n h => by
    by_cases h0 : n = 0
    · subst h0; decide
    · exact (Nat.log2_lt h0).mpr h
  unfold mulOk
  have := q _ hi
  have := q _ hj
  exact decide_eq_true (by omega)
@[simp] theorem items_rng1 {j : Int} (h : j ≤ 1000000) (h' : -1000000 ≤ j) : itemsOf S .rng1 [.int j] = some ((List.range j.toNat).map fun (k : Nat) => D.int k, none) := by
  show (if decide (j ≤ 1000000) && decide (-1000000 ≤ j) then _ else _) = _
  rw [decide_eq_true h, decide_eq_true h']; rfl
end
end Ev
end
section
set_option Elab.async false
set_option linter.all false
set_option maxRecDepth 100000
namespace Ev
section
variable {g : G} {s : PS} {ss : List PS} {ρ ρ1 : Env} {S S1 : Sto} {r : Option (Fl × Sto)} {d : D}
theorem mutOf_r {n : Nat} : Ev.mutOf S (.ref n) = match S[n]? with | some (.lst ds) => some ds | _ => none := rfl
theorem listOf_r {n : Nat} : Ev.listOf S (.ref n) = match S[n]? with | some (.lst ds) => some ds | _ => none := rfl
theorem dictOf_r {n : Nat} : Ev.dictOf S (.ref n) = match S[n]? with | some (.dct ks vs) => some (ks, vs) | _ => none := rfl
theorem idx_r {n : Nat} {i : Int} : idxE S (.ref n) (.int i) = match S[n]? with | some (.lst ds) => Ev.atI ds i | some (.dct ks vs) => getK ks vs (.int i) | _ => none := by
  show (match Ev.listOf S (.ref n) with | some ds => Ev.atI ds i | none => match Ev.dictOf S (.ref n) with | some (ks, vs) => if keyOk (.int i) then getK ks vs (.int i) else none | none => none) = _
  rw [listOf_r, dictOf_r]
  cases S[n]? with
  | none => rfl
  | some o => cases o <;> rfl
theorem idx_l {ds : List D} {i : Int} : idxE S (.lst ds) (.int i) = Ev.atI ds i := rfl
theorem idx_f {ds : List D} {i : Int} : idxE S (.fz ds) (.int i) = Ev.atI ds i := rfl
theorem mth_append {n : Nat} {v : D} : mthE .append (.ref n) [v] S = match S[n]? with | some (.lst ds) => if ds.length < 16777216 then some (.non, (settle v S).2.set n (.lst (ds ++ [(settle v S).1]))) else none | _ => none := rfl
theorem mth_pop {n : Nat} : mthE .pop (.ref n) [] S = match S[n]? with | some (.lst ds) => (match ds.getLast? with | some d => some (d, S.set n (.lst ds.dropLast)) | none => none) | _ => none := rfl
theorem rcv_append {n : Nat} : recvOk .append (.ref n) S = (Ev.listOf S (.ref n)).isSome := rfl
theorem rcv_pop {n : Nat} : recvOk .pop (.ref n) S = (Ev.listOf S (.ref n)).isSome := rfl
theorem rcv_extend {n : Nat} : recvOk .extend (.ref n) S = (Ev.listOf S (.ref n)).isSome := rfl
theorem atI_nat {α : Type} {xs : List α} {k : Nat} : Ev.atI xs (k : Int) = xs[k]? := by
  unfold Ev.atI
  rw [if_pos (Int.natCast_nonneg k)]; rfl
theorem atI_0 {α : Type} {xs : List α} : Ev.atI xs 0 = xs[0]? := rfl
theorem atI_1 {α : Type} {xs : List α} : Ev.atI xs 1 = xs[1]? := rfl
theorem atI_2 {α : Type} {xs : List α} : Ev.atI xs 2 = xs[2]? := rfl
theorem atI_3 {α : Type} {xs : List α} : Ev.atI xs 3 = xs[3]? := rfl
theorem atI_4 {α : Type} {xs : List α} : Ev.atI xs 4 = xs[4]? := rfl
theorem atI_ok {α : Type} {xs : List α} {i : Int} (h0 : 0 ≤ i) (h : i < xs.length) : ∃ x, Ev.atI xs i = some x ∧ x ∈ xs := by
  unfold Ev.atI
  rw [if_pos h0]
  have hl : i.toNat < xs.length := by omega
  exact ⟨xs[i.toNat], List.getElem?_eq_getElem hl, List.getElem_mem hl⟩
theorem add_rl {n : Nat} {b : List D} : binE S .add (.ref n) (.lst b) = match S[n]? with | some (.lst a) => if a.length + b.length ≤ 16777216 then some (.lst (a ++ b)) else none | _ => none := by
  show (match Ev.mutOf S (.ref n), some b with | some x, some y => if lenOk (x.length + y.length) then some (D.lst (x ++ y)) else none | _, _ => none) = _
  rw [mutOf_r]
  cases S[n]? with
  | none => rfl
  | some o => cases o <;> first | rfl | (simp [lenOk])
theorem add_lr {n : Nat} {b : List D} : binE S .add (.lst b) (.ref n) = match S[n]? with | some (.lst a) => if b.length + a.length ≤ 16777216 then some (.lst (b ++ a)) else none | _ => none := by
  show (match some b, Ev.mutOf S (.ref n) with | some x, some y => if lenOk (x.length + y.length) then some (D.lst (x ++ y)) else none | _, _ => none) = _
  rw [mutOf_r]
  cases S[n]? with
  | none => rfl
  | some o => cases o <;> first | rfl | (simp [lenOk])
theorem add_ll {a b : List D} : binE S .add (.lst a) (.lst b) = if a.length + b.length ≤ 16777216 then some (.lst (a ++ b)) else none := by
  show (if lenOk (a.length + b.length) then some (D.lst (a ++ b)) else none) = _
  simp [lenOk]
theorem x_set {i : Nat} {e : PE} : execS g (.set i e) ρ S = bndS (evalE g e ρ S) fun d S => some (.nx (ρ.set i (some (settle d S).1)), (settle d S).2) := by rw [execS]
theorem x_expr {e : PE} : execS g (.expr e) ρ S = bndS (evalE g e ρ S) fun _ S => some (.nx ρ, S) := by rw [execS]
theorem x_ret {e : PE} : execS g (.ret e) ρ S = bndS (evalE g e ρ S) fun d S => some (.ret d, S) := by rw [execS]
theorem x_ife {c : PE} {a b : List PS} : execS g (.ife c a b) ρ S = tests (evalE g c ρ S) (fun t S => if t then execB g a ρ S else execB g b ρ S) fun c S => some (.ex c, S) := by rw [execS]
theorem x_setI {o i v : PE} : execS g (.setI o i v) ρ S = bndS (evalE g v ρ S) fun x S => bndS (evalE g o ρ S) fun a S => bndS (evalE g i ρ S) fun k S => (setItE a k x S).map fun S => (.nx ρ, S) := by rw [execS]
theorem x_par {is : List Nat} {es : List PE} : execS g (.par is es) ρ S = bndS (evalEs g es ρ S) fun ds S => (match (setNames is (settles ds S).1 ρ).map fun ρ' => (ρ', (settles ds S).2) with | some (ρ', S) => some (.nx ρ', S) | none => none) := by rw [execS]; rfl
theorem execB_nil : execB g [] ρ S = some (.nx ρ, S) := by rw [execB]
theorem execB_cons : execB g (s :: ss) ρ S = seqS (execS g s ρ S) fun ρ S => execB g ss ρ S := by rw [execB]
theorem execB_app {A B : List PS} : execB g (A ++ B) ρ S = seqS (execB g A ρ S) fun ρ S => execB g B ρ S := by
  induction A generalizing ρ S with
  | nil => rw [List.nil_append, execB_nil, seqS_nx]
  | cons s A ih =>
    rw [List.cons_append, execB_cons, execB_cons]
    cases execS g s ρ S with
    | none => rfl
    | some q =>
      obtain ⟨fl, S'⟩ := q
      cases fl with
      | nx ρ' => rw [seqS_nx, seqS_nx]; exact ih
      | ret d => rfl
      | ex c => rfl
theorem sl_of {a lo hi : D} {ds : List D} (h : Ev.listOf S a = some ds) (hl : lo = .non ∨ ∃ i, lo = .int i) (hh : hi = .non ∨ ∃ i, hi = .int i) : ∃ i j, slE S a lo hi = some (.lst (cut ds i j)) := by
  have q : ∀ (n d : Nat) (x : D), (x = .non ∨ ∃ i, x = .int i) → ∃ k, sIx n d x = some k := fun n d x hx => by
    rcases hx with rfl | ⟨i, rfl⟩
    · exact ⟨_, rfl⟩
    · exact ⟨_, rfl⟩
  obtain ⟨i, hi'⟩ := q ds.length 0 lo hl
  obtain ⟨j, hj'⟩ := q ds.length ds.length hi hh
  refine ⟨i, j, ?_⟩
  unfold slE
  cases a <;> first | (cases h; done) | (simp only [h, hi', hj'])
theorem cut_map {α β : Type} {f : α → β} {xs : List α} {i j : Nat} : cut (xs.map f) i j = (cut xs i j).map f := by unfold cut; rw [List.map_take, List.map_drop]
theorem cut_mem {α : Type} {xs : List α} {i j : Nat} {x : α} (h : x ∈ cut xs i j) : x ∈ xs := List.mem_of_mem_drop (List.mem_of_mem_take h)
theorem go (h : execS g s ρ S = some (.nx ρ1, S1)) (h2 : execB g ss ρ1 S1 = r) : execB g (s :: ss) ρ S = r := by
  unfold execB
  rw [h, seqS_nx, h2]
theorem goR (h : execS g s ρ S = some (.ret d, S1)) : execB g (s :: ss) ρ S = some (.ret d, S1) := by
  unfold execB
  rw [h, seqS_ret]
theorem fin_go (h : execB g ss ρ S = some (.ret d, S1)) {b : Nat} : finish b (execB g ss ρ S) = leave b d S1 := by rw [h]; rfl
theorem fin_nx (h : execB g ss ρ S = some (.nx ρ1, S1)) {b : Nat} : finish b (execB g ss ρ S) = leave b .non S1 := by rw [h]; rfl
theorem for_rng1 {i : Nat} {e : PE} {body : List PS} {j : Int} {P : Nat → Env → Sto → Prop} (he : evalE g e ρ S = some (.ok (.int j) S)) (h1 : j ≤ 1000000) (h2 : -1000000 ≤ j) (hP : P 0 ρ S)
    (step : ∀ (k : Nat) ρ S, k < j.toNat → P k ρ S → ∃ ρ' S', execB g body (ρ.set i (some (.int k))) S = some (.nx ρ', S') ∧ P (k + 1) ρ' S') : ∃ ρ' S', execS g (.for_ (.nm i) .rng1 [e] body) ρ S = some (.nx ρ', S') ∧ P j.toNat ρ' S' := by
  have q := forL_rel (f := fun d ρ S => match setTg (.nm i) d ρ S with | some (ρ', S) => execB g body ρ' S | none => none) ((List.range j.toNat).map fun (k : Nat) => D.int k) P (fun k d ρ S hk p => by
    rw [List.getElem?_map] at hk
    obtain ⟨k', e1, rfl⟩ := Option.map_eq_some_iff.mp hk
    obtain ⟨l1, e2⟩ := List.getElem?_eq_some_iff.mp e1
    rw [List.getElem_range] at e2
    subst e2
    exact step k ρ S (by simpa using l1) p) ρ S hP
  obtain ⟨ρ', S', q1, q2⟩ := q
  refine ⟨ρ', S', ?_, by simpa using q2⟩
  unfold execS evalEs
  rw [he, bnd_ok]
  unfold evalEs
  rw [bnd_ok, bndS_ok, items_rng1 h1 h2]
  exact q1
/-- over plain items that no object of the store holds -/
theorem for_val {i : Nat} {e : PE} {body : List PS} {dv : D} {its : List D} {P : Nat → Env → Sto → Prop} (he : evalE g e ρ S = some (.ok dv S1)) (hi : itemsOf S1 .val [dv] = some (its, none)) (hp : pures its = true) (hP : P 0 ρ S1)
    (step : ∀ (k : Nat) d ρ S, its[k]? = some d → P k ρ S → ∃ ρ' S', execB g body (ρ.set i (some d)) S = some (.nx ρ', S') ∧ P (k + 1) ρ' S') : ∃ ρ' S', execS g (.for_ (.nm i) .val [e] body) ρ S = some (.nx ρ', S') ∧ P its.length ρ' S' := by
  have q := forL_rel (f := fun d ρ S => match setTg (.nm i) d ρ S with | some (ρ', S) => execB g body ρ' S | none => none) its P (fun k d ρ S hk p => by
    have hd : d.pure = true := by
      rw [pures_all, List.all_eq_true] at hp
      exact hp d (List.mem_of_getElem? hk)
    show ∃ ρ' S', execB g body (ρ.set i (some (settle d S).1)) (settle d S).2 = _ ∧ _
    rw [settle_pure d S hd]
    exact step k d ρ S hk p) ρ S1 hP
  obtain ⟨ρ', S', q1, q2⟩ := q
  refine ⟨ρ', S', ?_, q2⟩
  unfold execS evalEs
  rw [he, bnd_ok]
  unfold evalEs
  rw [bnd_ok, bndS_ok, hi]
  exact q1
theorem while_eq {c : Env → Sto → Option (R D)} {b : Env → Sto → Option (Fl × Sto)} : whileL c b ρ S = (match c ρ S with
  | none => none
  | some (.ex x S) => some (.ex x, S)
  | some (.ok d S) => match truth S d with
    | none => none
    | some false => some (.nx ρ, S)
    | some true => match b ρ S with
      | none => none
      | some (.ret d, S) => some (.ret d, S)
      | some (.ex x, S) => some (.ex x, S)
      | some (.nx ρ', S') => whileL c b ρ' S') := by
  (conv => lhs; rw [whileL]) <;> rfl
theorem while_rel {c : PE} {body : List PS} (P : Nat → Env → Sto → Prop) (Qf : Env → Sto → Prop)
    (step : ∀ m ρ S, P m ρ S → ∃ d S1 t, evalE g c ρ S = some (.ok d S1) ∧ truth S1 d = some t ∧ (t = true → ∃ ρ2 S2 m2, execB g body ρ S1 = some (.nx ρ2, S2) ∧ m2 < m ∧ P m2 ρ2 S2) ∧ (t = false → Qf ρ S1)) :
    ∀ m ρ S, P m ρ S → ∃ ρ' S', execS g (.while_ c body) ρ S = some (.nx ρ', S') ∧ Qf ρ' S' := by
  intro m
  induction m using Nat.strongRecOn with
  | ind m ih =>
    intro ρ S p
    obtain ⟨d, S1, t, e1, e2, h1, h2⟩ := step m ρ S p
    unfold execS
    rw [while_eq]
    simp only [e1, e2]
    cases t with
    | false => exact ⟨ρ, S1, rfl, h2 rfl⟩
    | true =>
      obtain ⟨ρ2, S2, m2, e3, hm, p2⟩ := h1 rfl
      obtain ⟨ρ', S', e4, q⟩ := ih m2 hm ρ2 S2 p2
      unfold execS at e4
      simp only [e3]
      exact ⟨ρ', S', e4, q⟩
end
end Ev
end
section
set_option Elab.async false
set_option linter.all false
set_option maxRecDepth 100000
namespace Ev
section
variable {g : G} {ρ : Env} {S : Sto}
theorem compL_f {α : Type} {f : α → D} {F : D → Sto → Option (R (Option D))} {p : α → Bool} {v : α → D} : ∀ (rs : List α), (∀ r ∈ rs, F (f r) S = some (.ok (if p r then some (v r) else none) S)) → compL none F (rs.map f) S = some ((rs.filter p).map v, S)
  | [], _ => by rw [List.map_nil, compL, guard_none]; rfl
  | r :: rs, h => by
    rw [List.map_cons, compL, guard_none, h r List.mem_cons_self, bndN_ok, compL_f rs fun x m => h x (List.mem_cons_of_mem _ m), Option.map_some]
    cases hp : p r with
    | true => simp [hp]
    | false => simp [hp]
theorem comp_f {α : Type} {f : α → D} {rs : List α} {p : α → Bool} {v : α → D} {i : Nat} {e elt : PE} {ifs : List PE} {dv : D} (he : evalE g e ρ S = some (.ok dv S)) (hi : itemsOf S .val [dv] = some (rs.map f, none)) (hp : ∀ r ∈ rs, (f r).pure = true)
    (hc : ∀ r ∈ rs, evalIfs g ifs (ρ.set i (some (f r))) S = some (.ok (p r) S)) (hv : ∀ r ∈ rs, p r = true → evalE g elt (ρ.set i (some (f r))) S = some (.ok (v r) S)) : evalE g (.comp (.nm i) .val [e] ifs elt) ρ S = some (.ok (.lst ((rs.filter p).map v)) S) := by
  rw [evalE]
  rw [evalEs, he, bnd_ok, evalEs, bnd_ok, bnd_ok, hi]
  simp only
  rw [compL_f (p := p) (v := v) rs fun r m => ?_]
  · rfl
  · show bnd (evalIfs g ifs (ρ.set i (some (settle (f r) S).1)) (settle (f r) S).2) _ = _
    rw [settle_pure _ _ (hp r m)]
    simp only
    rw [hc r m, bnd_ok]
    cases h : p r with
    | true => simp [hv r m h]
    | false => simp
theorem ifs_1 {c : PE} {b : Bool} {d : D} (h : evalE g c ρ S = some (.ok d S)) (ht : truth S d = some b) : evalIfs g [c] ρ S = some (.ok b S) := by
  rw [evalIfs, h, tests_ok, ht]
  cases b <;> simp [evalIfs]
end
section
variable {S : Sto}
theorem res_mapM {k : Nat} : ∀ ds : List D, pures ds = true → ds.mapM (res S (k + 1)) = some ds
  | [], _ => rfl
  | d :: ds, h => by
    unfold pures at h
    obtain ⟨h1, h2⟩ := Bool.and_eq_true_iff.mp h
    rw [List.mapM_cons, res_pure h1, res_mapM ds h2]; rfl
theorem res_lst {k : Nat} {ds : List D} (h : pures ds = true) : res S (k + 2) (.lst ds) = some (.lst ds) := by
  rw [res]
  rw [if_neg (by simp [D.pure])]
  simp only [res_mapM ds h, Option.map_some]
theorem res_ref {k n : Nat} {ds : List D} (hn : S[n]? = some (.lst ds)) (h : pures ds = true) : res S (k + 2) (.ref n) = some (.lst ds) := by
  rw [res]
  rw [if_neg (by simp [D.pure])]
  simp only [hn, res_mapM ds h, Option.map_some]
theorem eq_nil {n : Nat} {ds : List D} (hn : S[n]? = some (.lst ds)) (h : pures ds = true) : eqE S (.ref n) (.lst []) = some ds.isEmpty := by
  unfold eqE
  rw [res_ref hn h, res_lst (ds := []) rfl]
  have hd : min (D.lst ds).depth (D.lst []).depth ≤ 150 := by simp [D.depth, depths]
  simp only [if_pos hd]
  cases ds <;> simp [D.eqv, eqvs]
theorem eq_ts {ds : List D} {y : PySem.Str} (h : pures ds = true) : eqE S (.tup ds) (.str y) = some false := by
  rw [eq_pure (by unfold D.pure; exact h) rfl (by simp [D.depth])]
  rfl
end
mutual
def nodes : D → Nat
  | .tup ds => 1 + nodess ds
  | _ => 1
def nodess : List D → Nat
  | [] => 0
  | d :: ds => nodes d + nodess ds
end
theorem nodes_pos (d : D) : 1 ≤ nodes d := by
  cases d <;> (unfold nodes; omega)
end Ev
end
section
set_option Elab.async false
set_option linter.all false
set_option maxRecDepth 100000
namespace Ev
section
variable {g : G} {ρ : Env} {S l : Sto} {i : Nat}
theorem compL_rel {F : D → Sto → Option (R (Option D))} : ∀ (its : List D) (P : Nat → Sto → Prop) (V : D → Prop), (∀ k d S, its[k]? = some d → P k S → ∃ v S', F d S = some (.ok (some v) S') ∧ P (k + 1) S' ∧ V v) → ∀ S, P 0 S → ∃ vs S', compL none F its S = some (vs, S') ∧ P its.length S' ∧ vs.length = its.length ∧ ∀ v ∈ vs, V v
  | [], P, V, h, S, p => ⟨[], S, by rw [compL, guard_none], p, rfl, by simp⟩
  | d :: its, P, V, h, S, p => by
    obtain ⟨v, S1, e1, p1, v1⟩ := h 0 d S rfl p
    obtain ⟨vs, S2, e2, p2, hl, hv⟩ := compL_rel its (fun k => P (k + 1)) V (fun k d S hk => h (k + 1) d S (by simpa using hk)) S1 p1
    refine ⟨v :: vs, S2, ?_, p2, by simp [hl], fun x hx => ?_⟩
    · rw [compL, guard_none, e1, bndN_ok, e2]; rfl
    · rcases List.mem_cons.mp hx with rfl | hx
      · exact v1
      · exact hv x hx
theorem comp_rel {j : Nat} {k : ItK} {es : List PE} {elt : PE} {ds its : List D} (P : Nat → Sto → Prop) (V : D → Prop) (he : evalEs g es ρ S = some (.ok ds S)) (hi : itemsOf S k ds = some (its, none)) (hp : pures its = true) (h0 : P 0 S)
    (h : ∀ k d S, its[k]? = some d → P k S → ∃ v S', evalE g elt (ρ.set j (some d)) S = some (.ok v S') ∧ P (k + 1) S' ∧ V v) : ∃ vs S', evalE g (.comp (.nm j) k es [] elt) ρ S = some (.ok (.lst vs) S') ∧ P its.length S' ∧ vs.length = its.length ∧ ∀ v ∈ vs, V v := by
  obtain ⟨vs, S', e, q⟩ := compL_rel (F := fun d S => match setTg (.nm j) d ρ S with
        | some (ρ', S) => bnd (evalIfs g [] ρ' S) fun b S => if b = true then bnd (evalE g elt ρ' S) fun x S => some (.ok (some x) S) else some (.ok none S)
        | none => none) its P V (fun k d S hk p => by
    have hd : d.pure = true := by
      rw [pures_all, List.all_eq_true] at hp
      exact hp d (List.mem_of_getElem? hk)
    obtain ⟨v, S', e, q⟩ := h k d S hk p
    refine ⟨v, S', ?_, q⟩
    show bnd (evalIfs g [] (ρ.set j (some (settle d S).1)) (settle d S).2) _ = _
    rw [settle_pure d S hd]
    simp only
    rw [evalIfs, bnd_ok, if_pos rfl, e, bnd_ok]) S h0
  refine ⟨vs, S', ?_, q⟩
  rw [evalE, he, bnd_ok, hi]
  exact congrArg (Option.map fun r => R.ok (D.lst r.1) r.2) e
/-! ### an object of the base -/
theorem get_base {o : D} (h : S[i]? = some o) : (S ++ l)[i]? = some o := by
  rw [List.getElem?_append_left (List.getElem?_eq_some_iff.mp h).1, h]
theorem set_base {o x : D} (h : S[i]? = some o) : (S ++ l).set i x = S.set i x ++ l := List.set_append_left _ _ (List.getElem?_eq_some_iff.mp h).1
theorem get_set {o x : D} (h : S[i]? = some o) : (S.set i x)[i]? = some x := List.getElem?_set_self (List.getElem?_eq_some_iff.mp h).1
theorem ints_under {b : Nat} (xs : List Int) : (D.lst (xs.map .int)).under b = true := by
  unfold D.under
  rw [unders_all, List.all_eq_true]
  intro x hx
  obtain ⟨i, _, rfl⟩ := List.mem_map.mp hx
  rfl
theorem ints_pure (xs : List Int) : pures (xs.map D.int) = true := by
  rw [pures_all, List.all_eq_true]
  intro x hx
  obtain ⟨i, _, rfl⟩ := List.mem_map.mp hx
  rfl
theorem Cl.ints (h : Cl S) (xs : List Int) : Cl (S.set i (.lst (xs.map .int))) := h.set (ints_under xs)
theorem Cl.lst {ds : List D} (h : Cl S) (hp : pures ds = true) : Cl (S ++ [.lst ds]) := h.app (by
  unfold unders unders D.under
  rw [pures_under _ _ hp]; rfl)
theorem leave_set {x t : D} (hc : Cl S) (hx : x.under S.length = true) (ht : t.pure = true) : leave S.length t (S.set i x ++ l) = some (.ok t (S.set i x)) := by
  have := leave_pure (l := l) (hc.set (i := i) hx) ht
  rwa [List.length_set] at this
theorem leave_set0 {x t : D} (hc : Cl S) (hx : x.under S.length = true) (ht : t.pure = true) : leave S.length t (S.set i x) = some (.ok t (S.set i x)) := by
  have := leave_set (i := i) (l := []) hc hx ht
  simpa using this
/-- number = 0; if xs != []: number = xs.pop() -/
theorem pops {a v : Nat} {xs : List Int} (hv : ρ[v]? = some (some (.ref i))) (hav : a ≠ v) (hS : S[i]? = some (.lst (xs.map .int))) :
    ∃ (x : Int) (xs' : List Int), ∀ ss, execB g (.set a (.cst (.int 0)) :: .ife (.cmp .ne (.var v) (.lst [])) [.set a (.mth .pop (.var v) [])] [] :: ss) ρ S = execB g ss (ρ.set a (some (.int x))) (S.set i (.lst (xs'.map .int))) := by
  have hne := eq_nil hS (ints_pure xs)
  have hv2 : (ρ.set a (some (.int 0)))[v]? = some (some (.ref i)) := by rw [List.getElem?_set_ne hav]; exact hv
  rcases List.eq_nil_or_concat xs with rfl | ⟨ys, y, rfl⟩
  · refine ⟨0, [], fun ss => ?_⟩
    have hs : S.set i (.lst []) = S := by
      obtain ⟨hl, e⟩ := List.getElem?_eq_some_iff.mp hS
      have e' : S[i] = .lst [] := e
      rw [← e']
      exact List.set_getElem_self hl
    refine go (ρ1 := ρ.set a (some (.int 0))) (S1 := S) (by simp [Ev.startE, Ev.execB, Ev.x_set, Ev.x_expr, Ev.x_ret, Ev.x_ife, Ev.x_setI, Ev.x_par, Ev.setNames, Ev.evalE, Ev.evalEs, Ev.evalIfs, Ev.finish, Ev.settle, Ev.settles, Ev.guard_none, Ev.get_app, Ev.get_app0, Ev.set_app, Ev.set_app0, Ev.mutOf_r, Ev.listOf_r, Ev.dictOf_r, Ev.idx_r, Ev.idx_l, Ev.idx_f, Ev.idx_tup, Ev.mth_append, Ev.mth_pop, Ev.rcv_append, Ev.rcv_pop, Ev.rcv_extend, Ev.atI_0, Ev.atI_1, Ev.atI_2, Ev.atI_3, Ev.atI_4, Ev.add_rl, Ev.add_lr, Ev.add_ll]) (go (ρ1 := ρ.set a (some (.int 0))) (S1 := S) (by simp [Ev.startE, Ev.execB, Ev.x_set, Ev.x_expr, Ev.x_ret, Ev.x_ife, Ev.x_setI, Ev.x_par, Ev.setNames, Ev.evalE, Ev.evalEs, Ev.evalIfs, Ev.finish, Ev.settle, Ev.settles, Ev.guard_none, Ev.get_app, Ev.get_app0, Ev.set_app, Ev.set_app0, Ev.mutOf_r, Ev.listOf_r, Ev.dictOf_r, Ev.idx_r, Ev.idx_l, Ev.idx_f, Ev.idx_tup, Ev.mth_append, Ev.mth_pop, Ev.rcv_append, Ev.rcv_pop, Ev.rcv_extend, Ev.atI_0, Ev.atI_1, Ev.atI_2, Ev.atI_3, Ev.atI_4, Ev.add_rl, Ev.add_lr, Ev.add_ll, hv2, hne]) ?_)
    rw [List.map_nil, hs]
  · refine ⟨y, ys, fun ss => ?_⟩
    have hm : (ys ++ [y]).map D.int = ys.map D.int ++ [D.int y] := by simp
    rw [List.concat_eq_append, hm] at hS hne
    refine go (ρ1 := ρ.set a (some (.int 0))) (S1 := S) (by simp [Ev.startE, Ev.execB, Ev.x_set, Ev.x_expr, Ev.x_ret, Ev.x_ife, Ev.x_setI, Ev.x_par, Ev.setNames, Ev.evalE, Ev.evalEs, Ev.evalIfs, Ev.finish, Ev.settle, Ev.settles, Ev.guard_none, Ev.get_app, Ev.get_app0, Ev.set_app, Ev.set_app0, Ev.mutOf_r, Ev.listOf_r, Ev.dictOf_r, Ev.idx_r, Ev.idx_l, Ev.idx_f, Ev.idx_tup, Ev.mth_append, Ev.mth_pop, Ev.rcv_append, Ev.rcv_pop, Ev.rcv_extend, Ev.atI_0, Ev.atI_1, Ev.atI_2, Ev.atI_3, Ev.atI_4, Ev.add_rl, Ev.add_lr, Ev.add_ll]) (go (ρ1 := ρ.set a (some (.int y))) (S1 := S.set i (.lst (ys.map .int))) ?_ rfl)
    have hemp : (ys.map D.int ++ [D.int y]).isEmpty = false := by simp
    have hlast : (ys.map D.int ++ [D.int y]).getLast? = some (.int y) := by simp
    have hdrop : (ys.map D.int ++ [D.int y]).dropLast = ys.map D.int := by simp
    simp only [Ev.startE, Ev.execB, Ev.x_set, Ev.x_expr, Ev.x_ret, Ev.x_ife, Ev.x_setI, Ev.x_par, Ev.setNames, Ev.evalE, Ev.evalEs, Ev.evalIfs, Ev.finish, Ev.settle, Ev.settles, Ev.guard_none, Ev.get_app, Ev.get_app0, Ev.set_app, Ev.set_app0, Ev.mutOf_r, Ev.listOf_r, Ev.dictOf_r, Ev.idx_r, Ev.idx_l, Ev.idx_f, Ev.idx_tup, Ev.mth_append, Ev.mth_pop, Ev.rcv_append, Ev.rcv_pop, Ev.rcv_extend, Ev.atI_0, Ev.atI_1, Ev.atI_2, Ev.atI_3, Ev.atI_4, Ev.add_rl, Ev.add_lr, Ev.add_ll, hv2, hne, hemp, Option.map_some, Bool.not_false, tests_ok, truth_bl, if_true, bnd_ok, cmp_ne, hS, Option.isSome_some, hlast, hdrop, bndS_ok, seqS_nx, List.set_set]
end
end Ev
end
section
set_option Elab.async false
set_option linter.all false
set_option maxRecDepth 100000
namespace Pg
open Ev
noncomputable abbrev F := callN fns (fun _ _ => false)
theorem c_int {n : Nat} {S : Sto} {i : Int} (hc : Cl S) : F (n + 1) 4 [.int i] S = some (.ok (.bl true) S) := by
  rw [F, call_eq (np := 1) (ns := 1) (body := b__law_int) rfl rfl]
  simp [Ev.startE, Ev.execB, Ev.x_set, Ev.x_expr, Ev.x_ret, Ev.x_ife, Ev.x_setI, Ev.x_par, Ev.setNames, Ev.evalE, Ev.evalEs, Ev.evalIfs, Ev.finish, Ev.settle, Ev.settles, Ev.guard_none, Ev.get_app, Ev.get_app0, Ev.set_app, Ev.set_app0, Ev.mutOf_r, Ev.listOf_r, Ev.dictOf_r, Ev.idx_r, Ev.idx_l, Ev.idx_f, Ev.idx_tup, Ev.mth_append, Ev.mth_pop, Ev.rcv_append, Ev.rcv_pop, Ev.rcv_extend, Ev.atI_0, Ev.atI_1, Ev.atI_2, Ev.atI_3, Ev.atI_4, Ev.add_rl, Ev.add_lr, Ev.add_ll, b__law_int, hc]
theorem c_cell {n : Nat} {S : Sto} {ns : List Int} {k : Nat} (hc : Cl S) : F (n + 1) 5 [.fz (ns.map .int), .int k] S = some (.ok (.int (ns.getD k 0)) S) := by
  rw [F, call_eq (np := 2) (ns := 2) (body := b__law_cell_at) rfl rfl]
  by_cases h : k < ns.length
  · simp [Ev.startE, Ev.execB, Ev.x_set, Ev.x_expr, Ev.x_ret, Ev.x_ife, Ev.x_setI, Ev.x_par, Ev.setNames, Ev.evalE, Ev.evalEs, Ev.evalIfs, Ev.finish, Ev.settle, Ev.settles, Ev.guard_none, Ev.get_app, Ev.get_app0, Ev.set_app, Ev.set_app0, Ev.mutOf_r, Ev.listOf_r, Ev.dictOf_r, Ev.idx_r, Ev.idx_l, Ev.idx_f, Ev.idx_tup, Ev.mth_append, Ev.mth_pop, Ev.rcv_append, Ev.rcv_pop, Ev.rcv_extend, Ev.atI_0, Ev.atI_1, Ev.atI_2, Ev.atI_3, Ev.atI_4, Ev.add_rl, Ev.add_lr, Ev.add_ll, b__law_cell_at, h, idx_list, Ev.atI, hc]
  · simp [Ev.startE, Ev.execB, Ev.x_set, Ev.x_expr, Ev.x_ret, Ev.x_ife, Ev.x_setI, Ev.x_par, Ev.setNames, Ev.evalE, Ev.evalEs, Ev.evalIfs, Ev.finish, Ev.settle, Ev.settles, Ev.guard_none, Ev.get_app, Ev.get_app0, Ev.set_app, Ev.set_app0, Ev.mutOf_r, Ev.listOf_r, Ev.dictOf_r, Ev.idx_r, Ev.idx_l, Ev.idx_f, Ev.idx_tup, Ev.mth_append, Ev.mth_pop, Ev.rcv_append, Ev.rcv_pop, Ev.rcv_extend, Ev.atI_0, Ev.atI_1, Ev.atI_2, Ev.atI_3, Ev.atI_4, Ev.add_rl, Ev.add_lr, Ev.add_ll, b__law_cell_at, h, hc]
theorem fmod_bd {i j : Int} (hj : 0 < j) : 0 ≤ i.fmod j ∧ i.fmod j < j := ⟨Int.fmod_nonneg_of_pos _ hj, Int.fmod_lt_of_pos _ hj⟩
theorem c_stream {n m : Nat} {S : Sto} {c : Int} (hm : m ≤ 1000) (hc : Cl S) : ∃ xs : List Int, xs.length = m ∧ F (n + 1) 6 [.int c, .int m] S = some (.ok (.lst (xs.map .int)) S) := by
  rw [F, call_eq (np := 2) (ns := 8) (body := b__law_stream) rfl rfl]
  unfold b__law_stream
  have dv : divOk 1000003 = true := by decide
  have d7 : divOk 7 = true := by decide
  -- the first loop
  obtain ⟨ρ1, S1, e1, xs, left, kv, hx, rfl, rfl⟩ := for_rng1 (g := ⟨callN fns (fun _ _ => false) n, fun _ _ => false⟩) (i := 4) (e := .var 1) (j := m)
    (body := [.expr (.mth .append (.var 2) [(.bin .mod (.var 3) (.cst (.int 1000003)))]), .set 3 (.bin .fdiv (.var 3) (.cst (.int 1000003)))])
    (ρ := [some (.int c), some (.int m), some (.ref S.length), some (.int (if c < 0 then -c else c)), none, none, none, none]) (S := S ++ [.lst []])
    (P := fun k ρ S' => ∃ (xs : List Int) (left : Int) (kv : Option D), xs.length = k ∧ ρ = [some (.int c), some (.int m), some (.ref S.length), some (.int left), kv, none, none, none] ∧ S' = S ++ [.lst (xs.map .int)])
    (by simp [Ev.startE, Ev.execB, Ev.x_set, Ev.x_expr, Ev.x_ret, Ev.x_ife, Ev.x_setI, Ev.x_par, Ev.setNames, Ev.evalE, Ev.evalEs, Ev.evalIfs, Ev.finish, Ev.settle, Ev.settles, Ev.guard_none, Ev.get_app, Ev.get_app0, Ev.set_app, Ev.set_app0, Ev.mutOf_r, Ev.listOf_r, Ev.dictOf_r, Ev.idx_r, Ev.idx_l, Ev.idx_f, Ev.idx_tup, Ev.mth_append, Ev.mth_pop, Ev.rcv_append, Ev.rcv_pop, Ev.rcv_extend, Ev.atI_0, Ev.atI_1, Ev.atI_2, Ev.atI_3, Ev.atI_4, Ev.add_rl, Ev.add_lr, Ev.add_ll]) (by omega) (by omega) ⟨[], _, none, rfl, rfl, rfl⟩ (by
      rintro k ρ S' hk ⟨xs, left, kv, hx, rfl, rfl⟩
      refine ⟨_, _, ?_, xs ++ [left.fmod 1000003], left.fdiv 1000003, some (.int k), by simp [hx], rfl, rfl⟩
      have hl : xs.length < 16777216 := by omega
      simp [Ev.startE, Ev.execB, Ev.x_set, Ev.x_expr, Ev.x_ret, Ev.x_ife, Ev.x_setI, Ev.x_par, Ev.setNames, Ev.evalE, Ev.evalEs, Ev.evalIfs, Ev.finish, Ev.settle, Ev.settles, Ev.guard_none, Ev.get_app, Ev.get_app0, Ev.set_app, Ev.set_app0, Ev.mutOf_r, Ev.listOf_r, Ev.dictOf_r, Ev.idx_r, Ev.idx_l, Ev.idx_f, Ev.idx_tup, Ev.mth_append, Ev.mth_pop, Ev.rcv_append, Ev.rcv_pop, Ev.rcv_extend, Ev.atI_0, Ev.atI_1, Ev.atI_2, Ev.atI_3, Ev.atI_4, Ev.add_rl, Ev.add_lr, Ev.add_ll, bin_mod, bin_fdiv dv, recvOk, mthE, Ev.listOf, hl])
  by_cases hleft : left > 0
  · refine ⟨xs, by simpa using hx, ?_⟩
    rw [fin_go (d := .ref S.length) (S1 := S ++ [.lst (xs.map .int)]) (by simp [Ev.startE, Ev.execB, Ev.x_set, Ev.x_expr, Ev.x_ret, Ev.x_ife, Ev.x_setI, Ev.x_par, Ev.setNames, Ev.evalE, Ev.evalEs, Ev.evalIfs, Ev.finish, Ev.settle, Ev.settles, Ev.guard_none, Ev.get_app, Ev.get_app0, Ev.set_app, Ev.set_app0, Ev.mutOf_r, Ev.listOf_r, Ev.dictOf_r, Ev.idx_r, Ev.idx_l, Ev.idx_f, Ev.idx_tup, Ev.mth_append, Ev.mth_pop, Ev.rcv_append, Ev.rcv_pop, Ev.rcv_extend, Ev.atI_0, Ev.atI_1, Ev.atI_2, Ev.atI_3, Ev.atI_4, Ev.add_rl, Ev.add_lr, Ev.add_ll, e1, hleft])]
    exact leave_lst (k := 0) hc rfl (by rw [pures_all]; simp [D.pure])
  · -- the second loop
    have b1 := fmod_bd (i := c) (j := 2147483647) (by omega)
    have b2 := fmod_bd (i := c) (j := 2147483629) (by omega)
    obtain ⟨ρ2, S2, e2, ys, u, v, kv', hy, rfl, rfl, hu, hv⟩ := for_rng1 (g := ⟨callN fns (fun _ _ => false) n, fun _ _ => false⟩) (i := 4) (e := .var 1) (j := m)
      (body := [.set 6 (.bin .mod (.bin .mul (.var 6) (.cst (.int 48271))) (.cst (.int 2147483647))), .set 7 (.bin .mod (.bin .add (.bin .mul (.var 7) (.cst (.int 69621))) (.var 4)) (.cst (.int 2147483629))), .expr (.mth .append (.var 5) [(.bin .fdiv (.bin .add (.var 6) (.var 7)) (.cst (.int 7)))])])
      (ρ := [some (.int c), some (.int m), some (.ref S.length), some (.int left), kv, some (.ref (S.length + 1)), some (.int (c.fmod 2147483647 + 48271)), some (.int (c.fmod 2147483629 + 16807))]) (S := S ++ [.lst (xs.map .int), .lst []])
      (P := fun k ρ S' => ∃ (ys : List Int) (u v : Int) (kv : Option D), ys.length = k ∧ ρ = [some (.int c), some (.int m), some (.ref S.length), some (.int left), kv, some (.ref (S.length + 1)), some (.int u), some (.int v)] ∧ S' = S ++ [.lst (xs.map .int), .lst (ys.map .int)] ∧ u.natAbs < 2 ^ 40 ∧ v.natAbs < 2 ^ 40)
      (by simp [Ev.startE, Ev.execB, Ev.x_set, Ev.x_expr, Ev.x_ret, Ev.x_ife, Ev.x_setI, Ev.x_par, Ev.setNames, Ev.evalE, Ev.evalEs, Ev.evalIfs, Ev.finish, Ev.settle, Ev.settles, Ev.guard_none, Ev.get_app, Ev.get_app0, Ev.set_app, Ev.set_app0, Ev.mutOf_r, Ev.listOf_r, Ev.dictOf_r, Ev.idx_r, Ev.idx_l, Ev.idx_f, Ev.idx_tup, Ev.mth_append, Ev.mth_pop, Ev.rcv_append, Ev.rcv_pop, Ev.rcv_extend, Ev.atI_0, Ev.atI_1, Ev.atI_2, Ev.atI_3, Ev.atI_4, Ev.add_rl, Ev.add_lr, Ev.add_ll]) (by omega) (by omega) ⟨[], _, _, kv, rfl, rfl, rfl, by omega, by omega⟩ (by
        rintro k ρ S' hk ⟨ys, u, v, kv, hy, rfl, rfl, hu, hv⟩
        have q1 := fmod_bd (i := u * 48271) (j := 2147483647) (by omega)
        have q2 := fmod_bd (i := v * 69621 + k) (j := 2147483629) (by omega)
        have w1 : mulOk u 48271 = true := mul_small (by omega) (by decide)
        have w2 : mulOk v 69621 = true := mul_small (by omega) (by decide)
        refine ⟨_, _, ?_, ys ++ [((u * 48271).fmod 2147483647 + (v * 69621 + k).fmod 2147483629).fdiv 7], (u * 48271).fmod 2147483647, (v * 69621 + k).fmod 2147483629, some (.int k), by simp [hy], rfl, rfl, by omega, by omega⟩
        have hl : ys.length < 16777216 := by omega
        simp [Ev.startE, Ev.execB, Ev.x_set, Ev.x_expr, Ev.x_ret, Ev.x_ife, Ev.x_setI, Ev.x_par, Ev.setNames, Ev.evalE, Ev.evalEs, Ev.evalIfs, Ev.finish, Ev.settle, Ev.settles, Ev.guard_none, Ev.get_app, Ev.get_app0, Ev.set_app, Ev.set_app0, Ev.mutOf_r, Ev.listOf_r, Ev.dictOf_r, Ev.idx_r, Ev.idx_l, Ev.idx_f, Ev.idx_tup, Ev.mth_append, Ev.mth_pop, Ev.rcv_append, Ev.rcv_pop, Ev.rcv_extend, Ev.atI_0, Ev.atI_1, Ev.atI_2, Ev.atI_3, Ev.atI_4, Ev.add_rl, Ev.add_lr, Ev.add_ll, bin_mod, bin_fdiv d7, bin_mul w1, bin_mul w2, recvOk, mthE, Ev.listOf, hl])
    refine ⟨ys, by simpa using hy, ?_⟩
    rw [fin_go (d := .ref (S.length + 1)) (S1 := S ++ [.lst (xs.map .int), .lst (ys.map .int)]) (by simp [Ev.startE, Ev.execB, Ev.x_set, Ev.x_expr, Ev.x_ret, Ev.x_ife, Ev.x_setI, Ev.x_par, Ev.setNames, Ev.evalE, Ev.evalEs, Ev.evalIfs, Ev.finish, Ev.settle, Ev.settles, Ev.guard_none, Ev.get_app, Ev.get_app0, Ev.set_app, Ev.set_app0, Ev.mutOf_r, Ev.listOf_r, Ev.dictOf_r, Ev.idx_r, Ev.idx_l, Ev.idx_f, Ev.idx_tup, Ev.mth_append, Ev.mth_pop, Ev.rcv_append, Ev.rcv_pop, Ev.rcv_extend, Ev.atI_0, Ev.atI_1, Ev.atI_2, Ev.atI_3, Ev.atI_4, Ev.add_rl, Ev.add_lr, Ev.add_ll, e1, e2, hleft, bin_mod])]
    exact leave_lst (k := 1) hc rfl (by rw [pures_all]; simp [D.pure])
end Pg
end
section
set_option Elab.async false
set_option linter.all false
set_option maxRecDepth 100000
namespace Pg
open Ev
/-! ### kinds, rows, worlds -/
inductive Kd where | truth | range (a b : Int) | fraction | table (k : Int)
def Kd.d : Kd → D
  | .truth => .tup [.str "truth"]
  | .range a b => .tup [.str "range", .int a, .int b]
  | .fraction => .tup [.str "fraction"]
  | .table k => .tup [.str "table", .int k]
def Kd.sort : Kd → D
  | .truth => .non
  | .table k => .tup [.str "table", .int k]
  | _ => .str "number"
def Kd.ok : Kd → Prop
  | .table k => k = 2 ∨ k = 3
  | _ => True
inductive Rw where | unk (nm : PySem.Str) (k : Kd) | fun_ (nm : PySem.Str) (ks : List Kd) (k : Kd) | row (nm : PySem.Str) (a b : Kd)
def Rw.d : Rw → D
  | .unk nm k => .tup [.str "unknown", .str nm, k.d]
  | .fun_ nm ks k => .tup [.str "function", .str nm, .tup (ks.map Kd.d), k.d]
  | .row nm a b => .tup [.str "row", .str nm, a.d, b.d]
def abc : List PySem.Str := (["p", "x", "y", "c", "d", "q", "z"] : List PySem.Str) ++ (["f", "g", "h", "i", "j", "k", "l", "m"] : List PySem.Str) ++ (["a", "b", "r", "s", "t", "u"] : List PySem.Str)
def Kd.num (k : Kd) : Prop := k.ok ∧ k ≠ .truth
def Rw.ok : Rw → Prop
  | .unk nm k => nm ∈ abc ∧ k.ok
  | .fun_ nm ks k => nm ∈ abc ∧ (∀ x ∈ ks, x.num) ∧ k.num ∧ ks.length ≤ 2
  | .row nm a b => nm ∈ abc ∧ a.num ∧ b.num
def WOk (rs : List Rw) : Prop := ∀ r ∈ rs, r.ok
theorem kd_pure (k : Kd) : k.d.pure = true := by cases k <;> rfl
theorem kds_pure : ∀ ks : List Kd, pures (ks.map Kd.d) = true
  | [] => rfl
  | k :: ks => by rw [List.map_cons]; unfold pures; rw [kd_pure k, kds_pure ks]; rfl
theorem rw_pure (r : Rw) : r.d.pure = true := by
  cases r with
  | unk nm k => simp [Rw.d, D.pure, pures, kd_pure]
  | fun_ nm ks k => simp [Rw.d, D.pure, pures, kd_pure, kds_pure]
  | row nm a b => simp [Rw.d, D.pure, pures, kd_pure]
theorem rws_pure : ∀ rs : List Rw, pures (rs.map Rw.d) = true
  | [] => rfl
  | r :: rs => by rw [List.map_cons]; unfold pures; rw [rw_pure r, rws_pure rs]; rfl
theorem sort_pure (k : Kd) : k.sort.pure = true := by cases k <;> rfl
theorem idx_t0 {S : Sto} {a : D} {ds : List D} : idxE S (.tup (a :: ds)) (.int 0) = some a := by simp [idx_tup, Ev.atI]
theorem idx_t1 {S : Sto} {a b : D} {ds : List D} : idxE S (.tup (a :: b :: ds)) (.int 1) = some b := by simp [idx_tup, Ev.atI]
theorem idx_t2 {S : Sto} {a b c : D} {ds : List D} : idxE S (.tup (a :: b :: c :: ds)) (.int 2) = some c := by simp [idx_tup, Ev.atI]
theorem idx_t3 {S : Sto} {a b c d : D} {ds : List D} : idxE S (.tup (a :: b :: c :: d :: ds)) (.int 3) = some d := by simp [idx_tup, Ev.atI]
theorem c_sort {n : Nat} {S : Sto} (k : Kd) (hc : Cl S) : F (n + 1) 8 [k.d] S = some (.ok k.sort S) := by
  rw [F, call_eq (np := 1) (ns := 1) (body := b__law_sort) rfl rfl, settles_pure _ _ (by simp [pures, kd_pure])]
  cases k with
  | truth => simp [Ev.startE, Ev.execB, Ev.x_set, Ev.x_expr, Ev.x_ret, Ev.x_ife, Ev.x_setI, Ev.x_par, Ev.setNames, Ev.evalE, Ev.evalEs, Ev.evalIfs, Ev.finish, Ev.settle, Ev.settles, Ev.guard_none, Ev.get_app, Ev.get_app0, Ev.set_app, Ev.set_app0, Ev.mutOf_r, Ev.listOf_r, Ev.dictOf_r, Ev.idx_r, Ev.idx_l, Ev.idx_f, Ev.idx_tup, Ev.mth_append, Ev.mth_pop, Ev.rcv_append, Ev.rcv_pop, Ev.rcv_extend, Ev.atI_0, Ev.atI_1, Ev.atI_2, Ev.atI_3, Ev.atI_4, Ev.add_rl, Ev.add_lr, Ev.add_ll, b__law_sort, Kd.d, idx_t0, hc, Kd.sort]
  | range a b =>
    have h1 : ("range" : PySem.Str) ≠ "truth" := by decide
    have h2 : ("range" : PySem.Str) ≠ "table" := by decide
    simp [Ev.startE, Ev.execB, Ev.x_set, Ev.x_expr, Ev.x_ret, Ev.x_ife, Ev.x_setI, Ev.x_par, Ev.setNames, Ev.evalE, Ev.evalEs, Ev.evalIfs, Ev.finish, Ev.settle, Ev.settles, Ev.guard_none, Ev.get_app, Ev.get_app0, Ev.set_app, Ev.set_app0, Ev.mutOf_r, Ev.listOf_r, Ev.dictOf_r, Ev.idx_r, Ev.idx_l, Ev.idx_f, Ev.idx_tup, Ev.mth_append, Ev.mth_pop, Ev.rcv_append, Ev.rcv_pop, Ev.rcv_extend, Ev.atI_0, Ev.atI_1, Ev.atI_2, Ev.atI_3, Ev.atI_4, Ev.add_rl, Ev.add_lr, Ev.add_ll, b__law_sort, Kd.d, idx_t0, hc, Kd.sort, h1, h2]
  | fraction =>
    have h1 : ("fraction" : PySem.Str) ≠ "truth" := by decide
    have h2 : ("fraction" : PySem.Str) ≠ "table" := by decide
    simp [Ev.startE, Ev.execB, Ev.x_set, Ev.x_expr, Ev.x_ret, Ev.x_ife, Ev.x_setI, Ev.x_par, Ev.setNames, Ev.evalE, Ev.evalEs, Ev.evalIfs, Ev.finish, Ev.settle, Ev.settles, Ev.guard_none, Ev.get_app, Ev.get_app0, Ev.set_app, Ev.set_app0, Ev.mutOf_r, Ev.listOf_r, Ev.dictOf_r, Ev.idx_r, Ev.idx_l, Ev.idx_f, Ev.idx_tup, Ev.mth_append, Ev.mth_pop, Ev.rcv_append, Ev.rcv_pop, Ev.rcv_extend, Ev.atI_0, Ev.atI_1, Ev.atI_2, Ev.atI_3, Ev.atI_4, Ev.add_rl, Ev.add_lr, Ev.add_ll, b__law_sort, Kd.d, idx_t0, hc, Kd.sort, h1, h2]
  | table k =>
    have h1 : ("table" : PySem.Str) ≠ "truth" := by decide
    simp [Ev.startE, Ev.execB, Ev.x_set, Ev.x_expr, Ev.x_ret, Ev.x_ife, Ev.x_setI, Ev.x_par, Ev.setNames, Ev.evalE, Ev.evalEs, Ev.evalIfs, Ev.finish, Ev.settle, Ev.settles, Ev.guard_none, Ev.get_app, Ev.get_app0, Ev.set_app, Ev.set_app0, Ev.mutOf_r, Ev.listOf_r, Ev.dictOf_r, Ev.idx_r, Ev.idx_l, Ev.idx_f, Ev.idx_tup, Ev.mth_append, Ev.mth_pop, Ev.rcv_append, Ev.rcv_pop, Ev.rcv_extend, Ev.atI_0, Ev.atI_1, Ev.atI_2, Ev.atI_3, Ev.atI_4, Ev.add_rl, Ev.add_lr, Ev.add_ll, b__law_sort, Kd.d, idx_t0, hc, Kd.sort, h1, pures, D.pure]
end Pg
end
section
set_option Elab.async false
set_option linter.all false
set_option maxRecDepth 100000
namespace Pg
open Ev
def Gs (a b lo hi : Int) : List (List Rw) := [[.fun_ "f" [.fraction] .fraction, .fun_ "g" [.fraction] .fraction], [.fun_ "h" [.table a] (.table b), .fun_ "i" [.table a] (.table b)], [.fun_ "j" [.fraction] (.table a), .fun_ "k" [.table b, .fraction] (.table a)],
  [.row "a" .fraction .fraction, .row "b" .fraction .fraction], [.row "r" (.table a) (.table b), .row "s" (.table a) (.table b)], [.row "t" .fraction (.table b), .row "u" (.table b) .fraction], [.fun_ "l" [.table b] (.range lo hi), .fun_ "m" [.table b] (.table a)]]
def Sm (a b lo hi : Int) : List Rw := [.unk "p" .truth, .unk "x" (.range lo hi), .unk "y" .fraction, .unk "c" (.table a), .unk "d" (.table b), .unk "q" .truth, .unk "z" (.range lo hi)]
theorem gs_ok {a b lo hi : Int} (ha : a = 2 ∨ a = 3) (hb : b = 2 ∨ b = 3) : ∀ g ∈ Gs a b lo hi, WOk g := by
  have h1 : ∀ x ∈ (["f", "g", "h", "i", "j", "k", "l", "m"] : List PySem.Str), x ∈ abc := by decide
  have h2 : ∀ x ∈ (["a", "b", "r", "s", "t", "u"] : List PySem.Str), x ∈ abc := by decide
  have n1 : Kd.num .fraction := ⟨trivial, fun h => nomatch h⟩
  have n2 : Kd.num (.table a) := ⟨ha, fun h => nomatch h⟩
  have n3 : Kd.num (.table b) := ⟨hb, fun h => nomatch h⟩
  have n4 : Kd.num (.range lo hi) := ⟨trivial, fun h => nomatch h⟩
  intro g hg
  simp only [Gs, List.mem_cons, List.not_mem_nil, or_false] at hg
  rcases hg with rfl | rfl | rfl | rfl | rfl | rfl | rfl <;> intro r hr <;> simp only [List.mem_cons, List.not_mem_nil, or_false] at hr <;> rcases hr with rfl | rfl <;> simp only [Rw.ok, List.forall_mem_cons, List.not_mem_nil, false_implies, implies_true, and_true, n1, n2, n3, n4, List.length_cons, List.length_nil, true_and] <;> first | exact ⟨h1 _ (by decide), by omega⟩ | exact h1 _ (by decide) | exact h2 _ (by decide) | exact ⟨h2 _ (by decide), by omega⟩
theorem sm_ok {a b lo hi : Int} (ha : a = 2 ∨ a = 3) (hb : b = 2 ∨ b = 3) : WOk (Sm a b lo hi) := by
  have h1 : ∀ x ∈ (["p", "x", "y", "c", "d", "q", "z"] : List PySem.Str), x ∈ abc := by decide
  intro r hr
  simp only [Sm, List.mem_cons, List.not_mem_nil, or_false] at hr
  rcases hr with rfl | rfl | rfl | rfl | rfl | rfl | rfl <;> exact ⟨h1 _ (by decide), by first | exact trivial | exact ha | exact hb⟩
theorem world_a {n : Nat} {S : Sto} {x0 x1 x2 x3 x4 : Int} : ∃ (ρ : Env) (l : Sto) (a b lo hi : Int), (a = 2 ∨ a = 3) ∧ (b = 2 ∨ b = 3) ∧
    execB ⟨callN fns (fun _ _ => false) n, fun _ _ => false⟩ (b__law_world.take 16) (startE 11 (settles [.lst [.int x0, .int x1, .int x2, .int x3, .int x4]] S).1) (settles [.lst [.int x0, .int x1, .int x2, .int x3, .int x4]] S).2 = some (.nx ρ, S ++ l) ∧
    ρ.length = 11 ∧ ρ[0]? = some (some (.ref S.length)) ∧ ρ[6]? = some (some (.ref (S.length + 2))) ∧ ρ[7]? = some (some (.ref (S.length + 4))) ∧ ρ[8]? = some (some (.int (x2.fmod 7))) ∧ ρ[9]? = some (some (.int ((x2.fmod 7 + 1 + x3.fmod 6).fmod 7))) ∧
    l[0]? = some (.lst [.int x0, .int x1, .int x2, .int x3, .int x4]) ∧ l[2]? = some (.lst ((Sm a b lo hi).map Rw.d)) ∧ l[4]? = some (.lst ([3, 5, 6, 7, 8, 9, 10].map fun k => .ref (S.length + k))) ∧
    l[3]? = some (.lst (((Gs a b lo hi).getD 0 []).map Rw.d)) ∧ l[5]? = some (.lst (((Gs a b lo hi).getD 1 []).map Rw.d)) ∧ l[6]? = some (.lst (((Gs a b lo hi).getD 2 []).map Rw.d)) ∧ l[7]? = some (.lst (((Gs a b lo hi).getD 3 []).map Rw.d)) ∧
    l[8]? = some (.lst (((Gs a b lo hi).getD 4 []).map Rw.d)) ∧ l[9]? = some (.lst (((Gs a b lo hi).getD 5 []).map Rw.d)) ∧ l[10]? = some (.lst (((Gs a b lo hi).getD 6 []).map Rw.d)) := by
  have d5 : divOk 5 = true := by decide
  have b2 := fmod_bd (i := x1) (j := 2) (by omega)
  have e : execB ⟨callN fns (fun _ _ => false) n, fun _ _ => false⟩ (b__law_world.take 16) (startE 11 (settles [.lst [.int x0, .int x1, .int x2, .int x3, .int x4]] S).1) (settles [.lst [.int x0, .int x1, .int x2, .int x3, .int x4]] S).2 =
      some (.nx [some (.ref S.length), some (.int (x0.fmod 5 - 2)), some (Kd.d (.range (x0.fmod 5 - 2) (x0.fmod 5 - 2 + (x0.fdiv 5).fmod 4))), some (Kd.d (.table (2 + x1.fmod 2))), some (Kd.d (.table (3 - x1.fmod 2))), some (Kd.d .fraction), some (.ref (S.length + 2)), some (.ref (S.length + 4)), some (.int (x2.fmod 7)), some (.int ((x2.fmod 7 + 1 + x3.fmod 6).fmod 7)), none],
        S ++ [.lst [.int x0, .int x1, .int x2, .int x3, .int x4], .lst (((Sm (2 + x1.fmod 2) (3 - x1.fmod 2) (x0.fmod 5 - 2) (x0.fmod 5 - 2 + (x0.fdiv 5).fmod 4)).take 4).map Rw.d), .lst ((Sm (2 + x1.fmod 2) (3 - x1.fmod 2) (x0.fmod 5 - 2) (x0.fmod 5 - 2 + (x0.fdiv 5).fmod 4)).map Rw.d),
          .lst (((Gs (2 + x1.fmod 2) (3 - x1.fmod 2) (x0.fmod 5 - 2) (x0.fmod 5 - 2 + (x0.fdiv 5).fmod 4)).getD 0 []).map Rw.d), .lst ([3, 5, 6, 7, 8, 9, 10].map fun k => .ref (S.length + k)), .lst (((Gs (2 + x1.fmod 2) (3 - x1.fmod 2) (x0.fmod 5 - 2) (x0.fmod 5 - 2 + (x0.fdiv 5).fmod 4)).getD 1 []).map Rw.d),
          .lst (((Gs (2 + x1.fmod 2) (3 - x1.fmod 2) (x0.fmod 5 - 2) (x0.fmod 5 - 2 + (x0.fdiv 5).fmod 4)).getD 2 []).map Rw.d), .lst (((Gs (2 + x1.fmod 2) (3 - x1.fmod 2) (x0.fmod 5 - 2) (x0.fmod 5 - 2 + (x0.fdiv 5).fmod 4)).getD 3 []).map Rw.d), .lst (((Gs (2 + x1.fmod 2) (3 - x1.fmod 2) (x0.fmod 5 - 2) (x0.fmod 5 - 2 + (x0.fdiv 5).fmod 4)).getD 4 []).map Rw.d),
          .lst (((Gs (2 + x1.fmod 2) (3 - x1.fmod 2) (x0.fmod 5 - 2) (x0.fmod 5 - 2 + (x0.fdiv 5).fmod 4)).getD 5 []).map Rw.d), .lst (((Gs (2 + x1.fmod 2) (3 - x1.fmod 2) (x0.fmod 5 - 2) (x0.fmod 5 - 2 + (x0.fdiv 5).fmod 4)).getD 6 []).map Rw.d)]) := by
    simp only [b__law_world, List.take_succ_cons, List.take_zero]
    simp [Ev.startE, Ev.execB, Ev.x_set, Ev.x_expr, Ev.x_ret, Ev.x_ife, Ev.x_setI, Ev.x_par, Ev.setNames, Ev.evalE, Ev.evalEs, Ev.evalIfs, Ev.finish, Ev.settle, Ev.settles, Ev.guard_none, Ev.get_app, Ev.get_app0, Ev.set_app, Ev.set_app0, Ev.mutOf_r, Ev.listOf_r, Ev.dictOf_r, Ev.idx_r, Ev.idx_l, Ev.idx_f, Ev.idx_tup, Ev.mth_append, Ev.mth_pop, Ev.rcv_append, Ev.rcv_pop, Ev.rcv_extend, Ev.atI_0, Ev.atI_1, Ev.atI_2, Ev.atI_3, Ev.atI_4, Ev.add_rl, Ev.add_lr, Ev.add_ll, bin_mod, bin_fdiv d5, Sm, Gs, Kd.d, Rw.d]
  exact ⟨_, _, 2 + x1.fmod 2, 3 - x1.fmod 2, x0.fmod 5 - 2, x0.fmod 5 - 2 + (x0.fdiv 5).fmod 4, by omega, by omega, e, rfl, rfl, rfl, rfl, rfl, rfl, rfl, rfl, rfl, rfl, rfl, rfl, rfl, rfl, rfl, rfl⟩
/-- one of the groups -/
theorem group_at {S l : Sto} {a b lo hi i : Int} (ha : a = 2 ∨ a = 3) (hb : b = 2 ∨ b = 3) (h0 : 0 ≤ i) (h7 : i < 7)
    (l3 : l[3]? = some (.lst (((Gs a b lo hi).getD 0 []).map Rw.d))) (l5 : l[5]? = some (.lst (((Gs a b lo hi).getD 1 []).map Rw.d))) (l6 : l[6]? = some (.lst (((Gs a b lo hi).getD 2 []).map Rw.d))) (l7 : l[7]? = some (.lst (((Gs a b lo hi).getD 3 []).map Rw.d)))
    (l8 : l[8]? = some (.lst (((Gs a b lo hi).getD 4 []).map Rw.d))) (l9 : l[9]? = some (.lst (((Gs a b lo hi).getD 5 []).map Rw.d))) (l10 : l[10]? = some (.lst (((Gs a b lo hi).getD 6 []).map Rw.d))) :
    ∃ (j : Nat) (g : List Rw), Ev.atI ([3, 5, 6, 7, 8, 9, 10].map fun k => D.ref (S.length + k)) i = some (.ref (S.length + j)) ∧ l[j]? = some (.lst (g.map Rw.d)) ∧ WOk g ∧ g.length = 2 := by
  have ok := gs_ok (lo := lo) (hi := hi) ha hb
  have hi' : i = 0 ∨ i = 1 ∨ i = 2 ∨ i = 3 ∨ i = 4 ∨ i = 5 ∨ i = 6 := by omega
  rcases hi' with rfl | rfl | rfl | rfl | rfl | rfl | rfl
  · exact ⟨3, _, rfl, l3, ok _ (by simp [Gs]), rfl⟩
  · exact ⟨5, _, rfl, l5, ok _ (by simp [Gs]), rfl⟩
  · exact ⟨6, _, rfl, l6, ok _ (by simp [Gs]), rfl⟩
  · exact ⟨7, _, rfl, l7, ok _ (by simp [Gs]), rfl⟩
  · exact ⟨8, _, rfl, l8, ok _ (by simp [Gs]), rfl⟩
  · exact ⟨9, _, rfl, l9, ok _ (by simp [Gs]), rfl⟩
  · exact ⟨10, _, rfl, l10, ok _ (by simp [Gs]), rfl⟩
theorem c_world {n : Nat} {S : Sto} {x0 x1 x2 x3 x4 : Int} (hc : Cl S) : ∃ rs, (WOk rs ∧ rs.length ≤ 100) ∧ F (n + 1) 7 [.lst [.int x0, .int x1, .int x2, .int x3, .int x4]] S = some (.ok (.tup (rs.map Rw.d)) S) := by
  rw [F, call_eq (np := 1) (ns := 11) (body := b__law_world) rfl rfl]
  have d6 : divOk 6 = true := by decide
  have d2 : divOk 2 = true := by decide
  obtain ⟨ρ, l, a, b, lo, hi, ha, hb, e, hρ, r0, r6, r7, r8, r9, l0, l2, l4, l3, l5, l6, l7, l8, l9, l10⟩ := world_a (n := n) (S := S) (x0 := x0) (x1 := x1) (x2 := x2) (x3 := x3) (x4 := x4)
  have b8 := fmod_bd (i := x2) (j := 7) (by omega)
  have b9 := fmod_bd (i := x2.fmod 7 + 1 + x3.fmod 6) (j := 7) (by omega)
  obtain ⟨j1, g1, e1, m1, w1, q1⟩ := group_at (S := S) ha hb b8.1 b8.2 l3 l5 l6 l7 l8 l9 l10
  obtain ⟨j2, g2, e2, m2, w2, q2⟩ := group_at (S := S) ha hb b9.1 b9.2 l3 l5 l6 l7 l8 l9 l10
  have sp : b__law_world = b__law_world.take 16 ++ b__law_world.drop 16 := (List.take_append_drop _ _).symm
  rw [sp, execB_app, e, seqS_nx]
  have hd : b__law_world.drop 16 = [.set 10 (.sl (.idx (.var 7) (.var 9)) (.cst .non) (.bin .mod (.bin .fdiv (.idx (.var 0) (.cst (.int 3))) (.cst (.int 6))) (.cst (.int 2)))),
    .ret (.blt .tuple [(.bin .add (.bin .add (.sl (.var 6) (.bin .mod (.idx (.var 0) (.cst (.int 4))) (.cst (.int 2))) (.bin .add (.cst (.int 4)) (.bin .mod (.bin .fdiv (.idx (.var 0) (.cst (.int 4))) (.cst (.int 2))) (.cst (.int 4))))) (.idx (.var 7) (.var 8))) (.var 10))])] := rfl
  rw [hd]
  obtain ⟨i1, k1, s1⟩ := sl_of (S := S ++ l) (a := .ref (S.length + j2)) (lo := .non) (hi := .int ((x3.fdiv 6).fmod 2)) (ds := g2.map Rw.d) (by rw [listOf_r, get_app, m2]) (.inl rfl) (.inr ⟨_, rfl⟩)
  have pg2 : pures (cut (g2.map Rw.d) i1 k1) = true := by rw [cut_map]; exact rws_pure _
  obtain ⟨i2, k2, s2⟩ := sl_of (S := S ++ (l ++ [.lst (cut (g2.map Rw.d) i1 k1)])) (a := .ref (S.length + 2)) (lo := .int (x4.fmod 2)) (hi := .int (4 + (x4.fdiv 2).fmod 4)) (ds := (Sm a b lo hi).map Rw.d) (by
    rw [listOf_r, get_app, List.getElem?_append_left (List.getElem?_eq_some_iff.mp l2).1, l2]) (.inr ⟨_, rfl⟩) (.inr ⟨_, rfl⟩)
  have up : ∀ {k : Nat} {o x : D}, l[k]? = some o → (l ++ [x])[k]? = some o := fun {k o x} h => by rw [List.getElem?_append_left (List.getElem?_eq_some_iff.mp h).1, h]
  have len1 : (cut ((Sm a b lo hi).map Rw.d) i2 k2).length ≤ 7 := by
    unfold cut
    simp [Sm]; omega
  have len2 : (cut (g2.map Rw.d) i1 k1).length ≤ 2 := by
    unfold cut
    simp [q2]; omega
  refine ⟨cut (Sm a b lo hi) i2 k2 ++ g1 ++ cut g2 i1 k1, ⟨fun r hr => ?_, by
    rw [cut_map, List.length_map] at len1 len2
    simp only [List.length_append]; omega⟩, ?_⟩
  · rcases List.mem_append.mp hr with hr | hr
    · rcases List.mem_append.mp hr with hr | hr
      · exact sm_ok ha hb r (cut_mem hr)
      · exact w1 r hr
    · exact w2 r (cut_mem hr)
  · have h9 : ∀ x, (ρ.set 10 x)[6]? = ρ[6]? := fun x => List.getElem?_set_ne (by omega)
    have g0 : (ρ.set 10 (some (.ref (S.length + l.length))))[0]? = some (some (.ref S.length)) := by rw [List.getElem?_set_ne (by omega), r0]
    have g6 : (ρ.set 10 (some (.ref (S.length + l.length))))[6]? = some (some (.ref (S.length + 2))) := by rw [List.getElem?_set_ne (by omega), r6]
    have g7 : (ρ.set 10 (some (.ref (S.length + l.length))))[7]? = some (some (.ref (S.length + 4))) := by rw [List.getElem?_set_ne (by omega), r7]
    have g8 : (ρ.set 10 (some (.ref (S.length + l.length))))[8]? = some (some (.int (x2.fmod 7))) := by rw [List.getElem?_set_ne (by omega), r8]
    have g10 : (ρ.set 10 (some (.ref (S.length + l.length))))[10]? = some (some (.ref (S.length + l.length))) := by rw [List.getElem?_set_self (by omega)]
    have lz : (l ++ [D.lst (cut (g2.map Rw.d) i1 k1)])[l.length]? = some (.lst (cut (g2.map Rw.d) i1 k1)) := by simp
    have c1 : (cut ((Sm a b lo hi).map Rw.d) i2 k2).length + (g1.map Rw.d).length ≤ 16777216 := by rw [List.length_map]; omega
    have c2 : (cut ((Sm a b lo hi).map Rw.d) i2 k2).length + (g1.map Rw.d).length + (cut (g2.map Rw.d) i1 k1).length ≤ 16777216 := by rw [List.length_map]; omega
    rw [fin_go (d := .tup (cut ((Sm a b lo hi).map Rw.d) i2 k2 ++ g1.map Rw.d ++ cut (g2.map Rw.d) i1 k1)) (S1 := S ++ (l ++ [.lst (cut (g2.map Rw.d) i1 k1)]))]
    · rw [cut_map, cut_map, ← List.map_append, ← List.map_append]
      exact leave_tup hc (rws_pure _)
    · simp only [Ev.startE, Ev.execB, Ev.x_set, Ev.x_expr, Ev.x_ret, Ev.x_ife, Ev.x_setI, Ev.x_par, Ev.setNames, Ev.evalE, Ev.evalEs, Ev.evalIfs, Ev.finish, Ev.settle, Ev.settles, Ev.guard_none, Ev.get_app, Ev.get_app0, Ev.set_app, Ev.set_app0, Ev.mutOf_r, Ev.listOf_r, Ev.dictOf_r, Ev.idx_r, Ev.idx_l, Ev.idx_f, Ev.idx_tup, Ev.mth_append, Ev.mth_pop, Ev.rcv_append, Ev.rcv_pop, Ev.rcv_extend, Ev.atI_0, Ev.atI_1, Ev.atI_2, Ev.atI_3, Ev.atI_4, Ev.add_rl, Ev.add_lr, Ev.add_ll, r0, r6, r7, r8, r9, bnd_ok, bndS_ok, seqS_nx, Option.map_some, l4, e2, isPart, l0, List.getElem?_cons_succ, List.getElem?_cons_zero, bin_fdiv d6, bin_fdiv d2, bin_mod (show (2 : Int) ≠ 0 by decide), bin_mod (show (4 : Int) ≠ 0 by decide), if_true, s1, settles_pure _ _ pg2, List.length_append, List.append_assoc, g0, g6, g7, g8, g10, up l0, up l2, up l4, up m1, bin_add, s2, e1, c1, c2, lz, tuple_seq, seqOf_lst, seqS_ret]
end Pg
end
section
set_option Elab.async false
set_option linter.all false
set_option maxRecDepth 100000
namespace Pg
open Ev
theorem c_constant {n : Nat} {S : Sto} {x : Int} (hc : Cl S) : ∃ a b, F (n + 1) 9 [.int x] S = some (.ok (.tup [.str "number", .int a, .int b]) S) := by
  rw [F, call_eq (np := 1) (ns := 5) (body := b__law_constant) rfl rfl]
  have d4 : divOk 4 = true := by decide
  have d7 : divOk 7 = true := by decide
  have b0 := fmod_bd (i := x) (j := 1000) (by omega)
  have b1 := fmod_bd (i := x) (j := 4) (by omega)
  have b2 := fmod_bd (i := x.fdiv 4) (j := 9) (by omega)
  have b3 := fmod_bd (i := x.fdiv 4) (j := 2000001) (by omega)
  have b4 := fmod_bd (i := x.fdiv 4) (j := 8) (by omega)
  obtain ⟨bot, e1, hb1, hb2⟩ : ∃ bot : Int, Ev.atI [D.int 1, D.int 1, D.int 2, D.int (1 + x.fmod 1000)] (x.fmod 4) = some (.int bot) ∧ 1 ≤ bot ∧ bot ≤ 1000 := by
    have h4 : x.fmod 4 = 0 ∨ x.fmod 4 = 1 ∨ x.fmod 4 = 2 ∨ x.fmod 4 = 3 := by omega
    rcases h4 with h | h | h | h <;> rw [h]
    · exact ⟨1, rfl, by omega, by omega⟩
    · exact ⟨1, rfl, by omega, by omega⟩
    · exact ⟨2, rfl, by omega, by omega⟩
    · exact ⟨1 + x.fmod 1000, rfl, by omega, by omega⟩
  obtain ⟨top, e2, ht1, ht2⟩ : ∃ top : Int, Ev.atI [D.int ((x.fdiv 4).fmod 9 - 4), D.int ((x.fdiv 4).fmod 2000001 - 1000000)] (((x.fdiv 4).fmod 8).fdiv 7) = some (.int top) ∧ -1000000 ≤ top ∧ top ≤ 1000000 := by
    have h4 : (x.fdiv 4).fmod 8 = 0 ∨ (x.fdiv 4).fmod 8 = 1 ∨ (x.fdiv 4).fmod 8 = 2 ∨ (x.fdiv 4).fmod 8 = 3 ∨ (x.fdiv 4).fmod 8 = 4 ∨ (x.fdiv 4).fmod 8 = 5 ∨ (x.fdiv 4).fmod 8 = 6 ∨ (x.fdiv 4).fmod 8 = 7 := by omega
    rcases h4 with h | h | h | h | h | h | h | h <;> rw [h] <;> first | exact ⟨_, rfl, by omega, by omega⟩
  have p6 : ∀ S, binE S .pow (.int 10) (.int 6) = some (.int 1000000) := fun S => rfl
  obtain ⟨ρ2, S2, e3, one, h1, h2, rfl, rfl⟩ := while_rel (g := ⟨callN fns (fun _ _ => false) n, fun _ _ => false⟩) (c := .cmp .ne (.var 4) (.cst (.int 0))) (body := [.par [3, 4] [(.var 4), (.bin .mod (.var 3) (.var 4))]])
    (fun m ρ S' => ∃ a b : Int, 0 ≤ a ∧ 0 ≤ b ∧ 0 < a + b ∧ a ≤ 1000000 ∧ b ≤ 1000000 ∧ b.toNat = m ∧ ρ = [some (.int x), some (.int bot), some (.int top), some (.int a), some (.int b)] ∧ S' = S)
    (fun ρ S' => ∃ a : Int, 0 < a ∧ a ≤ 1000000 ∧ ρ = [some (.int x), some (.int bot), some (.int top), some (.int a), some (.int 0)] ∧ S' = S) (by
      rintro m ρ S' ⟨a, b, q1, q2, q3, q4, q5, q6, rfl, rfl⟩
      refine ⟨.bl (!decide (b = 0)), S', !decide (b = 0), by simp [Ev.startE, Ev.execB, Ev.x_set, Ev.x_expr, Ev.x_ret, Ev.x_ife, Ev.x_setI, Ev.x_par, Ev.setNames, Ev.evalE, Ev.evalEs, Ev.evalIfs, Ev.finish, Ev.settle, Ev.settles, Ev.guard_none, Ev.get_app, Ev.get_app0, Ev.set_app, Ev.set_app0, Ev.mutOf_r, Ev.listOf_r, Ev.dictOf_r, Ev.idx_r, Ev.idx_l, Ev.idx_f, Ev.idx_tup, Ev.mth_append, Ev.mth_pop, Ev.rcv_append, Ev.rcv_pop, Ev.rcv_extend, Ev.atI_0, Ev.atI_1, Ev.atI_2, Ev.atI_3, Ev.atI_4, Ev.add_rl, Ev.add_lr, Ev.add_ll], rfl, fun h => ?_, fun h => ?_⟩
      · have hb : b ≠ 0 := by simpa using h
        have q := fmod_bd (i := a) (j := b) (by omega)
        exact ⟨_, _, (a.fmod b).toNat, by simp [Ev.startE, Ev.execB, Ev.x_set, Ev.x_expr, Ev.x_ret, Ev.x_ife, Ev.x_setI, Ev.x_par, Ev.setNames, Ev.evalE, Ev.evalEs, Ev.evalIfs, Ev.finish, Ev.settle, Ev.settles, Ev.guard_none, Ev.get_app, Ev.get_app0, Ev.set_app, Ev.set_app0, Ev.mutOf_r, Ev.listOf_r, Ev.dictOf_r, Ev.idx_r, Ev.idx_l, Ev.idx_f, Ev.idx_tup, Ev.mth_append, Ev.mth_pop, Ev.rcv_append, Ev.rcv_pop, Ev.rcv_extend, Ev.atI_0, Ev.atI_1, Ev.atI_2, Ev.atI_3, Ev.atI_4, Ev.add_rl, Ev.add_lr, Ev.add_ll, bin_mod hb], by omega, b, a.fmod b, by omega, by omega, by omega, by omega, by omega, rfl, rfl, rfl⟩
      · have hb : b = 0 := by simpa using h
        subst hb
        exact ⟨a, by omega, by omega, rfl, rfl⟩)
    bot.toNat [some (.int x), some (.int bot), some (.int top), some (.int (if top < 0 then -top else top)), some (.int bot)] S ⟨if top < 0 then -top else top, bot, by split <;> omega, by omega, by split <;> omega, by split <;> omega, by omega, rfl, rfl, rfl⟩
  have dv : divOk one = true := by
    unfold divOk
    have : one.natAbs.log2 < 9000 := by
      have hlt : one.natAbs < 2 ^ 9000 := Nat.lt_of_lt_of_le (by omega : one.natAbs < 2 ^ 30) (Nat.pow_le_pow_right (by omega) (by omega))
      exact (Nat.log2_lt (by omega)).mpr hlt
    simp [this]; omega
  refine ⟨top.fdiv one, bot.fdiv one, ?_⟩
  rw [fin_go (d := .tup [.str "number", .int (top.fdiv one), .int (bot.fdiv one)]) (S1 := S2) (by simp [Ev.startE, Ev.execB, Ev.x_set, Ev.x_expr, Ev.x_ret, Ev.x_ife, Ev.x_setI, Ev.x_par, Ev.setNames, Ev.evalE, Ev.evalEs, Ev.evalIfs, Ev.finish, Ev.settle, Ev.settles, Ev.guard_none, Ev.get_app, Ev.get_app0, Ev.set_app, Ev.set_app0, Ev.mutOf_r, Ev.listOf_r, Ev.dictOf_r, Ev.idx_r, Ev.idx_l, Ev.idx_f, Ev.idx_tup, Ev.mth_append, Ev.mth_pop, Ev.rcv_append, Ev.rcv_pop, Ev.rcv_extend, Ev.atI_0, Ev.atI_1, Ev.atI_2, Ev.atI_3, Ev.atI_4, Ev.add_rl, Ev.add_lr, Ev.add_ll, b__law_constant, bin_mod, bin_fdiv d4, bin_fdiv d7, e1, p6, e2, e3, bin_fdiv dv])]
  exact leave_tup0 hc rfl
/-! ### sorts -/
inductive So where | num | tab (k : Int)
def So.d : So → D
  | .num => .str "number"
  | .tab k => .tup [.str "table", .int k]
def So.ok : So → Prop
  | .num => True
  | .tab k => k = 2 ∨ k = 3
theorem so_pure (s : So) : s.d.pure = true := by cases s <;> rfl
theorem num_so {k : Kd} (h : k.num) : ∃ s : So, s.ok ∧ k.sort = s.d := by
  cases k with
  | truth => exact absurd rfl h.2
  | range a b => exact ⟨.num, trivial, rfl⟩
  | fraction => exact ⟨.num, trivial, rfl⟩
  | table k => exact ⟨.tab k, h.1, rfl⟩
theorem depth_sort (k : Kd) : k.sort.depth ≤ 1 := by cases k <;> simp [Kd.sort, D.depth, depths]
theorem eq_sort {S : Sto} {k : Kd} {s : So} : eqE S k.sort s.d = some (k.sort.eqv s.d) := eq_pure (sort_pure k) (so_pure s) (by have := depth_sort k; omega)
/-! ### the leaf -/
def isLeaf (t : D) : Prop := (∃ nm ∈ abc, t = .tup [.str "unknown", .str nm]) ∨ (∃ a b, t = .tup [.str "number", .int a, .int b]) ∨ ∃ a b, t = .tup [.str "member", .int a, .int b]
def pUnk (s : So) : Rw → Bool
  | .unk _ k => k.sort.eqv s.d
  | _ => false
theorem c_leaf {n : Nat} {S : Sto} {rs : List Rw} {s : So} {x : Int} (hc : Cl S) (hr : WOk rs) (hs : s.ok) : ∃ t, isLeaf t ∧ F (n + 2) 10 [.tup (rs.map Rw.d), s.d, .int x] S = some (.ok t S) := by
  rw [F, call_eq (np := 3) (ns := 5) (body := b__law_leaf) rfl rfl, settles_pure _ _ (by simp [pures, D.pure, rws_pure, so_pure])]
  have d4 : divOk 4 = true := by decide
  have hcomp : evalE ⟨callN fns (fun _ _ => false) (n + 1), fun _ _ => false⟩ (.comp (.nm 4) .val [(.var 0)] [(.and (.cmp .eq (.idx (.var 4) (.cst (.int 0))) (.cst (.str "unknown"))) (.cmp .eq (.call 8 [(.idx (.var 4) (.cst (.int 2)))]) (.var 1)))] (.var 4)) [some (.tup (rs.map Rw.d)), some s.d, some (.int x), none, none] S = some (.ok (.lst ((rs.filter (pUnk s)).map Rw.d)) S) := by
    refine comp_f (f := Rw.d) (p := pUnk s) (v := Rw.d) (dv := .tup (rs.map Rw.d)) (by simp [Ev.startE, Ev.execB, Ev.x_set, Ev.x_expr, Ev.x_ret, Ev.x_ife, Ev.x_setI, Ev.x_par, Ev.setNames, Ev.evalE, Ev.evalEs, Ev.evalIfs, Ev.finish, Ev.settle, Ev.settles, Ev.guard_none, Ev.get_app, Ev.get_app0, Ev.set_app, Ev.set_app0, Ev.mutOf_r, Ev.listOf_r, Ev.dictOf_r, Ev.idx_r, Ev.idx_l, Ev.idx_f, Ev.idx_tup, Ev.mth_append, Ev.mth_pop, Ev.rcv_append, Ev.rcv_pop, Ev.rcv_extend, Ev.atI_0, Ev.atI_1, Ev.atI_2, Ev.atI_3, Ev.atI_4, Ev.add_rl, Ev.add_lr, Ev.add_ll]) rfl (fun r _ => rw_pure r) (fun r _ => ?_) (fun r _ _ => by simp [Ev.startE, Ev.execB, Ev.x_set, Ev.x_expr, Ev.x_ret, Ev.x_ife, Ev.x_setI, Ev.x_par, Ev.setNames, Ev.evalE, Ev.evalEs, Ev.evalIfs, Ev.finish, Ev.settle, Ev.settles, Ev.guard_none, Ev.get_app, Ev.get_app0, Ev.set_app, Ev.set_app0, Ev.mutOf_r, Ev.listOf_r, Ev.dictOf_r, Ev.idx_r, Ev.idx_l, Ev.idx_f, Ev.idx_tup, Ev.mth_append, Ev.mth_pop, Ev.rcv_append, Ev.rcv_pop, Ev.rcv_extend, Ev.atI_0, Ev.atI_1, Ev.atI_2, Ev.atI_3, Ev.atI_4, Ev.add_rl, Ev.add_lr, Ev.add_ll])
    refine ifs_1 (d := .bl (pUnk s r)) ?_ rfl
    cases r with
    | unk nm k => simp [Ev.startE, Ev.execB, Ev.x_set, Ev.x_expr, Ev.x_ret, Ev.x_ife, Ev.x_setI, Ev.x_par, Ev.setNames, Ev.evalE, Ev.evalEs, Ev.evalIfs, Ev.finish, Ev.settle, Ev.settles, Ev.guard_none, Ev.get_app, Ev.get_app0, Ev.set_app, Ev.set_app0, Ev.mutOf_r, Ev.listOf_r, Ev.dictOf_r, Ev.idx_r, Ev.idx_l, Ev.idx_f, Ev.idx_tup, Ev.mth_append, Ev.mth_pop, Ev.rcv_append, Ev.rcv_pop, Ev.rcv_extend, Ev.atI_0, Ev.atI_1, Ev.atI_2, Ev.atI_3, Ev.atI_4, Ev.add_rl, Ev.add_lr, Ev.add_ll, Rw.d, c_sort k hc, eq_sort, pUnk]
    | fun_ nm ks k =>
      have h1 : ("function" : PySem.Str) ≠ "unknown" := by decide
      simp [Ev.startE, Ev.execB, Ev.x_set, Ev.x_expr, Ev.x_ret, Ev.x_ife, Ev.x_setI, Ev.x_par, Ev.setNames, Ev.evalE, Ev.evalEs, Ev.evalIfs, Ev.finish, Ev.settle, Ev.settles, Ev.guard_none, Ev.get_app, Ev.get_app0, Ev.set_app, Ev.set_app0, Ev.mutOf_r, Ev.listOf_r, Ev.dictOf_r, Ev.idx_r, Ev.idx_l, Ev.idx_f, Ev.idx_tup, Ev.mth_append, Ev.mth_pop, Ev.rcv_append, Ev.rcv_pop, Ev.rcv_extend, Ev.atI_0, Ev.atI_1, Ev.atI_2, Ev.atI_3, Ev.atI_4, Ev.add_rl, Ev.add_lr, Ev.add_ll, Rw.d, h1, pUnk]
    | row nm a b =>
      have h1 : ("row" : PySem.Str) ≠ "unknown" := by decide
      simp [Ev.startE, Ev.execB, Ev.x_set, Ev.x_expr, Ev.x_ret, Ev.x_ife, Ev.x_setI, Ev.x_par, Ev.setNames, Ev.evalE, Ev.evalEs, Ev.evalIfs, Ev.finish, Ev.settle, Ev.settles, Ev.guard_none, Ev.get_app, Ev.get_app0, Ev.set_app, Ev.set_app0, Ev.mutOf_r, Ev.listOf_r, Ev.dictOf_r, Ev.idx_r, Ev.idx_l, Ev.idx_f, Ev.idx_tup, Ev.mth_append, Ev.mth_pop, Ev.rcv_append, Ev.rcv_pop, Ev.rcv_extend, Ev.atI_0, Ev.atI_1, Ev.atI_2, Ev.atI_3, Ev.atI_4, Ev.add_rl, Ev.add_lr, Ev.add_ll, Rw.d, h1, pUnk]
  generalize hL : rs.filter (pUnk s) = L at hcomp
  have pL := rws_pure L
  have hget : (S ++ [D.lst (L.map Rw.d)])[S.length]? = some (.lst (L.map Rw.d)) := by simp
  have hne := eq_nil hget pL
  obtain ⟨a, b, hcst⟩ := c_constant (n := n) (S := S ++ [.lst (L.map Rw.d)]) (x := x.fdiv 4) (Cl.app hc (by
    unfold unders unders D.under
    rw [pures_under _ _ pL]; rfl))
  have st1 : execS ⟨callN fns (fun _ _ => false) (n + 1), fun _ _ => false⟩ (.set 3 (.comp (.nm 4) .val [(.var 0)] [(.and (.cmp .eq (.idx (.var 4) (.cst (.int 0))) (.cst (.str "unknown"))) (.cmp .eq (.call 8 [(.idx (.var 4) (.cst (.int 2)))]) (.var 1)))] (.var 4))) [some (.tup (rs.map Rw.d)), some s.d, some (.int x), none, none] S =
      some (.nx [some (.tup (rs.map Rw.d)), some s.d, some (.int x), some (.ref S.length), none], S ++ [.lst (L.map Rw.d)]) := by
    rw [x_set, hcomp, bndS_ok]
    simp [Ev.startE, Ev.execB, Ev.x_set, Ev.x_expr, Ev.x_ret, Ev.x_ife, Ev.x_setI, Ev.x_par, Ev.setNames, Ev.evalE, Ev.evalEs, Ev.evalIfs, Ev.finish, Ev.settle, Ev.settles, Ev.guard_none, Ev.get_app, Ev.get_app0, Ev.set_app, Ev.set_app0, Ev.mutOf_r, Ev.listOf_r, Ev.dictOf_r, Ev.idx_r, Ev.idx_l, Ev.idx_f, Ev.idx_tup, Ev.mth_append, Ev.mth_pop, Ev.rcv_append, Ev.rcv_pop, Ev.rcv_extend, Ev.atI_0, Ev.atI_1, Ev.atI_2, Ev.atI_3, Ev.atI_4, Ev.add_rl, Ev.add_lr, Ev.add_ll, settles_pure _ _ pL]
  have tail : (L = [] ∨ ¬ 0 < x.fmod 4) → ∃ t, isLeaf t ∧ finish S.length (execB ⟨callN fns (fun _ _ => false) (n + 1), fun _ _ => false⟩ b__law_leaf (startE 5 [.tup (rs.map Rw.d), s.d, .int x]) S) = some (.ok t S) := fun hh => by
    unfold b__law_leaf
    have st2 : execS ⟨callN fns (fun _ _ => false) (n + 1), fun _ _ => false⟩ (.ife (.and (.cmp .ne (.var 3) (.lst [])) (.cmp .gt (.bin .mod (.var 2) (.cst (.int 4))) (.cst (.int 0)))) [.ret (.tup [(.cst (.str "unknown")), (.idx (.idx (.var 3) (.bin .mod (.bin .fdiv (.var 2) (.cst (.int 4))) (.blt .len [(.var 3)]))) (.cst (.int 1)))])] []) [some (.tup (rs.map Rw.d)), some s.d, some (.int x), some (.ref S.length), none] (S ++ [.lst (L.map Rw.d)]) =
        some (.nx [some (.tup (rs.map Rw.d)), some s.d, some (.int x), some (.ref S.length), none], S ++ [.lst (L.map Rw.d)]) := by
      by_cases hE : L = []
      · have hEm : L.isEmpty = true := by simpa using hE
        simp [Ev.startE, Ev.execB, Ev.x_set, Ev.x_expr, Ev.x_ret, Ev.x_ife, Ev.x_setI, Ev.x_par, Ev.setNames, Ev.evalE, Ev.evalEs, Ev.evalIfs, Ev.finish, Ev.settle, Ev.settles, Ev.guard_none, Ev.get_app, Ev.get_app0, Ev.set_app, Ev.set_app0, Ev.mutOf_r, Ev.listOf_r, Ev.dictOf_r, Ev.idx_r, Ev.idx_l, Ev.idx_f, Ev.idx_tup, Ev.mth_append, Ev.mth_pop, Ev.rcv_append, Ev.rcv_pop, Ev.rcv_extend, Ev.atI_0, Ev.atI_1, Ev.atI_2, Ev.atI_3, Ev.atI_4, Ev.add_rl, Ev.add_lr, Ev.add_ll, hne, hEm]
      · have hx : ¬ 0 < x.fmod 4 := hh.resolve_left hE
        have hEm : L.isEmpty = false := by simpa using hE
        simp [Ev.startE, Ev.execB, Ev.x_set, Ev.x_expr, Ev.x_ret, Ev.x_ife, Ev.x_setI, Ev.x_par, Ev.setNames, Ev.evalE, Ev.evalEs, Ev.evalIfs, Ev.finish, Ev.settle, Ev.settles, Ev.guard_none, Ev.get_app, Ev.get_app0, Ev.set_app, Ev.set_app0, Ev.mutOf_r, Ev.listOf_r, Ev.dictOf_r, Ev.idx_r, Ev.idx_l, Ev.idx_f, Ev.idx_tup, Ev.mth_append, Ev.mth_pop, Ev.rcv_append, Ev.rcv_pop, Ev.rcv_extend, Ev.atI_0, Ev.atI_1, Ev.atI_2, Ev.atI_3, Ev.atI_4, Ev.add_rl, Ev.add_lr, Ev.add_ll, hne, hEm, bin_mod, hx]
    cases s with
    | num =>
      refine ⟨.tup [.str "number", .int a, .int b], .inr (.inl ⟨a, b, rfl⟩), ?_⟩
      exact (fin_go (d := .tup [.str "number", .int a, .int b]) (S1 := S ++ [.lst (L.map Rw.d)]) (go st1 (go st2 (by simp [Ev.startE, Ev.execB, Ev.x_set, Ev.x_expr, Ev.x_ret, Ev.x_ife, Ev.x_setI, Ev.x_par, Ev.setNames, Ev.evalE, Ev.evalEs, Ev.evalIfs, Ev.finish, Ev.settle, Ev.settles, Ev.guard_none, Ev.get_app, Ev.get_app0, Ev.set_app, Ev.set_app0, Ev.mutOf_r, Ev.listOf_r, Ev.dictOf_r, Ev.idx_r, Ev.idx_l, Ev.idx_f, Ev.idx_tup, Ev.mth_append, Ev.mth_pop, Ev.rcv_append, Ev.rcv_pop, Ev.rcv_extend, Ev.atI_0, Ev.atI_1, Ev.atI_2, Ev.atI_3, Ev.atI_4, Ev.add_rl, Ev.add_lr, Ev.add_ll, So.d, bin_fdiv d4, hcst])))).trans (leave_tup hc rfl)
    | tab k =>
      have hk : k ≠ 0 := by rcases hs with h | h <;> omega
      refine ⟨.tup [.str "member", .int k, .int ((x.fdiv 4).fmod k)], .inr (.inr ⟨_, _, rfl⟩), ?_⟩
      exact (fin_go (d := .tup [.str "member", .int k, .int ((x.fdiv 4).fmod k)]) (S1 := S ++ [.lst (L.map Rw.d)]) (go st1 (go st2 (by simp [Ev.startE, Ev.execB, Ev.x_set, Ev.x_expr, Ev.x_ret, Ev.x_ife, Ev.x_setI, Ev.x_par, Ev.setNames, Ev.evalE, Ev.evalEs, Ev.evalIfs, Ev.finish, Ev.settle, Ev.settles, Ev.guard_none, Ev.get_app, Ev.get_app0, Ev.set_app, Ev.set_app0, Ev.mutOf_r, Ev.listOf_r, Ev.dictOf_r, Ev.idx_r, Ev.idx_l, Ev.idx_f, Ev.idx_tup, Ev.mth_append, Ev.mth_pop, Ev.rcv_append, Ev.rcv_pop, Ev.rcv_extend, Ev.atI_0, Ev.atI_1, Ev.atI_2, Ev.atI_3, Ev.atI_4, Ev.add_rl, Ev.add_lr, Ev.add_ll, So.d, bin_fdiv d4, eq_ts, pures, D.pure, bin_mod hk])))).trans (leave_tup hc rfl)
  by_cases hh : L = [] ∨ ¬ 0 < x.fmod 4
  · exact tail hh
  · unfold b__law_leaf
    have hE : L ≠ [] := fun h => hh (.inl h)
    have hEm : L.isEmpty = false := by simpa using hE
    have hx : 0 < x.fmod 4 := Classical.byContradiction fun h => hh (.inr h)
    have hlen : (0 : Int) < (L.map Rw.d).length := by
      rw [List.length_map]
      have := List.length_pos_iff.mpr hE
      omega
    have bb := fmod_bd (i := x.fdiv 4) hlen
    obtain ⟨d, hd, hm⟩ := atI_ok (xs := L.map Rw.d) bb.1 bb.2
    obtain ⟨r, hr1, rfl⟩ := List.mem_map.mp hm
    rw [← hL] at hr1
    obtain ⟨hr2, hr3⟩ := List.mem_filter.mp hr1
    cases r with
    | unk nm k =>
      have hab := (hr _ hr2).1
      have hlen' : ((L.map Rw.d).length : Int) ≠ 0 := by omega
      rw [List.length_map] at hd hlen'
      refine ⟨.tup [.str "unknown", .str nm], .inl ⟨nm, hab, rfl⟩, ?_⟩
      exact (fin_go (d := .tup [.str "unknown", .str nm]) (S1 := S ++ [.lst (L.map Rw.d)]) (go st1 (goR (by simp [Ev.startE, Ev.execB, Ev.x_set, Ev.x_expr, Ev.x_ret, Ev.x_ife, Ev.x_setI, Ev.x_par, Ev.setNames, Ev.evalE, Ev.evalEs, Ev.evalIfs, Ev.finish, Ev.settle, Ev.settles, Ev.guard_none, Ev.get_app, Ev.get_app0, Ev.set_app, Ev.set_app0, Ev.mutOf_r, Ev.listOf_r, Ev.dictOf_r, Ev.idx_r, Ev.idx_l, Ev.idx_f, Ev.idx_tup, Ev.mth_append, Ev.mth_pop, Ev.rcv_append, Ev.rcv_pop, Ev.rcv_extend, Ev.atI_0, Ev.atI_1, Ev.atI_2, Ev.atI_3, Ev.atI_4, Ev.add_rl, Ev.add_lr, Ev.add_ll, hne, hEm, hx, bin_mod hlen', bin_mod (show (4 : Int) ≠ 0 by decide), bin_fdiv d4, hd, Rw.d])))).trans (leave_tup hc rfl)
    | fun_ nm ks k => cases hr3
    | row nm a b => cases hr3
end Pg
end
section
set_option Elab.async false
set_option linter.all false
set_option maxRecDepth 100000
namespace Pg
open Ev
def named : List PySem.Str := ["unknown", "is", "apply", "row"]
def TreeN : Nat → D → Prop
  | 0, _ => False
  | h + 1, d => ∃ (tag : PySem.Str) (ps : List D), d = .tup (.str tag :: ps) ∧ (tag ∈ named → ∃ nm rest, ps = .str nm :: rest ∧ nm ∈ abc) ∧
      ∀ p ∈ ps, (∃ i, p = .int i) ∨ (∃ s, p = .str s) ∨ TreeN h p ∨ ∃ ts, p = .tup ts ∧ ∀ t ∈ ts, TreeN h t
theorem treeN_mono : ∀ (h : Nat) (d : D), TreeN h d → TreeN (h + 1) d
  | 0, _, q => q.elim
  | h + 1, d, ⟨tag, ps, e, hn, hp⟩ => ⟨tag, ps, e, hn, fun p m => by
    rcases hp p m with q | q | q | ⟨ts, e, q⟩
    · exact .inl q
    · exact .inr (.inl q)
    · exact .inr (.inr (.inl (treeN_mono h p q)))
    · exact .inr (.inr (.inr ⟨ts, e, fun t mt => treeN_mono h t (q t mt)⟩))⟩
theorem treeN_le {h k : Nat} {d : D} (hk : h ≤ k) (q : TreeN h d) : TreeN k d := by
  induction hk with
  | refl => exact q
  | step _ ih => exact treeN_mono _ _ ih
theorem treeN_pure : ∀ (h : Nat) (d : D), TreeN h d → d.pure = true
  | 0, _, q => q.elim
  | h + 1, d, ⟨tag, ps, e, hn, hp⟩ => by
    subst e
    unfold D.pure pures
    have : pures ps = true := by
      rw [pures_all, List.all_eq_true]
      intro p m
      rcases hp p m with ⟨i, rfl⟩ | ⟨s, rfl⟩ | q | ⟨ts, rfl, q⟩
      · rfl
      · rfl
      · exact treeN_pure h p q
      · unfold D.pure
        rw [pures_all, List.all_eq_true]
        exact fun t mt => treeN_pure h t (q t mt)
    rw [this]; rfl
def K : Nat → Nat
  | 0 => 4
  | d + 1 => 5 + 3 * K d
structure Tm (d : Nat) (t : D) : Prop where
  tree : TreeN (d + 1) t
  size : nodes t ≤ K d
theorem K_ge (d : Nat) : 4 ≤ K d := by cases d <;> simp [K]; omega
theorem Tm.pure {d : Nat} {t : D} (h : Tm d t) : t.pure = true := treeN_pure _ _ h.tree
theorem tag_tree {h : Nat} {tag : PySem.Str} {ps : List D} (hn : tag ∉ named) (hp : ∀ p ∈ ps, (∃ i, p = .int i) ∨ (∃ s, p = .str s) ∨ TreeN h p ∨ ∃ ts, p = .tup ts ∧ ∀ t ∈ ts, TreeN h t) : TreeN (h + 1) (.tup (.str tag :: ps)) := ⟨tag, ps, rfl, fun m => absurd m hn, hp⟩
theorem nm_tree {h : Nat} {tag nm : PySem.Str} {ps : List D} (hn : nm ∈ abc) (hp : ∀ p ∈ ps, (∃ i, p = .int i) ∨ (∃ s, p = .str s) ∨ TreeN h p ∨ ∃ ts, p = .tup ts ∧ ∀ t ∈ ts, TreeN h t) : TreeN (h + 1) (.tup (.str tag :: .str nm :: ps)) := ⟨tag, .str nm :: ps, rfl, fun _ => ⟨nm, ps, rfl, hn⟩, fun p m => by
  rcases List.mem_cons.mp m with rfl | m
  · exact .inr (.inl ⟨_, rfl⟩)
  · exact hp p m⟩
theorem leaf_tm {t : D} (h : isLeaf t) (d : Nat) : Tm d t := by
  have kd := K_ge d
  rcases h with ⟨nm, hn, rfl⟩ | ⟨a, b, rfl⟩ | ⟨a, b, rfl⟩
  · exact ⟨nm_tree hn (by simp), by simp [nodes, nodess]; omega⟩
  · exact ⟨tag_tree (by decide) (by simp), by simp [nodes, nodess]; omega⟩
  · exact ⟨tag_tree (by decide) (by simp), by simp [nodes, nodess]; omega⟩
/-! ### what is promised of terms and rows at depth d -/
def CT (d : Nat) : Prop := ∀ (n : Nat) (rs : List Rw) (s : So) (S : Sto) (i : Nat) (xs : List Int), 2 * d + 4 ≤ n → WOk rs → s.ok → Cl S → S[i]? = some (.lst (xs.map .int)) →
  ∃ t xs', Tm d t ∧ F n 14 [.tup (rs.map Rw.d), s.d, .ref i, .int d] S = some (.ok t (S.set i (.lst ((xs' : List Int).map .int))))
def CR (d : Nat) : Prop := ∀ (n : Nat) (rs : List Rw) (nm : PySem.Str) (a b : Kd) (S : Sto) (i : Nat) (xs : List Int), 2 * d + 3 ≤ n → WOk rs → (Rw.row nm a b).ok → Cl S → S[i]? = some (.lst (xs.map .int)) →
  ∃ t xs', Tm d t ∧ F n 11 [.tup (rs.map Rw.d), (Rw.row nm a b).d, .ref i, .int d] S = some (.ok t (S.set i (.lst ((xs' : List Int).map .int))))
theorem set_args {W A : D} {S : Sto} {i : Nat} {x : D} (hW : W.pure = true) (hA : A.pure = true) (hx : x.pure = true) : settles [W, A, .ref i, x] S = ([W, A, .ref i, x], S) := by
  simp [settles, settle_pure _ _ hW, settle_pure _ _ hA, settle_pure _ _ hx, settle]
theorem world_pure (rs : List Rw) : (D.tup (rs.map Rw.d)).pure = true := by unfold D.pure; exact rws_pure rs
theorem c_row (d : Nat) (ih : ∀ e, d = e + 1 → CT e ∧ CR e) : CR d := by
  intro n rs nm a b S i xs hn hr hrow hc hS
  obtain ⟨m, rfl⟩ : ∃ m, n = m + 1 := ⟨n - 1, by omega⟩
  rw [F, call_eq (np := 4) (ns := 7) (body := b__law_row) rfl rfl, set_args (world_pure rs) (rw_pure _) rfl]
  obtain ⟨x, xs1, e1⟩ := pops (g := ⟨callN fns (fun _ _ => false) m, fun _ _ => false⟩) (ρ := [some (.tup (rs.map Rw.d)), some (Rw.row nm a b).d, some (.ref i), some (.int d), none, none, none]) (a := 4) (v := 2) (i := i) (S := S) (xs := xs) rfl (by decide) hS
  have hS1 : (S.set i (.lst (xs1.map .int)))[i]? = some (.lst (xs1.map .int)) := get_set hS
  have hc1 : Cl (S.set i (.lst (xs1.map .int))) := hc.ints xs1
  have short : (d = 0 ∨ x.fmod 2 = 0) → ∃ t xs', Tm d t ∧ finish S.length (execB ⟨callN fns (fun _ _ => false) m, fun _ _ => false⟩ b__law_row (startE 7 [.tup (rs.map Rw.d), (Rw.row nm a b).d, .ref i, .int d]) S) = some (.ok t (S.set i (.lst ((xs' : List Int).map .int)))) := fun hh => by
    refine ⟨.tup [.str "row", .str nm], xs1, ⟨treeN_le (Nat.le_add_left 1 d) (nm_tree hrow.1 (by simp)), by have := K_ge d; simp [nodes, nodess]; omega⟩, ?_⟩
    refine (fin_go (d := .tup [.str "row", .str nm]) (S1 := S.set i (.lst (xs1.map .int))) ((e1 _).trans (goR ?_))).trans (leave_set0 hc (ints_under xs1) rfl)
    by_cases h0 : d = 0
    · subst h0
      simp [Ev.startE, Ev.execB, Ev.x_set, Ev.x_expr, Ev.x_ret, Ev.x_ife, Ev.x_setI, Ev.x_par, Ev.setNames, Ev.evalE, Ev.evalEs, Ev.evalIfs, Ev.finish, Ev.settle, Ev.settles, Ev.guard_none, Ev.get_app, Ev.get_app0, Ev.set_app, Ev.set_app0, Ev.mutOf_r, Ev.listOf_r, Ev.dictOf_r, Ev.idx_r, Ev.idx_l, Ev.idx_f, Ev.idx_tup, Ev.mth_append, Ev.mth_pop, Ev.rcv_append, Ev.rcv_pop, Ev.rcv_extend, Ev.atI_0, Ev.atI_1, Ev.atI_2, Ev.atI_3, Ev.atI_4, Ev.add_rl, Ev.add_lr, Ev.add_ll, Rw.d]
    · have h1 : ¬ ((d : Int) < 1) := by omega
      have h2 : x.fmod 2 = 0 := hh.resolve_left h0
      simp [Ev.startE, Ev.execB, Ev.x_set, Ev.x_expr, Ev.x_ret, Ev.x_ife, Ev.x_setI, Ev.x_par, Ev.setNames, Ev.evalE, Ev.evalEs, Ev.evalIfs, Ev.finish, Ev.settle, Ev.settles, Ev.guard_none, Ev.get_app, Ev.get_app0, Ev.set_app, Ev.set_app0, Ev.mutOf_r, Ev.listOf_r, Ev.dictOf_r, Ev.idx_r, Ev.idx_l, Ev.idx_f, Ev.idx_tup, Ev.mth_append, Ev.mth_pop, Ev.rcv_append, Ev.rcv_pop, Ev.rcv_extend, Ev.atI_0, Ev.atI_1, Ev.atI_2, Ev.atI_3, Ev.atI_4, Ev.add_rl, Ev.add_lr, Ev.add_ll, Rw.d, h1, bin_mod, h2]
  by_cases hh : d = 0 ∨ x.fmod 2 = 0
  · exact short hh
  · obtain ⟨e, rfl⟩ : ∃ e, d = e + 1 := ⟨d - 1, by omega⟩
    have hx : ¬ x.fmod 2 = 0 := fun h => hh (.inr h)
    obtain ⟨ht, hrw⟩ := ih e rfl
    have h1 : ¬ (((e + 1 : Nat) : Int) < 1) := by omega
    have hd : ((e + 1 : Nat) : Int) - 1 = (e : Int) := by omega
    obtain ⟨s2, s2o, s2e⟩ := num_so hrow.2.1
    obtain ⟨s3, s3o, s3e⟩ := num_so hrow.2.2
    obtain ⟨t1, xs2, tm1, f1⟩ := hrw m rs nm a b _ i xs1 (by omega) hr hrow hc1 hS1
    rw [List.set_set] at f1
    obtain ⟨t2, xs3, tm2, f2⟩ := ht m rs s2 _ i xs2 (by omega) hr s2o (hc.ints xs2) (get_set hS)
    rw [List.set_set] at f2
    obtain ⟨t3, xs4, tm3, f3⟩ := ht m rs s3 _ i xs3 (by omega) hr s3o (hc.ints xs3) (get_set hS)
    rw [List.set_set] at f3
    obtain ⟨k, rfl⟩ : ∃ k, m = k + 1 := ⟨m - 1, by omega⟩
    have q1 : ∀ S, settle t1 S = (t1, S) := fun S => settle_pure t1 S tm1.pure
    have q2 : ∀ S, settle t2 S = (t2, S) := fun S => settle_pure t2 S tm2.pure
    have c2 := c_sort (n := k) (S := S.set i (.lst (xs2.map .int))) a (hc.ints xs2)
    have c3 := c_sort (n := k) (S := S.set i (.lst (xs3.map .int))) b (hc.ints xs3)
    rw [s2e] at c2; rw [s3e] at c3
    have hp : (D.tup [.str "write", t1, t2, t3]).pure = true := by simp [D.pure, pures, tm1.pure, tm2.pure, tm3.pure]
    refine ⟨.tup [.str "write", t1, t2, t3], xs4, ⟨tag_tree (by decide) (fun p mp => ?_), ?_⟩, ?_⟩
    · simp only [List.mem_cons, List.not_mem_nil, or_false] at mp
      rcases mp with rfl | rfl | rfl
      · exact .inr (.inr (.inl tm1.tree))
      · exact .inr (.inr (.inl tm2.tree))
      · exact .inr (.inr (.inl tm3.tree))
    · have := tm1.size; have := tm2.size; have := tm3.size
      simp [nodes, nodess, K]; omega
    · refine (fin_go (d := .tup [.str "write", t1, t2, t3]) (S1 := S.set i (.lst (xs4.map .int))) ((e1 _).trans ?_)).trans (leave_set0 hc (ints_under xs4) hp)
      simp only [F] at f1 f2 f3 c2 c3
      have hRd : (Rw.row nm a b).d = .tup [.str "row", .str nm, a.d, b.d] := rfl
      rw [hRd] at f1 ⊢
      simp only [Ev.startE, Ev.execB, Ev.x_set, Ev.x_expr, Ev.x_ret, Ev.x_ife, Ev.x_setI, Ev.x_par, Ev.setNames, Ev.evalE, Ev.evalEs, Ev.evalIfs, Ev.finish, Ev.settle, Ev.settles, Ev.guard_none, Ev.get_app, Ev.get_app0, Ev.set_app, Ev.set_app0, Ev.mutOf_r, Ev.listOf_r, Ev.dictOf_r, Ev.idx_r, Ev.idx_l, Ev.idx_f, Ev.idx_tup, Ev.mth_append, Ev.mth_pop, Ev.rcv_append, Ev.rcv_pop, Ev.rcv_extend, Ev.atI_0, Ev.atI_1, Ev.atI_2, Ev.atI_3, Ev.atI_4, Ev.add_rl, Ev.add_lr, Ev.add_ll, List.set_cons_succ, List.set_cons_zero, List.getElem?_cons_succ, List.getElem?_cons_zero, bnd_ok, cmp_lt, Option.map_some, h1, decide_false, truth_bl, bin_mod (show (2 : Int) ≠ 0 by decide), cmp_eq, eq_int, hx, tests_ok, if_false, seqS_nx, bin_sub, hd, f1, bndS_ok, q1, c2, f2, q2, c3, f3, seqS_ret, Bool.false_eq_true]
end Pg
end
section
set_option Elab.async false
set_option linter.all false
set_option maxRecDepth 100000
namespace Pg
open Ev
theorem set_args5 {W A : D} {S : Sto} {i : Nat} {x y : D} (hW : W.pure = true) (hA : A.pure = true) (hx : x.pure = true) (hy : y.pure = true) : settles [W, A, .ref i, x, y] S = ([W, A, .ref i, x, y], S) := by
  simp [settles, settle_pure _ _ hW, settle_pure _ _ hA, settle_pure _ _ hx, settle_pure _ _ hy, settle]
theorem set_same {S : Sto} {i : Nat} {o : D} (h : S[i]? = some o) : S.set i o = S := by
  obtain ⟨hl, e⟩ := List.getElem?_eq_some_iff.mp h
  rw [← e]
  exact List.set_getElem_self hl
def pRow (s : So) : Rw → Bool
  | .row _ _ b => b.sort.eqv s.d
  | _ => false
def pFun (s : So) : Rw → Bool
  | .fun_ _ _ b => b.sort.eqv s.d
  | _ => false
/-- what is promised of the told ones at depth d + 1 -/
def CTo (f d : Nat) : Prop := ∀ (n : Nat) (rs : List Rw) (s : So) (S : Sto) (i : Nat) (xs : List Int) (x : Int), 2 * d + 5 ≤ n → WOk rs → s.ok → Cl S → S[i]? = some (.lst (xs.map .int)) →
  ∃ t xs', Tm (d + 1) t ∧ F n f [.tup (rs.map Rw.d), s.d, .ref i, .int (d + 1 : Nat), .int x] S = some (.ok t (S.set i (.lst ((xs' : List Int).map .int))))
theorem c_toldRow (d : Nat) (ht : CT d) (hrw : CR d) : CTo 12 d := by
  intro n rs s S i xs x hn hr hs hc hS
  obtain ⟨m, rfl⟩ : ∃ m, n = m + 2 := ⟨n - 2, by omega⟩
  rw [F, call_eq (np := 5) (ns := 8) (body := b__law_told_row) rfl rfl, set_args5 (world_pure rs) (so_pure s) rfl rfl]
  have hcomp : evalE ⟨callN fns (fun _ _ => false) (m + 1), fun _ _ => false⟩ (.comp (.nm 6) .val [(.var 0)] [(.and (.cmp .eq (.idx (.var 6) (.cst (.int 0))) (.cst (.str "row"))) (.cmp .eq (.call 8 [(.idx (.var 6) (.cst (.int 3)))]) (.var 1)))] (.var 6)) [some (.tup (rs.map Rw.d)), some s.d, some (.ref i), some (.int (d + 1 : Nat)), some (.int x), none, none, none] S = some (.ok (.lst ((rs.filter (pRow s)).map Rw.d)) S) := by
    refine comp_f (f := Rw.d) (p := pRow s) (v := Rw.d) (dv := .tup (rs.map Rw.d)) (by simp [Ev.startE, Ev.execB, Ev.x_set, Ev.x_expr, Ev.x_ret, Ev.x_ife, Ev.x_setI, Ev.x_par, Ev.setNames, Ev.evalE, Ev.evalEs, Ev.evalIfs, Ev.finish, Ev.settle, Ev.settles, Ev.guard_none, Ev.get_app, Ev.get_app0, Ev.set_app, Ev.set_app0, Ev.mutOf_r, Ev.listOf_r, Ev.dictOf_r, Ev.idx_r, Ev.idx_l, Ev.idx_f, Ev.idx_tup, Ev.mth_append, Ev.mth_pop, Ev.rcv_append, Ev.rcv_pop, Ev.rcv_extend, Ev.atI_0, Ev.atI_1, Ev.atI_2, Ev.atI_3, Ev.atI_4, Ev.add_rl, Ev.add_lr, Ev.add_ll]) rfl (fun r _ => rw_pure r) (fun r _ => ?_) (fun r _ _ => by simp [Ev.startE, Ev.execB, Ev.x_set, Ev.x_expr, Ev.x_ret, Ev.x_ife, Ev.x_setI, Ev.x_par, Ev.setNames, Ev.evalE, Ev.evalEs, Ev.evalIfs, Ev.finish, Ev.settle, Ev.settles, Ev.guard_none, Ev.get_app, Ev.get_app0, Ev.set_app, Ev.set_app0, Ev.mutOf_r, Ev.listOf_r, Ev.dictOf_r, Ev.idx_r, Ev.idx_l, Ev.idx_f, Ev.idx_tup, Ev.mth_append, Ev.mth_pop, Ev.rcv_append, Ev.rcv_pop, Ev.rcv_extend, Ev.atI_0, Ev.atI_1, Ev.atI_2, Ev.atI_3, Ev.atI_4, Ev.add_rl, Ev.add_lr, Ev.add_ll])
    refine ifs_1 (d := .bl (pRow s r)) ?_ rfl
    cases r with
    | row nm a b => simp [Ev.startE, Ev.execB, Ev.x_set, Ev.x_expr, Ev.x_ret, Ev.x_ife, Ev.x_setI, Ev.x_par, Ev.setNames, Ev.evalE, Ev.evalEs, Ev.evalIfs, Ev.finish, Ev.settle, Ev.settles, Ev.guard_none, Ev.get_app, Ev.get_app0, Ev.set_app, Ev.set_app0, Ev.mutOf_r, Ev.listOf_r, Ev.dictOf_r, Ev.idx_r, Ev.idx_l, Ev.idx_f, Ev.idx_tup, Ev.mth_append, Ev.mth_pop, Ev.rcv_append, Ev.rcv_pop, Ev.rcv_extend, Ev.atI_0, Ev.atI_1, Ev.atI_2, Ev.atI_3, Ev.atI_4, Ev.add_rl, Ev.add_lr, Ev.add_ll, Rw.d, c_sort b hc, eq_sort, pRow]
    | fun_ nm ks k =>
      have h1 : ("function" : PySem.Str) ≠ "row" := by decide
      simp [Ev.startE, Ev.execB, Ev.x_set, Ev.x_expr, Ev.x_ret, Ev.x_ife, Ev.x_setI, Ev.x_par, Ev.setNames, Ev.evalE, Ev.evalEs, Ev.evalIfs, Ev.finish, Ev.settle, Ev.settles, Ev.guard_none, Ev.get_app, Ev.get_app0, Ev.set_app, Ev.set_app0, Ev.mutOf_r, Ev.listOf_r, Ev.dictOf_r, Ev.idx_r, Ev.idx_l, Ev.idx_f, Ev.idx_tup, Ev.mth_append, Ev.mth_pop, Ev.rcv_append, Ev.rcv_pop, Ev.rcv_extend, Ev.atI_0, Ev.atI_1, Ev.atI_2, Ev.atI_3, Ev.atI_4, Ev.add_rl, Ev.add_lr, Ev.add_ll, Rw.d, h1, pRow]
    | unk nm k =>
      have h1 : ("unknown" : PySem.Str) ≠ "row" := by decide
      simp [Ev.startE, Ev.execB, Ev.x_set, Ev.x_expr, Ev.x_ret, Ev.x_ife, Ev.x_setI, Ev.x_par, Ev.setNames, Ev.evalE, Ev.evalEs, Ev.evalIfs, Ev.finish, Ev.settle, Ev.settles, Ev.guard_none, Ev.get_app, Ev.get_app0, Ev.set_app, Ev.set_app0, Ev.mutOf_r, Ev.listOf_r, Ev.dictOf_r, Ev.idx_r, Ev.idx_l, Ev.idx_f, Ev.idx_tup, Ev.mth_append, Ev.mth_pop, Ev.rcv_append, Ev.rcv_pop, Ev.rcv_extend, Ev.atI_0, Ev.atI_1, Ev.atI_2, Ev.atI_3, Ev.atI_4, Ev.add_rl, Ev.add_lr, Ev.add_ll, Rw.d, h1, pRow]
  generalize hL : rs.filter (pRow s) = L at hcomp
  have pL := rws_pure L
  have hcL : Cl (S ++ [.lst (L.map Rw.d)]) := hc.lst pL
  have hget : (S ++ [D.lst (L.map Rw.d)])[S.length]? = some (.lst (L.map Rw.d)) := by simp
  have hne := eq_nil hget pL
  have st1 : execS ⟨callN fns (fun _ _ => false) (m + 1), fun _ _ => false⟩ (.set 5 (.comp (.nm 6) .val [(.var 0)] [(.and (.cmp .eq (.idx (.var 6) (.cst (.int 0))) (.cst (.str "row"))) (.cmp .eq (.call 8 [(.idx (.var 6) (.cst (.int 3)))]) (.var 1)))] (.var 6))) [some (.tup (rs.map Rw.d)), some s.d, some (.ref i), some (.int (d + 1 : Nat)), some (.int x), none, none, none] S =
      some (.nx [some (.tup (rs.map Rw.d)), some s.d, some (.ref i), some (.int (d + 1 : Nat)), some (.int x), some (.ref S.length), none, none], S ++ [.lst (L.map Rw.d)]) := by
    rw [x_set, hcomp, bndS_ok]
    simp [Ev.startE, Ev.execB, Ev.x_set, Ev.x_expr, Ev.x_ret, Ev.x_ife, Ev.x_setI, Ev.x_par, Ev.setNames, Ev.evalE, Ev.evalEs, Ev.evalIfs, Ev.finish, Ev.settle, Ev.settles, Ev.guard_none, Ev.get_app, Ev.get_app0, Ev.set_app, Ev.set_app0, Ev.mutOf_r, Ev.listOf_r, Ev.dictOf_r, Ev.idx_r, Ev.idx_l, Ev.idx_f, Ev.idx_tup, Ev.mth_append, Ev.mth_pop, Ev.rcv_append, Ev.rcv_pop, Ev.rcv_extend, Ev.atI_0, Ev.atI_1, Ev.atI_2, Ev.atI_3, Ev.atI_4, Ev.add_rl, Ev.add_lr, Ev.add_ll, settles_pure _ _ pL]
  by_cases hE : L = []
  · obtain ⟨t, lf, fe⟩ := c_leaf (n := m - 1) (S := S ++ [.lst (L.map Rw.d)]) (x := x) hcL hr hs
    rw [show m - 1 + 2 = m + 1 by omega] at fe
    have hEm : (L.map Rw.d).isEmpty = true := by simp [hE]
    refine ⟨t, xs, leaf_tm lf _, ?_⟩
    rw [set_same hS]
    refine (fin_go (d := t) (S1 := S ++ [.lst (L.map Rw.d)]) (go st1 (goR ?_))).trans (leave_pure hc (leaf_tm lf 0).pure)
    simp only [F] at fe
    simp only [Ev.startE, Ev.execB, Ev.x_set, Ev.x_expr, Ev.x_ret, Ev.x_ife, Ev.x_setI, Ev.x_par, Ev.setNames, Ev.evalE, Ev.evalEs, Ev.evalIfs, Ev.finish, Ev.settle, Ev.settles, Ev.guard_none, Ev.get_app, Ev.get_app0, Ev.set_app, Ev.set_app0, Ev.mutOf_r, Ev.listOf_r, Ev.dictOf_r, Ev.idx_r, Ev.idx_l, Ev.idx_f, Ev.idx_tup, Ev.mth_append, Ev.mth_pop, Ev.rcv_append, Ev.rcv_pop, Ev.rcv_extend, Ev.atI_0, Ev.atI_1, Ev.atI_2, Ev.atI_3, Ev.atI_4, Ev.add_rl, Ev.add_lr, Ev.add_ll, List.getElem?_cons_succ, List.getElem?_cons_zero, bnd_ok, cmp_eq, hne, hEm, Option.map_some, tests_ok, truth_bl, if_true, fe, bndS_ok, seqS_ret]
  · have hEm : (L.map Rw.d).isEmpty = false := by simpa using hE
    have hlen : (0 : Int) < (L.map Rw.d).length := by
      rw [List.length_map]
      have := List.length_pos_iff.mpr hE
      omega
    have bb := fmod_bd (i := x) hlen
    obtain ⟨dd, hd, hm⟩ := atI_ok (xs := L.map Rw.d) bb.1 bb.2
    obtain ⟨r, hr1, rfl⟩ := List.mem_map.mp hm
    rw [← hL] at hr1
    obtain ⟨hr2, hr3⟩ := List.mem_filter.mp hr1
    have hlen' : ((L.map Rw.d).length : Int) ≠ 0 := by omega
    cases r with
    | unk nm k => cases hr3
    | fun_ nm ks k => cases hr3
    | row nm a b =>
      have hrow := hr _ hr2
      obtain ⟨s2, s2o, s2e⟩ := num_so hrow.2.1
      have hS1 : (S ++ [D.lst (L.map Rw.d)])[i]? = some (.lst (xs.map .int)) := get_base hS
      obtain ⟨t1, xs2, tm1, f1⟩ := hrw (m + 1) rs nm a b _ i xs (by omega) hr hrow hcL hS1
      obtain ⟨t2, xs3, tm2, f2⟩ := ht (m + 1) rs s2 _ i xs2 (by omega) hr s2o (hcL.ints xs2) (get_set hS1)
      rw [List.set_set] at f2
      have c2 := c_sort (n := m) (S := (S ++ [D.lst (L.map Rw.d)]).set i (.lst (xs2.map .int))) a (hcL.ints xs2)
      rw [s2e] at c2
      have q1 : ∀ S, settle t1 S = (t1, S) := fun S => settle_pure t1 S tm1.pure
      have qr : ∀ S, settle (Rw.row nm a b).d S = ((Rw.row nm a b).d, S) := fun S => settle_pure _ S (rw_pure _)
      have hp : (D.tup [.str "read", t1, t2]).pure = true := by simp [D.pure, pures, tm1.pure, tm2.pure]
      have hdd : ((d + 1 : Nat) : Int) - 1 = (d : Int) := by omega
      refine ⟨.tup [.str "read", t1, t2], xs3, ⟨tag_tree (by decide) (fun p mp => ?_), ?_⟩, ?_⟩
      · simp only [List.mem_cons, List.not_mem_nil, or_false] at mp
        rcases mp with rfl | rfl
        · exact .inr (.inr (.inl tm1.tree))
        · exact .inr (.inr (.inl tm2.tree))
      · have := tm1.size; have := tm2.size
        simp [nodes, nodess, K]; omega
      · refine (fin_go (d := .tup [.str "read", t1, t2]) (S1 := S.set i (.lst (xs3.map .int)) ++ [.lst (L.map Rw.d)]) (go st1 ?_)).trans (leave_set hc (ints_under xs3) hp)
        rw [← set_base hS]
        simp only [F] at f1 f2 c2
        have ix2 : ∀ S : Sto, idxE S (Rw.row nm a b).d (.int 2) = some a.d := fun S => rfl
        have hlb : bltE (S ++ [D.lst (L.map Rw.d)]) .len [.ref S.length] = some (.int (L.map Rw.d).length) := len_seq (by rw [seqOf_ref, listOf_r, hget])
        simp only [Ev.startE, Ev.execB, Ev.x_set, Ev.x_expr, Ev.x_ret, Ev.x_ife, Ev.x_setI, Ev.x_par, Ev.setNames, Ev.evalE, Ev.evalEs, Ev.evalIfs, Ev.finish, Ev.settle, Ev.settles, Ev.guard_none, Ev.get_app, Ev.get_app0, Ev.set_app, Ev.set_app0, Ev.mutOf_r, Ev.listOf_r, Ev.dictOf_r, Ev.idx_r, Ev.idx_l, Ev.idx_f, Ev.idx_tup, Ev.mth_append, Ev.mth_pop, Ev.rcv_append, Ev.rcv_pop, Ev.rcv_extend, Ev.atI_0, Ev.atI_1, Ev.atI_2, Ev.atI_3, Ev.atI_4, Ev.add_rl, Ev.add_lr, Ev.add_ll, List.set_cons_succ, List.set_cons_zero, List.getElem?_cons_succ, List.getElem?_cons_zero, bnd_ok, cmp_eq, hne, hEm, Option.map_some, tests_ok, truth_bl, if_false, Bool.false_eq_true, seqS_nx, hlb, bin_mod hlen', hd, bndS_ok, qr, bin_sub, hdd, f1, q1, ix2, c2, f2, seqS_ret]
theorem nodess_le {b : Nat} : ∀ vs : List D, (∀ v ∈ vs, nodes v ≤ b) → nodess vs ≤ vs.length * b
  | [], _ => by simp [nodess]
  | v :: vs, h => by
    have h1 := h v List.mem_cons_self
    have h2 := nodess_le vs fun x m => h x (List.mem_cons_of_mem _ m)
    rw [nodess, List.length_cons, Nat.succ_mul]
    omega
theorem ev_tup3 {g : G} {ρ : Env} {S S1 S2 S3 : Sto} {a b c : PE} {x y z : D} (h1 : evalE g a ρ S = some (.ok x S1)) (h2 : evalE g b ρ S1 = some (.ok y S2)) (h3 : evalE g c ρ S2 = some (.ok z S3)) : evalE g (.tup [a, b, c]) ρ S = some (.ok (.tup [x, y, z]) S3) := by
  simp [Ev.startE, Ev.execB, Ev.x_set, Ev.x_expr, Ev.x_ret, Ev.x_ife, Ev.x_setI, Ev.x_par, Ev.setNames, Ev.evalE, Ev.evalEs, Ev.evalIfs, Ev.finish, Ev.settle, Ev.settles, Ev.guard_none, Ev.get_app, Ev.get_app0, Ev.set_app, Ev.set_app0, Ev.mutOf_r, Ev.listOf_r, Ev.dictOf_r, Ev.idx_r, Ev.idx_l, Ev.idx_f, Ev.idx_tup, Ev.mth_append, Ev.mth_pop, Ev.rcv_append, Ev.rcv_pop, Ev.rcv_extend, Ev.atI_0, Ev.atI_1, Ev.atI_2, Ev.atI_3, Ev.atI_4, Ev.add_rl, Ev.add_lr, Ev.add_ll, h1, h2, h3]
theorem ev_tup2 {g : G} {ρ : Env} {S S1 S2 : Sto} {a b : PE} {x y : D} (h1 : evalE g a ρ S = some (.ok x S1)) (h2 : evalE g b ρ S1 = some (.ok y S2)) : evalE g (.tup [a, b]) ρ S = some (.ok (.tup [x, y]) S2) := by
  simp [Ev.startE, Ev.execB, Ev.x_set, Ev.x_expr, Ev.x_ret, Ev.x_ife, Ev.x_setI, Ev.x_par, Ev.setNames, Ev.evalE, Ev.evalEs, Ev.evalIfs, Ev.finish, Ev.settle, Ev.settles, Ev.guard_none, Ev.get_app, Ev.get_app0, Ev.set_app, Ev.set_app0, Ev.mutOf_r, Ev.listOf_r, Ev.dictOf_r, Ev.idx_r, Ev.idx_l, Ev.idx_f, Ev.idx_tup, Ev.mth_append, Ev.mth_pop, Ev.rcv_append, Ev.rcv_pop, Ev.rcv_extend, Ev.atI_0, Ev.atI_1, Ev.atI_2, Ev.atI_3, Ev.atI_4, Ev.add_rl, Ev.add_lr, Ev.add_ll, h1, h2]
theorem ev_tuple {g : G} {ρ : Env} {S S1 : Sto} {a : PE} {x : D} {vs : List D} (h1 : evalE g a ρ S = some (.ok x S1)) (hs : Ev.seqOf S1 x = some vs) : evalE g (.blt .tuple [a]) ρ S = some (.ok (.tup vs) S1) := by
  simp [Ev.startE, Ev.execB, Ev.x_set, Ev.x_expr, Ev.x_ret, Ev.x_ife, Ev.x_setI, Ev.x_par, Ev.setNames, Ev.evalE, Ev.evalEs, Ev.evalIfs, Ev.finish, Ev.settle, Ev.settles, Ev.guard_none, Ev.get_app, Ev.get_app0, Ev.set_app, Ev.set_app0, Ev.mutOf_r, Ev.listOf_r, Ev.dictOf_r, Ev.idx_r, Ev.idx_l, Ev.idx_f, Ev.idx_tup, Ev.mth_append, Ev.mth_pop, Ev.rcv_append, Ev.rcv_pop, Ev.rcv_extend, Ev.atI_0, Ev.atI_1, Ev.atI_2, Ev.atI_3, Ev.atI_4, Ev.add_rl, Ev.add_lr, Ev.add_ll, h1, hs]
theorem c_toldFun (d : Nat) (ht : CT d) : CTo 13 d := by
  intro n rs s S i xs x hn hr hs hc hS
  obtain ⟨m, rfl⟩ : ∃ m, n = m + 2 := ⟨n - 2, by omega⟩
  rw [F, call_eq (np := 5) (ns := 8) (body := b__law_told_function) rfl rfl, set_args5 (world_pure rs) (so_pure s) rfl rfl]
  have hcomp : evalE ⟨callN fns (fun _ _ => false) (m + 1), fun _ _ => false⟩ (.comp (.nm 6) .val [(.var 0)] [(.and (.cmp .eq (.idx (.var 6) (.cst (.int 0))) (.cst (.str "function"))) (.cmp .eq (.call 8 [(.idx (.var 6) (.cst (.int 3)))]) (.var 1)))] (.var 6)) [some (.tup (rs.map Rw.d)), some s.d, some (.ref i), some (.int (d + 1 : Nat)), some (.int x), none, none, none] S = some (.ok (.lst ((rs.filter (pFun s)).map Rw.d)) S) := by
    refine comp_f (f := Rw.d) (p := pFun s) (v := Rw.d) (dv := .tup (rs.map Rw.d)) (by simp [Ev.startE, Ev.execB, Ev.x_set, Ev.x_expr, Ev.x_ret, Ev.x_ife, Ev.x_setI, Ev.x_par, Ev.setNames, Ev.evalE, Ev.evalEs, Ev.evalIfs, Ev.finish, Ev.settle, Ev.settles, Ev.guard_none, Ev.get_app, Ev.get_app0, Ev.set_app, Ev.set_app0, Ev.mutOf_r, Ev.listOf_r, Ev.dictOf_r, Ev.idx_r, Ev.idx_l, Ev.idx_f, Ev.idx_tup, Ev.mth_append, Ev.mth_pop, Ev.rcv_append, Ev.rcv_pop, Ev.rcv_extend, Ev.atI_0, Ev.atI_1, Ev.atI_2, Ev.atI_3, Ev.atI_4, Ev.add_rl, Ev.add_lr, Ev.add_ll]) rfl (fun r _ => rw_pure r) (fun r _ => ?_) (fun r _ _ => by simp [Ev.startE, Ev.execB, Ev.x_set, Ev.x_expr, Ev.x_ret, Ev.x_ife, Ev.x_setI, Ev.x_par, Ev.setNames, Ev.evalE, Ev.evalEs, Ev.evalIfs, Ev.finish, Ev.settle, Ev.settles, Ev.guard_none, Ev.get_app, Ev.get_app0, Ev.set_app, Ev.set_app0, Ev.mutOf_r, Ev.listOf_r, Ev.dictOf_r, Ev.idx_r, Ev.idx_l, Ev.idx_f, Ev.idx_tup, Ev.mth_append, Ev.mth_pop, Ev.rcv_append, Ev.rcv_pop, Ev.rcv_extend, Ev.atI_0, Ev.atI_1, Ev.atI_2, Ev.atI_3, Ev.atI_4, Ev.add_rl, Ev.add_lr, Ev.add_ll])
    refine ifs_1 (d := .bl (pFun s r)) ?_ rfl
    cases r with
    | fun_ nm a b => simp [Ev.startE, Ev.execB, Ev.x_set, Ev.x_expr, Ev.x_ret, Ev.x_ife, Ev.x_setI, Ev.x_par, Ev.setNames, Ev.evalE, Ev.evalEs, Ev.evalIfs, Ev.finish, Ev.settle, Ev.settles, Ev.guard_none, Ev.get_app, Ev.get_app0, Ev.set_app, Ev.set_app0, Ev.mutOf_r, Ev.listOf_r, Ev.dictOf_r, Ev.idx_r, Ev.idx_l, Ev.idx_f, Ev.idx_tup, Ev.mth_append, Ev.mth_pop, Ev.rcv_append, Ev.rcv_pop, Ev.rcv_extend, Ev.atI_0, Ev.atI_1, Ev.atI_2, Ev.atI_3, Ev.atI_4, Ev.add_rl, Ev.add_lr, Ev.add_ll, Rw.d, c_sort b hc, eq_sort, pFun]
    | row nm ks k =>
      have h1 : ("row" : PySem.Str) ≠ "function" := by decide
      simp [Ev.startE, Ev.execB, Ev.x_set, Ev.x_expr, Ev.x_ret, Ev.x_ife, Ev.x_setI, Ev.x_par, Ev.setNames, Ev.evalE, Ev.evalEs, Ev.evalIfs, Ev.finish, Ev.settle, Ev.settles, Ev.guard_none, Ev.get_app, Ev.get_app0, Ev.set_app, Ev.set_app0, Ev.mutOf_r, Ev.listOf_r, Ev.dictOf_r, Ev.idx_r, Ev.idx_l, Ev.idx_f, Ev.idx_tup, Ev.mth_append, Ev.mth_pop, Ev.rcv_append, Ev.rcv_pop, Ev.rcv_extend, Ev.atI_0, Ev.atI_1, Ev.atI_2, Ev.atI_3, Ev.atI_4, Ev.add_rl, Ev.add_lr, Ev.add_ll, Rw.d, h1, pFun]
    | unk nm k =>
      have h1 : ("unknown" : PySem.Str) ≠ "function" := by decide
      simp [Ev.startE, Ev.execB, Ev.x_set, Ev.x_expr, Ev.x_ret, Ev.x_ife, Ev.x_setI, Ev.x_par, Ev.setNames, Ev.evalE, Ev.evalEs, Ev.evalIfs, Ev.finish, Ev.settle, Ev.settles, Ev.guard_none, Ev.get_app, Ev.get_app0, Ev.set_app, Ev.set_app0, Ev.mutOf_r, Ev.listOf_r, Ev.dictOf_r, Ev.idx_r, Ev.idx_l, Ev.idx_f, Ev.idx_tup, Ev.mth_append, Ev.mth_pop, Ev.rcv_append, Ev.rcv_pop, Ev.rcv_extend, Ev.atI_0, Ev.atI_1, Ev.atI_2, Ev.atI_3, Ev.atI_4, Ev.add_rl, Ev.add_lr, Ev.add_ll, Rw.d, h1, pFun]
  generalize hL : rs.filter (pFun s) = L at hcomp
  have pL := rws_pure L
  have hcL : Cl (S ++ [.lst (L.map Rw.d)]) := hc.lst pL
  have hget : (S ++ [D.lst (L.map Rw.d)])[S.length]? = some (.lst (L.map Rw.d)) := by simp
  have hne := eq_nil hget pL
  have st1 : execS ⟨callN fns (fun _ _ => false) (m + 1), fun _ _ => false⟩ (.set 5 (.comp (.nm 6) .val [(.var 0)] [(.and (.cmp .eq (.idx (.var 6) (.cst (.int 0))) (.cst (.str "function"))) (.cmp .eq (.call 8 [(.idx (.var 6) (.cst (.int 3)))]) (.var 1)))] (.var 6))) [some (.tup (rs.map Rw.d)), some s.d, some (.ref i), some (.int (d + 1 : Nat)), some (.int x), none, none, none] S =
      some (.nx [some (.tup (rs.map Rw.d)), some s.d, some (.ref i), some (.int (d + 1 : Nat)), some (.int x), some (.ref S.length), none, none], S ++ [.lst (L.map Rw.d)]) := by
    rw [x_set, hcomp, bndS_ok]
    simp [Ev.startE, Ev.execB, Ev.x_set, Ev.x_expr, Ev.x_ret, Ev.x_ife, Ev.x_setI, Ev.x_par, Ev.setNames, Ev.evalE, Ev.evalEs, Ev.evalIfs, Ev.finish, Ev.settle, Ev.settles, Ev.guard_none, Ev.get_app, Ev.get_app0, Ev.set_app, Ev.set_app0, Ev.mutOf_r, Ev.listOf_r, Ev.dictOf_r, Ev.idx_r, Ev.idx_l, Ev.idx_f, Ev.idx_tup, Ev.mth_append, Ev.mth_pop, Ev.rcv_append, Ev.rcv_pop, Ev.rcv_extend, Ev.atI_0, Ev.atI_1, Ev.atI_2, Ev.atI_3, Ev.atI_4, Ev.add_rl, Ev.add_lr, Ev.add_ll, settles_pure _ _ pL]
  by_cases hE : L = []
  · obtain ⟨t, lf, fe⟩ := c_leaf (n := m - 1) (S := S ++ [.lst (L.map Rw.d)]) (x := x) hcL hr hs
    rw [show m - 1 + 2 = m + 1 by omega] at fe
    have hEm : (L.map Rw.d).isEmpty = true := by simp [hE]
    refine ⟨t, xs, leaf_tm lf _, ?_⟩
    rw [set_same hS]
    refine (fin_go (d := t) (S1 := S ++ [.lst (L.map Rw.d)]) (go st1 (goR ?_))).trans (leave_pure hc (leaf_tm lf 0).pure)
    simp only [F] at fe
    simp only [Ev.startE, Ev.execB, Ev.x_set, Ev.x_expr, Ev.x_ret, Ev.x_ife, Ev.x_setI, Ev.x_par, Ev.setNames, Ev.evalE, Ev.evalEs, Ev.evalIfs, Ev.finish, Ev.settle, Ev.settles, Ev.guard_none, Ev.get_app, Ev.get_app0, Ev.set_app, Ev.set_app0, Ev.mutOf_r, Ev.listOf_r, Ev.dictOf_r, Ev.idx_r, Ev.idx_l, Ev.idx_f, Ev.idx_tup, Ev.mth_append, Ev.mth_pop, Ev.rcv_append, Ev.rcv_pop, Ev.rcv_extend, Ev.atI_0, Ev.atI_1, Ev.atI_2, Ev.atI_3, Ev.atI_4, Ev.add_rl, Ev.add_lr, Ev.add_ll, List.getElem?_cons_succ, List.getElem?_cons_zero, bnd_ok, cmp_eq, hne, hEm, Option.map_some, tests_ok, truth_bl, if_true, fe, bndS_ok, seqS_ret]
  · have hEm : (L.map Rw.d).isEmpty = false := by simpa using hE
    have hlen : (0 : Int) < (L.map Rw.d).length := by
      rw [List.length_map]
      have := List.length_pos_iff.mpr hE
      omega
    have bb := fmod_bd (i := x) hlen
    obtain ⟨dd, hd, hm⟩ := atI_ok (xs := L.map Rw.d) bb.1 bb.2
    obtain ⟨r, hr1, rfl⟩ := List.mem_map.mp hm
    rw [← hL] at hr1
    obtain ⟨hr2, hr3⟩ := List.mem_filter.mp hr1
    have hlen' : ((L.map Rw.d).length : Int) ≠ 0 := by omega
    cases r with
    | unk nm k => cases hr3
    | row nm a b => cases hr3
    | fun_ nm ks k =>
      obtain ⟨hnm, hks, hk, hk2⟩ := hr _ hr2
      have hS1 : (S ++ [D.lst (L.map Rw.d)])[i]? = some (.lst (xs.map .int)) := get_base hS
      have qr : ∀ S, settle (Rw.fun_ nm ks k).d S = ((Rw.fun_ nm ks k).d, S) := fun S => settle_pure _ S (rw_pure _)
      have hdd : ((d + 1 : Nat) : Int) - 1 = (d : Int) := by omega
      have ix1 : ∀ S : Sto, idxE S (Rw.fun_ nm ks k).d (.int 1) = some (.str nm) := fun S => rfl
      have ix2 : ∀ S : Sto, idxE S (Rw.fun_ nm ks k).d (.int 2) = some (.tup (ks.map Kd.d)) := fun S => rfl
      obtain ⟨vs, S', ec, ⟨xs', rfl⟩, hl, hv⟩ := comp_rel (g := ⟨callN fns (fun _ _ => false) (m + 1), fun _ _ => false⟩) (ρ := [some (.tup (rs.map Rw.d)), some s.d, some (.ref i), some (.int (d + 1 : Nat)), some (.int x), some (.ref S.length), some (Rw.fun_ nm ks k).d, none]) (S := S ++ [.lst (L.map Rw.d)]) (j := 7) (k := .val)
        (es := [(.idx (.var 6) (.cst (.int 2)))]) (elt := .call 14 [(.var 0), (.call 8 [(.var 7)]), (.var 2), (.bin .sub (.var 3) (.cst (.int 1)))]) (ds := [.tup (ks.map Kd.d)]) (its := ks.map Kd.d) (fun _ S' => ∃ xs' : List Int, S' = (S ++ [D.lst (L.map Rw.d)]).set i (.lst (xs'.map .int))) (fun v => Tm d v)
        (by simp only [Ev.startE, Ev.execB, Ev.x_set, Ev.x_expr, Ev.x_ret, Ev.x_ife, Ev.x_setI, Ev.x_par, Ev.setNames, Ev.evalE, Ev.evalEs, Ev.evalIfs, Ev.finish, Ev.settle, Ev.settles, Ev.guard_none, Ev.get_app, Ev.get_app0, Ev.set_app, Ev.set_app0, Ev.mutOf_r, Ev.listOf_r, Ev.dictOf_r, Ev.idx_r, Ev.idx_l, Ev.idx_f, Ev.idx_tup, Ev.mth_append, Ev.mth_pop, Ev.rcv_append, Ev.rcv_pop, Ev.rcv_extend, Ev.atI_0, Ev.atI_1, Ev.atI_2, Ev.atI_3, Ev.atI_4, Ev.add_rl, Ev.add_lr, Ev.add_ll, List.getElem?_cons_succ, List.getElem?_cons_zero, bnd_ok, ix2, Option.map_some]) rfl (kds_pure ks) ⟨xs, (set_same hS1).symm⟩ (by
          rintro k' dd S' hk' ⟨xs', rfl⟩
          rw [List.getElem?_map] at hk'
          obtain ⟨kd, hkd, rfl⟩ := Option.map_eq_some_iff.mp hk'
          obtain ⟨s2, s2o, s2e⟩ := num_so (hks kd (List.mem_of_getElem? hkd))
          have c2 := c_sort (n := m) (S := (S ++ [D.lst (L.map Rw.d)]).set i (.lst (xs'.map .int))) kd (hcL.ints xs')
          rw [s2e] at c2
          obtain ⟨t2, xs3, tm2, f2⟩ := ht (m + 1) rs s2 _ i xs' (by omega) hr s2o (hcL.ints xs') (get_set hS1)
          rw [List.set_set] at f2
          simp only [F] at f2 c2
          refine ⟨t2, _, ?_, ⟨xs3, rfl⟩, tm2⟩
          simp only [Ev.startE, Ev.execB, Ev.x_set, Ev.x_expr, Ev.x_ret, Ev.x_ife, Ev.x_setI, Ev.x_par, Ev.setNames, Ev.evalE, Ev.evalEs, Ev.evalIfs, Ev.finish, Ev.settle, Ev.settles, Ev.guard_none, Ev.get_app, Ev.get_app0, Ev.set_app, Ev.set_app0, Ev.mutOf_r, Ev.listOf_r, Ev.dictOf_r, Ev.idx_r, Ev.idx_l, Ev.idx_f, Ev.idx_tup, Ev.mth_append, Ev.mth_pop, Ev.rcv_append, Ev.rcv_pop, Ev.rcv_extend, Ev.atI_0, Ev.atI_1, Ev.atI_2, Ev.atI_3, Ev.atI_4, Ev.add_rl, Ev.add_lr, Ev.add_ll, List.set_cons_succ, List.set_cons_zero, List.getElem?_cons_succ, List.getElem?_cons_zero, bnd_ok, c2, bin_sub, hdd, Option.map_some, f2])
      rw [List.length_map] at hl
      have hpv : pures vs = true := by
        rw [pures_all, List.all_eq_true]
        exact fun v mv => (hv v mv).pure
      have hp : (D.tup [.str "apply", .str nm, .tup vs]).pure = true := by simp [D.pure, pures, hpv]
      refine ⟨.tup [.str "apply", .str nm, .tup vs], xs', ⟨nm_tree hnm (fun p mp => ?_), ?_⟩, ?_⟩
      · have : p = .tup vs := by simpa using mp
        subst this
        exact .inr (.inr (.inr ⟨vs, rfl, fun t mt => (hv t mt).tree⟩))
      · have := nodess_le (b := K d) vs fun v mv => (hv v mv).size
        have h3 : vs.length * K d ≤ 2 * K d := Nat.mul_le_mul_right _ (by omega)
        simp [nodes, nodess, K]; omega
      · refine (fin_go (d := .tup [.str "apply", .str nm, .tup vs]) (S1 := S.set i (.lst (xs'.map .int)) ++ [.lst (L.map Rw.d)]) (go st1 ?_)).trans (leave_set hc (ints_under xs') hp)
        rw [← set_base hS]
        have hlb : bltE (S ++ [D.lst (L.map Rw.d)]) .len [.ref S.length] = some (.int (L.map Rw.d).length) := len_seq (by rw [seqOf_ref, listOf_r, hget])
        refine go (ρ1 := [some (.tup (rs.map Rw.d)), some s.d, some (.ref i), some (.int (d + 1 : Nat)), some (.int x), some (.ref S.length), none, none]) (S1 := S ++ [.lst (L.map Rw.d)]) (by
          simp only [Ev.startE, Ev.execB, Ev.x_set, Ev.x_expr, Ev.x_ret, Ev.x_ife, Ev.x_setI, Ev.x_par, Ev.setNames, Ev.evalE, Ev.evalEs, Ev.evalIfs, Ev.finish, Ev.settle, Ev.settles, Ev.guard_none, Ev.get_app, Ev.get_app0, Ev.set_app, Ev.set_app0, Ev.mutOf_r, Ev.listOf_r, Ev.dictOf_r, Ev.idx_r, Ev.idx_l, Ev.idx_f, Ev.idx_tup, Ev.mth_append, Ev.mth_pop, Ev.rcv_append, Ev.rcv_pop, Ev.rcv_extend, Ev.atI_0, Ev.atI_1, Ev.atI_2, Ev.atI_3, Ev.atI_4, Ev.add_rl, Ev.add_lr, Ev.add_ll, List.getElem?_cons_succ, List.getElem?_cons_zero, bnd_ok, cmp_eq, hne, hEm, Option.map_some, tests_ok, truth_bl, if_false, Bool.false_eq_true]) ?_
        refine go (ρ1 := [some (.tup (rs.map Rw.d)), some s.d, some (.ref i), some (.int (d + 1 : Nat)), some (.int x), some (.ref S.length), some (Rw.fun_ nm ks k).d, none]) (S1 := S ++ [.lst (L.map Rw.d)]) (by
          simp only [Ev.startE, Ev.execB, Ev.x_set, Ev.x_expr, Ev.x_ret, Ev.x_ife, Ev.x_setI, Ev.x_par, Ev.setNames, Ev.evalE, Ev.evalEs, Ev.evalIfs, Ev.finish, Ev.settle, Ev.settles, Ev.guard_none, Ev.get_app, Ev.get_app0, Ev.set_app, Ev.set_app0, Ev.mutOf_r, Ev.listOf_r, Ev.dictOf_r, Ev.idx_r, Ev.idx_l, Ev.idx_f, Ev.idx_tup, Ev.mth_append, Ev.mth_pop, Ev.rcv_append, Ev.rcv_pop, Ev.rcv_extend, Ev.atI_0, Ev.atI_1, Ev.atI_2, Ev.atI_3, Ev.atI_4, Ev.add_rl, Ev.add_lr, Ev.add_ll, List.set_cons_succ, List.set_cons_zero, List.getElem?_cons_succ, List.getElem?_cons_zero, bnd_ok, Option.map_some, hlb, bin_mod hlen', hd, bndS_ok, qr]) ?_
        refine goR ?_
        rw [x_ret, ev_tup3 (a := .cst (.str "apply")) (x := .str "apply") (y := .str nm) (S1 := S ++ [.lst (L.map Rw.d)]) (S2 := S ++ [.lst (L.map Rw.d)]) (z := .tup vs) (by rw [evalE]) (by simp only [Ev.startE, Ev.execB, Ev.x_set, Ev.x_expr, Ev.x_ret, Ev.x_ife, Ev.x_setI, Ev.x_par, Ev.setNames, Ev.evalE, Ev.evalEs, Ev.evalIfs, Ev.finish, Ev.settle, Ev.settles, Ev.guard_none, Ev.get_app, Ev.get_app0, Ev.set_app, Ev.set_app0, Ev.mutOf_r, Ev.listOf_r, Ev.dictOf_r, Ev.idx_r, Ev.idx_l, Ev.idx_f, Ev.idx_tup, Ev.mth_append, Ev.mth_pop, Ev.rcv_append, Ev.rcv_pop, Ev.rcv_extend, Ev.atI_0, Ev.atI_1, Ev.atI_2, Ev.atI_3, Ev.atI_4, Ev.add_rl, Ev.add_lr, Ev.add_ll, List.getElem?_cons_succ, List.getElem?_cons_zero, bnd_ok, Option.map_some, ix1]) (ev_tuple ec rfl), bndS_ok]
end Pg
end
section
set_option Elab.async false
set_option linter.all false
set_option maxRecDepth 100000
namespace Pg
open Ev
theorem leaf_at {m : Nat} {S : Sto} {rs : List Rw} {s : So} {x : Int} (hm : 2 ≤ m) (hc : Cl S) (hr : WOk rs) (hs : s.ok) : ∃ t, isLeaf t ∧ callN fns (fun _ _ => false) m 10 [.tup (rs.map Rw.d), s.d, .int x] S = some (.ok t S) := by
  obtain ⟨k, rfl⟩ : ∃ k, m = k + 2 := ⟨m - 2, by omega⟩
  exact c_leaf hc hr hs
theorem eq_so {S : Sto} {s : So} : eqE S s.d (.str "number") = some (match s with | .num => true | .tab _ => false) := by
  cases s with
  | num => simp [So.d]
  | tab k => exact eq_ts rfl
theorem c_term (d : Nat) (ih : ∀ e, d = e + 1 → CT e ∧ CR e) : CT d := by
  intro n rs s S i xs hn hr hs hc hS
  obtain ⟨m, rfl⟩ : ∃ m, n = m + 1 := ⟨n - 1, by omega⟩
  rw [F, call_eq (np := 4) (ns := 7) (body := b__law_term) rfl rfl, set_args (world_pure rs) (so_pure s) rfl]
  have d8 : divOk 8 = true := by decide
  obtain ⟨x, xs1, e1⟩ := pops (g := ⟨callN fns (fun _ _ => false) m, fun _ _ => false⟩) (ρ := [some (.tup (rs.map Rw.d)), some s.d, some (.ref i), some (.int d), none, none, none]) (a := 4) (v := 2) (i := i) (S := S) (xs := xs) rfl (by decide) hS
  have hS1 : (S.set i (.lst (xs1.map .int)))[i]? = some (.lst (xs1.map .int)) := get_set hS
  have hc1 : Cl (S.set i (.lst (xs1.map .int))) := hc.ints xs1
  have bw := fmod_bd (i := x) (j := 8) (by omega)
  have e2 : ∀ ss, execB ⟨callN fns (fun _ _ => false) m, fun _ _ => false⟩ (.set 5 (.bin .mod (.var 4) (.cst (.int 8))) :: .set 4 (.bin .fdiv (.var 4) (.cst (.int 8))) :: ss) ([some (.tup (rs.map Rw.d)), some s.d, some (.ref i), some (.int d), some (.int x), none, none]) (S.set i (.lst (xs1.map .int))) =
      execB ⟨callN fns (fun _ _ => false) m, fun _ _ => false⟩ ss [some (.tup (rs.map Rw.d)), some s.d, some (.ref i), some (.int d), some (.int (x.fdiv 8)), some (.int (x.fmod 8)), none] (S.set i (.lst (xs1.map .int))) := fun ss => by
    refine go (ρ1 := [some (.tup (rs.map Rw.d)), some s.d, some (.ref i), some (.int d), some (.int x), some (.int (x.fmod 8)), none]) (S1 := S.set i (.lst (xs1.map .int))) (by simp [Ev.startE, Ev.execB, Ev.x_set, Ev.x_expr, Ev.x_ret, Ev.x_ife, Ev.x_setI, Ev.x_par, Ev.setNames, Ev.evalE, Ev.evalEs, Ev.evalIfs, Ev.finish, Ev.settle, Ev.settles, Ev.guard_none, Ev.get_app, Ev.get_app0, Ev.set_app, Ev.set_app0, Ev.mutOf_r, Ev.listOf_r, Ev.dictOf_r, Ev.idx_r, Ev.idx_l, Ev.idx_f, Ev.idx_tup, Ev.mth_append, Ev.mth_pop, Ev.rcv_append, Ev.rcv_pop, Ev.rcv_extend, Ev.atI_0, Ev.atI_1, Ev.atI_2, Ev.atI_3, Ev.atI_4, Ev.add_rl, Ev.add_lr, Ev.add_ll, bin_mod]) (go (ρ1 := [some (.tup (rs.map Rw.d)), some s.d, some (.ref i), some (.int d), some (.int (x.fdiv 8)), some (.int (x.fmod 8)), none]) (S1 := S.set i (.lst (xs1.map .int))) (by simp [Ev.startE, Ev.execB, Ev.x_set, Ev.x_expr, Ev.x_ret, Ev.x_ife, Ev.x_setI, Ev.x_par, Ev.setNames, Ev.evalE, Ev.evalEs, Ev.evalIfs, Ev.finish, Ev.settle, Ev.settles, Ev.guard_none, Ev.get_app, Ev.get_app0, Ev.set_app, Ev.set_app0, Ev.mutOf_r, Ev.listOf_r, Ev.dictOf_r, Ev.idx_r, Ev.idx_l, Ev.idx_f, Ev.idx_tup, Ev.mth_append, Ev.mth_pop, Ev.rcv_append, Ev.rcv_pop, Ev.rcv_extend, Ev.atI_0, Ev.atI_1, Ev.atI_2, Ev.atI_3, Ev.atI_4, Ev.add_rl, Ev.add_lr, Ev.add_ll, bin_fdiv d8]) rfl)
  generalize hw : x.fmod 8 = w at e2 bw
  generalize hy : x.fdiv 8 = y at e2
  by_cases hh : d = 0 ∨ 4 < w
  · obtain ⟨t, lf, fe⟩ := leaf_at (m := m) (x := y) (by omega) hc1 hr hs
    refine ⟨t, xs1, leaf_tm lf d, ?_⟩
    refine (fin_go (d := t) (S1 := S.set i (.lst (xs1.map .int))) ((e1 _).trans ((e2 _).trans (goR ?_)))).trans (leave_set0 hc (ints_under xs1) (leaf_tm lf 0).pure)
    by_cases h0 : d = 0
    · subst h0
      simp [Ev.startE, Ev.execB, Ev.x_set, Ev.x_expr, Ev.x_ret, Ev.x_ife, Ev.x_setI, Ev.x_par, Ev.setNames, Ev.evalE, Ev.evalEs, Ev.evalIfs, Ev.finish, Ev.settle, Ev.settles, Ev.guard_none, Ev.get_app, Ev.get_app0, Ev.set_app, Ev.set_app0, Ev.mutOf_r, Ev.listOf_r, Ev.dictOf_r, Ev.idx_r, Ev.idx_l, Ev.idx_f, Ev.idx_tup, Ev.mth_append, Ev.mth_pop, Ev.rcv_append, Ev.rcv_pop, Ev.rcv_extend, Ev.atI_0, Ev.atI_1, Ev.atI_2, Ev.atI_3, Ev.atI_4, Ev.add_rl, Ev.add_lr, Ev.add_ll, fe]
    · have h1 : ¬ ((d : Int) < 1) := by omega
      have h2 : 4 < w := hh.resolve_left h0
      simp [Ev.startE, Ev.execB, Ev.x_set, Ev.x_expr, Ev.x_ret, Ev.x_ife, Ev.x_setI, Ev.x_par, Ev.setNames, Ev.evalE, Ev.evalEs, Ev.evalIfs, Ev.finish, Ev.settle, Ev.settles, Ev.guard_none, Ev.get_app, Ev.get_app0, Ev.set_app, Ev.set_app0, Ev.mutOf_r, Ev.listOf_r, Ev.dictOf_r, Ev.idx_r, Ev.idx_l, Ev.idx_f, Ev.idx_tup, Ev.mth_append, Ev.mth_pop, Ev.rcv_append, Ev.rcv_pop, Ev.rcv_extend, Ev.atI_0, Ev.atI_1, Ev.atI_2, Ev.atI_3, Ev.atI_4, Ev.add_rl, Ev.add_lr, Ev.add_ll, h1, h2, fe]
  · obtain ⟨e, rfl⟩ : ∃ e, d = e + 1 := ⟨d - 1, by omega⟩
    obtain ⟨ht, hrw⟩ := ih e rfl
    have h1 : ¬ (((e + 1 : Nat) : Int) < 1) := by omega
    have h4 : ¬ 4 < w := fun h => hh (.inr h)
    have hdd : ((e + 1 : Nat) : Int) - 1 = (e : Int) := by omega
    have e3 : ∀ ss a, execB ⟨callN fns (fun _ _ => false) m, fun _ _ => false⟩ (.ife (.or (.cmp .lt (.var 3) (.cst (.int 1))) (.cmp .gt (.var 5) (.cst (.int 4)))) a [] :: ss) [some (.tup (rs.map Rw.d)), some s.d, some (.ref i), some (.int (e + 1 : Nat)), some (.int y), some (.int w), none] (S.set i (.lst (xs1.map .int))) =
        execB ⟨callN fns (fun _ _ => false) m, fun _ _ => false⟩ ss [some (.tup (rs.map Rw.d)), some s.d, some (.ref i), some (.int (e + 1 : Nat)), some (.int y), some (.int w), none] (S.set i (.lst (xs1.map .int))) := fun ss a => by
      refine go (ρ1 := _) (S1 := _) (show _ = some (Fl.nx [some (.tup (rs.map Rw.d)), some s.d, some (.ref i), some (.int (e + 1 : Nat)), some (.int y), some (.int w), none], S.set i (.lst (xs1.map .int))) from ?_) rfl
      simp only [Ev.startE, Ev.execB, Ev.x_set, Ev.x_expr, Ev.x_ret, Ev.x_ife, Ev.x_setI, Ev.x_par, Ev.setNames, Ev.evalE, Ev.evalEs, Ev.evalIfs, Ev.finish, Ev.settle, Ev.settles, Ev.guard_none, Ev.get_app, Ev.get_app0, Ev.set_app, Ev.set_app0, Ev.mutOf_r, Ev.listOf_r, Ev.dictOf_r, Ev.idx_r, Ev.idx_l, Ev.idx_f, Ev.idx_tup, Ev.mth_append, Ev.mth_pop, Ev.rcv_append, Ev.rcv_pop, Ev.rcv_extend, Ev.atI_0, Ev.atI_1, Ev.atI_2, Ev.atI_3, Ev.atI_4, Ev.add_rl, Ev.add_lr, Ev.add_ll, List.getElem?_cons_succ, List.getElem?_cons_zero, bnd_ok, cmp_lt, cmp_gt, h1, h4, decide_false, Option.map_some, truth_bl, tests_ok, if_false, Bool.false_eq_true]
    by_cases w0 : w = 0
    · obtain ⟨t, xs2, tm, f2⟩ := c_toldFun e ht m rs s _ i xs1 y (by omega) hr hs hc1 hS1
      rw [List.set_set] at f2
      refine ⟨t, xs2, tm, ?_⟩
      refine (fin_go (d := t) (S1 := S.set i (.lst (xs2.map .int))) ((e1 _).trans ((e2 _).trans ((e3 _ _).trans (goR ?_))))).trans (leave_set0 hc (ints_under xs2) tm.pure)
      simp only [F] at f2
      simp only [Ev.startE, Ev.execB, Ev.x_set, Ev.x_expr, Ev.x_ret, Ev.x_ife, Ev.x_setI, Ev.x_par, Ev.setNames, Ev.evalE, Ev.evalEs, Ev.evalIfs, Ev.finish, Ev.settle, Ev.settles, Ev.guard_none, Ev.get_app, Ev.get_app0, Ev.set_app, Ev.set_app0, Ev.mutOf_r, Ev.listOf_r, Ev.dictOf_r, Ev.idx_r, Ev.idx_l, Ev.idx_f, Ev.idx_tup, Ev.mth_append, Ev.mth_pop, Ev.rcv_append, Ev.rcv_pop, Ev.rcv_extend, Ev.atI_0, Ev.atI_1, Ev.atI_2, Ev.atI_3, Ev.atI_4, Ev.add_rl, Ev.add_lr, Ev.add_ll, List.getElem?_cons_succ, List.getElem?_cons_zero, bnd_ok, cmp_eq, eq_int, w0, decide_true, Option.map_some, truth_bl, tests_ok, if_true, f2, bndS_ok, seqS_ret]
    · have e4 : ∀ ss a, execB ⟨callN fns (fun _ _ => false) m, fun _ _ => false⟩ (.ife (.cmp .eq (.var 5) (.cst (.int 0))) a [] :: ss) [some (.tup (rs.map Rw.d)), some s.d, some (.ref i), some (.int (e + 1 : Nat)), some (.int y), some (.int w), none] (S.set i (.lst (xs1.map .int))) =
          execB ⟨callN fns (fun _ _ => false) m, fun _ _ => false⟩ ss [some (.tup (rs.map Rw.d)), some s.d, some (.ref i), some (.int (e + 1 : Nat)), some (.int y), some (.int w), none] (S.set i (.lst (xs1.map .int))) := fun ss a => by
        refine go (ρ1 := _) (S1 := _) (show _ = some (Fl.nx [some (.tup (rs.map Rw.d)), some s.d, some (.ref i), some (.int (e + 1 : Nat)), some (.int y), some (.int w), none], S.set i (.lst (xs1.map .int))) from ?_) rfl
        simp only [Ev.startE, Ev.execB, Ev.x_set, Ev.x_expr, Ev.x_ret, Ev.x_ife, Ev.x_setI, Ev.x_par, Ev.setNames, Ev.evalE, Ev.evalEs, Ev.evalIfs, Ev.finish, Ev.settle, Ev.settles, Ev.guard_none, Ev.get_app, Ev.get_app0, Ev.set_app, Ev.set_app0, Ev.mutOf_r, Ev.listOf_r, Ev.dictOf_r, Ev.idx_r, Ev.idx_l, Ev.idx_f, Ev.idx_tup, Ev.mth_append, Ev.mth_pop, Ev.rcv_append, Ev.rcv_pop, Ev.rcv_extend, Ev.atI_0, Ev.atI_1, Ev.atI_2, Ev.atI_3, Ev.atI_4, Ev.add_rl, Ev.add_lr, Ev.add_ll, List.getElem?_cons_succ, List.getElem?_cons_zero, bnd_ok, cmp_eq, eq_int, w0, decide_false, Option.map_some, truth_bl, tests_ok, if_false, Bool.false_eq_true]
      by_cases w1 : w = 1 ∨ s ≠ .num
      · obtain ⟨t, xs2, tm, f2⟩ := c_toldRow e ht hrw m rs s _ i xs1 y (by omega) hr hs hc1 hS1
        rw [List.set_set] at f2
        refine ⟨t, xs2, tm, ?_⟩
        refine (fin_go (d := t) (S1 := S.set i (.lst (xs2.map .int))) ((e1 _).trans ((e2 _).trans ((e3 _ _).trans ((e4 _ _).trans (goR ?_)))))).trans (leave_set0 hc (ints_under xs2) tm.pure)
        simp only [F] at f2
        by_cases w11 : w = 1
        · simp only [Ev.startE, Ev.execB, Ev.x_set, Ev.x_expr, Ev.x_ret, Ev.x_ife, Ev.x_setI, Ev.x_par, Ev.setNames, Ev.evalE, Ev.evalEs, Ev.evalIfs, Ev.finish, Ev.settle, Ev.settles, Ev.guard_none, Ev.get_app, Ev.get_app0, Ev.set_app, Ev.set_app0, Ev.mutOf_r, Ev.listOf_r, Ev.dictOf_r, Ev.idx_r, Ev.idx_l, Ev.idx_f, Ev.idx_tup, Ev.mth_append, Ev.mth_pop, Ev.rcv_append, Ev.rcv_pop, Ev.rcv_extend, Ev.atI_0, Ev.atI_1, Ev.atI_2, Ev.atI_3, Ev.atI_4, Ev.add_rl, Ev.add_lr, Ev.add_ll, List.getElem?_cons_succ, List.getElem?_cons_zero, bnd_ok, cmp_eq, eq_int, w11, decide_true, Option.map_some, truth_bl, tests_ok, if_true, f2, bndS_ok, seqS_ret]
        · have hsn := w1.resolve_left w11
          cases s with
          | num => exact absurd rfl hsn
          | tab k =>
            simp only [Ev.startE, Ev.execB, Ev.x_set, Ev.x_expr, Ev.x_ret, Ev.x_ife, Ev.x_setI, Ev.x_par, Ev.setNames, Ev.evalE, Ev.evalEs, Ev.evalIfs, Ev.finish, Ev.settle, Ev.settles, Ev.guard_none, Ev.get_app, Ev.get_app0, Ev.set_app, Ev.set_app0, Ev.mutOf_r, Ev.listOf_r, Ev.dictOf_r, Ev.idx_r, Ev.idx_l, Ev.idx_f, Ev.idx_tup, Ev.mth_append, Ev.mth_pop, Ev.rcv_append, Ev.rcv_pop, Ev.rcv_extend, Ev.atI_0, Ev.atI_1, Ev.atI_2, Ev.atI_3, Ev.atI_4, Ev.add_rl, Ev.add_lr, Ev.add_ll, List.getElem?_cons_succ, List.getElem?_cons_zero, bnd_ok, cmp_eq, cmp_ne, eq_int, eq_so, w11, decide_false, Bool.not_false, Option.map_some, truth_bl, tests_ok, if_true, f2, bndS_ok, seqS_ret]
      · have w11 : ¬ w = 1 := fun h => w1 (.inl h)
        have hsn : s = .num := Classical.byContradiction fun h => w1 (.inr h)
        subst hsn
        have e5 : ∀ ss a, execB ⟨callN fns (fun _ _ => false) m, fun _ _ => false⟩ (.ife (.or (.cmp .eq (.var 5) (.cst (.int 1))) (.cmp .ne (.var 1) (.cst (.str "number")))) a [] :: ss) [some (.tup (rs.map Rw.d)), some So.num.d, some (.ref i), some (.int (e + 1 : Nat)), some (.int y), some (.int w), none] (S.set i (.lst (xs1.map .int))) =
            execB ⟨callN fns (fun _ _ => false) m, fun _ _ => false⟩ ss [some (.tup (rs.map Rw.d)), some So.num.d, some (.ref i), some (.int (e + 1 : Nat)), some (.int y), some (.int w), none] (S.set i (.lst (xs1.map .int))) := fun ss a => by
          refine go (ρ1 := _) (S1 := _) (show _ = some (Fl.nx [some (.tup (rs.map Rw.d)), some So.num.d, some (.ref i), some (.int (e + 1 : Nat)), some (.int y), some (.int w), none], S.set i (.lst (xs1.map .int))) from ?_) rfl
          simp only [Ev.startE, Ev.execB, Ev.x_set, Ev.x_expr, Ev.x_ret, Ev.x_ife, Ev.x_setI, Ev.x_par, Ev.setNames, Ev.evalE, Ev.evalEs, Ev.evalIfs, Ev.finish, Ev.settle, Ev.settles, Ev.guard_none, Ev.get_app, Ev.get_app0, Ev.set_app, Ev.set_app0, Ev.mutOf_r, Ev.listOf_r, Ev.dictOf_r, Ev.idx_r, Ev.idx_l, Ev.idx_f, Ev.idx_tup, Ev.mth_append, Ev.mth_pop, Ev.rcv_append, Ev.rcv_pop, Ev.rcv_extend, Ev.atI_0, Ev.atI_1, Ev.atI_2, Ev.atI_3, Ev.atI_4, Ev.add_rl, Ev.add_lr, Ev.add_ll, List.getElem?_cons_succ, List.getElem?_cons_zero, bnd_ok, cmp_eq, cmp_ne, eq_int, eq_so, w11, decide_false, Bool.not_true, Option.map_some, truth_bl, tests_ok, if_false, Bool.false_eq_true]
        by_cases w4 : w = 4
        · obtain ⟨t, xs2, tm, f2⟩ := ht m rs .num _ i xs1 (by omega) hr hs hc1 hS1
          rw [List.set_set] at f2
          simp only [F] at f2
          have hp : (D.tup [.str "times", .int (y.fmod 41 - 20), t]).pure = true := by simp [D.pure, pures, tm.pure]
          refine ⟨.tup [.str "times", .int (y.fmod 41 - 20), t], xs2, ⟨tag_tree (by decide) (fun p mp => ?_), ?_⟩, ?_⟩
          · simp only [List.mem_cons, List.not_mem_nil, or_false] at mp
            rcases mp with rfl | rfl
            · exact .inl ⟨_, rfl⟩
            · exact .inr (.inr (.inl tm.tree))
          · have := tm.size
            simp [nodes, nodess, K]; omega
          · refine (fin_go (d := .tup [.str "times", .int (y.fmod 41 - 20), t]) (S1 := S.set i (.lst (xs2.map .int))) ((e1 _).trans ((e2 _).trans ((e3 _ _).trans ((e4 _ _).trans ((e5 _ _).trans (goR ?_))))))).trans (leave_set0 hc (ints_under xs2) hp)
            simp only [Ev.startE, Ev.execB, Ev.x_set, Ev.x_expr, Ev.x_ret, Ev.x_ife, Ev.x_setI, Ev.x_par, Ev.setNames, Ev.evalE, Ev.evalEs, Ev.evalIfs, Ev.finish, Ev.settle, Ev.settles, Ev.guard_none, Ev.get_app, Ev.get_app0, Ev.set_app, Ev.set_app0, Ev.mutOf_r, Ev.listOf_r, Ev.dictOf_r, Ev.idx_r, Ev.idx_l, Ev.idx_f, Ev.idx_tup, Ev.mth_append, Ev.mth_pop, Ev.rcv_append, Ev.rcv_pop, Ev.rcv_extend, Ev.atI_0, Ev.atI_1, Ev.atI_2, Ev.atI_3, Ev.atI_4, Ev.add_rl, Ev.add_lr, Ev.add_ll, List.getElem?_cons_succ, List.getElem?_cons_zero, bnd_ok, cmp_eq, eq_int, w4, decide_true, Option.map_some, truth_bl, tests_ok, if_true, bin_mod (show (41 : Int) ≠ 0 by decide), bin_sub, hdd, f2, bndS_ok, seqS_ret]
        · have e6 : ∀ ss a, execB ⟨callN fns (fun _ _ => false) m, fun _ _ => false⟩ (.ife (.cmp .eq (.var 5) (.cst (.int 4))) a [] :: ss) [some (.tup (rs.map Rw.d)), some So.num.d, some (.ref i), some (.int (e + 1 : Nat)), some (.int y), some (.int w), none] (S.set i (.lst (xs1.map .int))) =
              execB ⟨callN fns (fun _ _ => false) m, fun _ _ => false⟩ ss [some (.tup (rs.map Rw.d)), some So.num.d, some (.ref i), some (.int (e + 1 : Nat)), some (.int y), some (.int w), none] (S.set i (.lst (xs1.map .int))) := fun ss a => by
            refine go (ρ1 := _) (S1 := _) (show _ = some (Fl.nx [some (.tup (rs.map Rw.d)), some So.num.d, some (.ref i), some (.int (e + 1 : Nat)), some (.int y), some (.int w), none], S.set i (.lst (xs1.map .int))) from ?_) rfl
            simp only [Ev.startE, Ev.execB, Ev.x_set, Ev.x_expr, Ev.x_ret, Ev.x_ife, Ev.x_setI, Ev.x_par, Ev.setNames, Ev.evalE, Ev.evalEs, Ev.evalIfs, Ev.finish, Ev.settle, Ev.settles, Ev.guard_none, Ev.get_app, Ev.get_app0, Ev.set_app, Ev.set_app0, Ev.mutOf_r, Ev.listOf_r, Ev.dictOf_r, Ev.idx_r, Ev.idx_l, Ev.idx_f, Ev.idx_tup, Ev.mth_append, Ev.mth_pop, Ev.rcv_append, Ev.rcv_pop, Ev.rcv_extend, Ev.atI_0, Ev.atI_1, Ev.atI_2, Ev.atI_3, Ev.atI_4, Ev.add_rl, Ev.add_lr, Ev.add_ll, List.getElem?_cons_succ, List.getElem?_cons_zero, bnd_ok, cmp_eq, eq_int, w4, decide_false, Option.map_some, truth_bl, tests_ok, if_false, Bool.false_eq_true]
          have b3 := fmod_bd (i := y) (j := 3) (by omega)
          obtain ⟨vs, S', ec, ⟨xs', rfl⟩, hl, hv⟩ := comp_rel (g := ⟨callN fns (fun _ _ => false) m, fun _ _ => false⟩) (ρ := [some (.tup (rs.map Rw.d)), some So.num.d, some (.ref i), some (.int (e + 1 : Nat)), some (.int y), some (.int w), none]) (S := S.set i (.lst (xs1.map .int))) (j := 6) (k := .rng1)
            (es := [(.bin .add (.cst (.int 1)) (.bin .mod (.var 4) (.cst (.int 3))))]) (elt := .call 14 [(.var 0), (.var 1), (.var 2), (.bin .sub (.var 3) (.cst (.int 1)))]) (ds := [.int (1 + y.fmod 3)]) (its := (List.range (1 + y.fmod 3).toNat).map fun (k : Nat) => D.int k) (fun _ S' => ∃ xs' : List Int, S' = S.set i (.lst (xs'.map .int))) (fun v => Tm e v)
            (by simp only [Ev.startE, Ev.execB, Ev.x_set, Ev.x_expr, Ev.x_ret, Ev.x_ife, Ev.x_setI, Ev.x_par, Ev.setNames, Ev.evalE, Ev.evalEs, Ev.evalIfs, Ev.finish, Ev.settle, Ev.settles, Ev.guard_none, Ev.get_app, Ev.get_app0, Ev.set_app, Ev.set_app0, Ev.mutOf_r, Ev.listOf_r, Ev.dictOf_r, Ev.idx_r, Ev.idx_l, Ev.idx_f, Ev.idx_tup, Ev.mth_append, Ev.mth_pop, Ev.rcv_append, Ev.rcv_pop, Ev.rcv_extend, Ev.atI_0, Ev.atI_1, Ev.atI_2, Ev.atI_3, Ev.atI_4, Ev.add_rl, Ev.add_lr, Ev.add_ll, List.getElem?_cons_succ, List.getElem?_cons_zero, bnd_ok, bin_mod (show (3 : Int) ≠ 0 by decide), bin_add, Option.map_some]) (items_rng1 (by omega) (by omega)) (by
              rw [pures_all, List.all_eq_true]
              intro z hz
              obtain ⟨_, _, rfl⟩ := List.mem_map.mp hz
              rfl) ⟨xs1, rfl⟩ (by
              rintro k' dd S' hk' ⟨xs', rfl⟩
              obtain ⟨t2, xs3, tm2, f2⟩ := ht m rs .num _ i xs' (by omega) hr hs (hc.ints xs') (get_set hS)
              rw [List.set_set] at f2
              simp only [F] at f2
              refine ⟨t2, _, ?_, ⟨xs3, rfl⟩, tm2⟩
              simp only [Ev.startE, Ev.execB, Ev.x_set, Ev.x_expr, Ev.x_ret, Ev.x_ife, Ev.x_setI, Ev.x_par, Ev.setNames, Ev.evalE, Ev.evalEs, Ev.evalIfs, Ev.finish, Ev.settle, Ev.settles, Ev.guard_none, Ev.get_app, Ev.get_app0, Ev.set_app, Ev.set_app0, Ev.mutOf_r, Ev.listOf_r, Ev.dictOf_r, Ev.idx_r, Ev.idx_l, Ev.idx_f, Ev.idx_tup, Ev.mth_append, Ev.mth_pop, Ev.rcv_append, Ev.rcv_pop, Ev.rcv_extend, Ev.atI_0, Ev.atI_1, Ev.atI_2, Ev.atI_3, Ev.atI_4, Ev.add_rl, Ev.add_lr, Ev.add_ll, List.set_cons_succ, List.set_cons_zero, List.getElem?_cons_succ, List.getElem?_cons_zero, bnd_ok, bin_sub, hdd, Option.map_some, f2])
          rw [List.length_map, List.length_range] at hl
          have hpv : pures vs = true := by
            rw [pures_all, List.all_eq_true]
            exact fun v mv => (hv v mv).pure
          have hp : (D.tup [.str "plus", .tup vs]).pure = true := by simp [D.pure, pures, hpv]
          refine ⟨.tup [.str "plus", .tup vs], xs', ⟨tag_tree (by decide) (fun p mp => ?_), ?_⟩, ?_⟩
          · have : p = .tup vs := by simpa using mp
            subst this
            exact .inr (.inr (.inr ⟨vs, rfl, fun t mt => (hv t mt).tree⟩))
          · have := nodess_le (b := K e) vs fun v mv => (hv v mv).size
            have h3 : vs.length * K e ≤ 3 * K e := Nat.mul_le_mul_right _ (by omega)
            simp [nodes, nodess, K]; omega
          · refine (fin_go (d := .tup [.str "plus", .tup vs]) (S1 := S.set i (.lst (xs'.map .int))) ((e1 _).trans ((e2 _).trans ((e3 _ _).trans ((e4 _ _).trans ((e5 _ _).trans ((e6 _ _).trans (goR ?_)))))))).trans (leave_set0 hc (ints_under xs') hp)
            rw [x_ret, ev_tup2 (x := .str "plus") (y := .tup vs) (S1 := S.set i (.lst (xs1.map .int))) (by rw [evalE]) (ev_tuple ec rfl), bndS_ok]
theorem c_both : ∀ d, CT d ∧ CR d
  | 0 => ⟨c_term 0 (fun e h => by omega), c_row 0 (fun e h => by omega)⟩
  | d + 1 => ⟨c_term (d + 1) (fun e h => by cases h; exact c_both d), c_row (d + 1) (fun e h => by cases h; exact c_both d)⟩
end Pg
end
section
set_option Elab.async false
set_option linter.all false
set_option maxRecDepth 100000
namespace Pg
open Ev
theorem in_list {S : Sto} {a : D} {n : Nat} {ds : List D} (hn : S[n]? = some (.lst ds)) (ha : a.pure = true) (hd : a.depth ≤ 150) (hp : pures ds = true) : inE S a (.ref n) = some (ds.any fun z => z.eqv a) := by
  show (match Ev.seqOf S (.ref n) with | some ds => inL S a ds | none => _) = _
  rw [seqOf_ref, listOf_ref hn]
  show inL S a ds = _
  unfold inL resL
  rw [res_pure ha, if_pos hp]
  have : min (depths ds) a.depth ≤ 150 := by omega
  simp only [if_pos this]
def Rw.last : Rw → Kd
  | .unk _ k => k
  | .fun_ _ _ k => k
  | .row _ _ k => k
theorem last_ok {r : Rw} (h : r.ok) : r.last.ok := by
  cases r with
  | unk nm k => exact h.2
  | fun_ nm ks k => exact h.2.2.1.1
  | row nm a b => exact h.2.2.1
theorem ix_last {S : Sto} (r : Rw) : idxE S r.d (.int (-1)) = some r.last.d := by cases r <;> rfl
def Kd.tag : Kd → PySem.Str
  | .truth => "truth"
  | .range _ _ => "range"
  | .fraction => "fraction"
  | .table _ => "table"
theorem ix_tag {S : Sto} (k : Kd) : idxE S k.d (.int 0) = some (.str k.tag) := by cases k <;> rfl
theorem sos_pure : ∀ sl : List So, pures (sl.map So.d) = true
  | [] => rfl
  | s :: sl => by rw [List.map_cons]; unfold pures; rw [so_pure s, sos_pure sl]; rfl
theorem c_compared {d n i : Nat} {rs : List Rw} {S : Sto} {xs : List Int} {x : Int} (hn : 2 * d + 5 ≤ n) (hr : WOk rs) (hrl : rs.length ≤ 100) (hc : Cl S) (hS : S[i]? = some (.lst (xs.map .int))) :
    ∃ (t : D) (xs' : List Int), (TreeN (d + 2) t ∧ nodes t ≤ 2 + 2 * K d) ∧ F n 15 [.tup (rs.map Rw.d), .ref i, .int d, .int x] S = some (.ok t (S.set i (.lst (xs'.map .int)))) := by
  obtain ⟨m, rfl⟩ : ∃ m, n = m + 1 := ⟨n - 1, by omega⟩
  have d4 : divOk 4 = true := by decide
  have hset : settles [.tup (rs.map Rw.d), .ref i, .int d, .int x] S = ([.tup (rs.map Rw.d), .ref i, .int d, .int x], S) := by
    simp [settles, settles_pure _ _ (rws_pure rs), settle]
  rw [F, call_eq (np := 4) (ns := 8) (body := b__law_compared) rfl rfl, hset]
  obtain ⟨ρ1, S1, e1, sl, kv, hne, hso, hsl, rfl, rfl⟩ := for_val (g := ⟨callN fns (fun _ _ => false) m, fun _ _ => false⟩) (i := 5) (e := .var 0)
    (body := [.ife (.and (.cmp .eq (.idx (.idx (.var 5) (.neg (.cst (.int 1)))) (.cst (.int 0))) (.cst (.str "table"))) (.cmp .notin (.idx (.var 5) (.neg (.cst (.int 1)))) (.var 4))) [.expr (.mth .append (.var 4) [(.idx (.var 5) (.neg (.cst (.int 1))))])] []])
    (ρ := [some (.tup (rs.map Rw.d)), some (.ref i), some (.int d), some (.int x), some (.ref S.length), none, none, none]) (S := S ++ [.lst [.str "number"]]) (S1 := S ++ [.lst [.str "number"]]) (dv := .tup (rs.map Rw.d)) (its := rs.map Rw.d)
    (P := fun k ρ S' => ∃ (sl : List So) (kv : Option D), sl ≠ [] ∧ (∀ s ∈ sl, s.ok) ∧ sl.length ≤ k + 1 ∧ ρ = [some (.tup (rs.map Rw.d)), some (.ref i), some (.int d), some (.int x), some (.ref S.length), kv, none, none] ∧ S' = S ++ [.lst (sl.map So.d)])
    (by simp [Ev.startE, Ev.execB, Ev.x_set, Ev.x_expr, Ev.x_ret, Ev.x_ife, Ev.x_setI, Ev.x_par, Ev.setNames, Ev.evalE, Ev.evalEs, Ev.evalIfs, Ev.finish, Ev.settle, Ev.settles, Ev.guard_none, Ev.get_app, Ev.get_app0, Ev.set_app, Ev.set_app0, Ev.mutOf_r, Ev.listOf_r, Ev.dictOf_r, Ev.idx_r, Ev.idx_l, Ev.idx_f, Ev.idx_tup, Ev.mth_append, Ev.mth_pop, Ev.rcv_append, Ev.rcv_pop, Ev.rcv_extend, Ev.atI_0, Ev.atI_1, Ev.atI_2, Ev.atI_3, Ev.atI_4, Ev.add_rl, Ev.add_lr, Ev.add_ll]) rfl (rws_pure rs) ⟨[.num], none, by simp, by simp [So.ok], by simp, rfl, rfl⟩ (by
      rintro k dd ρ S' hk ⟨sl, kv, hne, hso, hsl, rfl, rfl⟩
      have hkl : k < rs.length := by
        have := (List.getElem?_eq_some_iff.mp hk).1
        rwa [List.length_map] at this
      rw [List.getElem?_map] at hk
      obtain ⟨r, hr0, rfl⟩ := Option.map_eq_some_iff.mp hk
      have hlast := last_ok (hr r (List.mem_of_getElem? hr0))
      have hget : (S ++ [D.lst (sl.map So.d)])[S.length]? = some (.lst (sl.map So.d)) := by simp
      have hin : inE (S ++ [D.lst (sl.map So.d)]) r.last.d (.ref S.length) = some ((sl.map So.d).any fun z => z.eqv r.last.d) := in_list hget (kd_pure _) (by cases r.last <;> simp [Kd.d, D.depth, depths]) (sos_pure sl)
      by_cases ht : r.last.tag = "table" ∧ ((sl.map So.d).any fun z => z.eqv r.last.d) = false
      · obtain ⟨ht1, ht2⟩ := ht
        obtain ⟨kk, hkk⟩ : ∃ kk, r.last = .table kk := by
          cases hl : r.last with
          | table kk => exact ⟨kk, rfl⟩
          | truth => rw [hl] at ht1; exact absurd ht1 (by decide)
          | range a b => rw [hl] at ht1; exact absurd (show ("range" : PySem.Str) = "table" from ht1) (by decide)
          | fraction => rw [hl] at ht1; exact absurd ht1 (by decide)
        rw [hkk] at hlast
        refine ⟨[some (.tup (rs.map Rw.d)), some (.ref i), some (.int d), some (.int x), some (.ref S.length), some r.d, none, none], S ++ [.lst ((sl ++ [So.tab kk]).map So.d)], ?_, sl ++ [So.tab kk], some r.d, by simp, ?_, by simp; omega, rfl, rfl⟩
        · have hl : (sl.map So.d).length < 16777216 := by rw [List.length_map]; omega
          have qk : ∀ S, settle r.last.d S = (r.last.d, S) := fun S => settle_pure _ S (kd_pure _)
          have hd2 : r.last.d = (So.tab kk).d := by rw [hkk]; rfl
          simp only [Ev.startE, Ev.execB, Ev.x_set, Ev.x_expr, Ev.x_ret, Ev.x_ife, Ev.x_setI, Ev.x_par, Ev.setNames, Ev.evalE, Ev.evalEs, Ev.evalIfs, Ev.finish, Ev.settle, Ev.settles, Ev.guard_none, Ev.get_app, Ev.get_app0, Ev.set_app, Ev.set_app0, Ev.mutOf_r, Ev.listOf_r, Ev.dictOf_r, Ev.idx_r, Ev.idx_l, Ev.idx_f, Ev.idx_tup, Ev.mth_append, Ev.mth_pop, Ev.rcv_append, Ev.rcv_pop, Ev.rcv_extend, Ev.atI_0, Ev.atI_1, Ev.atI_2, Ev.atI_3, Ev.atI_4, Ev.add_rl, Ev.add_lr, Ev.add_ll, List.set_cons_succ, List.set_cons_zero, List.getElem?_cons_succ, List.getElem?_cons_zero, bnd_ok, Option.map_some, ix_last, ix_tag, cmp_eq, eq_str, ht1, decide_true, truth_bl, cmp_nin, hin, ht2, Bool.not_false, tests_ok, if_true, hget, Option.isSome_some, if_pos hl, qk, bndS_ok, seqS_nx]
          rw [hd2]
          simp
        · intro s hs
          rcases List.mem_append.mp hs with hs | hs
          · exact hso s hs
          · have : s = .tab kk := by simpa using hs
            subst this; exact hlast
      · refine ⟨[some (.tup (rs.map Rw.d)), some (.ref i), some (.int d), some (.int x), some (.ref S.length), some r.d, none, none], S ++ [.lst (sl.map So.d)], ?_, sl, some r.d, hne, hso, by omega, rfl, rfl⟩
        by_cases ht1 : r.last.tag = "table"
        · have ht2 : ((sl.map So.d).any fun z => z.eqv r.last.d) = true := by
            cases h : (sl.map So.d).any fun z => z.eqv r.last.d with
            | true => rfl
            | false => exact absurd ⟨ht1, h⟩ ht
          simp only [Ev.startE, Ev.execB, Ev.x_set, Ev.x_expr, Ev.x_ret, Ev.x_ife, Ev.x_setI, Ev.x_par, Ev.setNames, Ev.evalE, Ev.evalEs, Ev.evalIfs, Ev.finish, Ev.settle, Ev.settles, Ev.guard_none, Ev.get_app, Ev.get_app0, Ev.set_app, Ev.set_app0, Ev.mutOf_r, Ev.listOf_r, Ev.dictOf_r, Ev.idx_r, Ev.idx_l, Ev.idx_f, Ev.idx_tup, Ev.mth_append, Ev.mth_pop, Ev.rcv_append, Ev.rcv_pop, Ev.rcv_extend, Ev.atI_0, Ev.atI_1, Ev.atI_2, Ev.atI_3, Ev.atI_4, Ev.add_rl, Ev.add_lr, Ev.add_ll, List.set_cons_succ, List.set_cons_zero, List.getElem?_cons_succ, List.getElem?_cons_zero, bnd_ok, Option.map_some, ix_last, ix_tag, cmp_eq, eq_str, ht1, decide_true, truth_bl, cmp_nin, hin, ht2, Bool.not_true, tests_ok, if_false, Bool.false_eq_true, seqS_nx]
        · simp only [Ev.startE, Ev.execB, Ev.x_set, Ev.x_expr, Ev.x_ret, Ev.x_ife, Ev.x_setI, Ev.x_par, Ev.setNames, Ev.evalE, Ev.evalEs, Ev.evalIfs, Ev.finish, Ev.settle, Ev.settles, Ev.guard_none, Ev.get_app, Ev.get_app0, Ev.set_app, Ev.set_app0, Ev.mutOf_r, Ev.listOf_r, Ev.dictOf_r, Ev.idx_r, Ev.idx_l, Ev.idx_f, Ev.idx_tup, Ev.mth_append, Ev.mth_pop, Ev.rcv_append, Ev.rcv_pop, Ev.rcv_extend, Ev.atI_0, Ev.atI_1, Ev.atI_2, Ev.atI_3, Ev.atI_4, Ev.add_rl, Ev.add_lr, Ev.add_ll, List.set_cons_succ, List.set_cons_zero, List.getElem?_cons_succ, List.getElem?_cons_zero, bnd_ok, Option.map_some, ix_last, ix_tag, cmp_eq, eq_str, ht1, decide_false, truth_bl, tests_ok, if_false, Bool.false_eq_true, seqS_nx])
  have hcL : Cl (S ++ [.lst (sl.map So.d)]) := hc.lst (sos_pure sl)
  have hget : (S ++ [D.lst (sl.map So.d)])[S.length]? = some (.lst (sl.map So.d)) := by simp
  have hlen : (0 : Int) < (sl.map So.d).length := by
    rw [List.length_map]
    have := List.length_pos_iff.mpr hne
    omega
  have bb := fmod_bd (i := x.fdiv 4) hlen
  obtain ⟨dd, hd, hm⟩ := atI_ok (xs := sl.map So.d) bb.1 bb.2
  obtain ⟨s0, hs0, rfl⟩ := List.mem_map.mp hm
  have hlen' : ((sl.map So.d).length : Int) ≠ 0 := by omega
  have b4 := fmod_bd (i := x) (j := 4) (by omega)
  have hlb : bltE (S ++ [D.lst (sl.map So.d)]) .len [.ref S.length] = some (.int (sl.map So.d).length) := len_seq (by rw [seqOf_ref, listOf_r, hget])
  have qs : ∀ (s : So) S, settle s.d S = (s.d, S) := fun s S => settle_pure _ S (so_pure s)
  obtain ⟨s1, hs1, e2⟩ : ∃ s1 : So, s1.ok ∧ ∀ ss, execB ⟨callN fns (fun _ _ => false) m, fun _ _ => false⟩ (.set 6 (.idx (.var 4) (.bin .mod (.bin .fdiv (.var 3) (.cst (.int 4))) (.blt .len [(.var 4)]))) :: .ife (.cmp .gt (.bin .mod (.var 3) (.cst (.int 4))) (.cst (.int 1))) [.set 6 (.cst (.str "number"))] [] :: ss)
      [some (.tup (rs.map Rw.d)), some (.ref i), some (.int d), some (.int x), some (.ref S.length), kv, none, none] (S ++ [.lst (sl.map So.d)]) = execB ⟨callN fns (fun _ _ => false) m, fun _ _ => false⟩ ss [some (.tup (rs.map Rw.d)), some (.ref i), some (.int d), some (.int x), some (.ref S.length), kv, some s1.d, none] (S ++ [.lst (sl.map So.d)]) := by
    by_cases h1 : 1 < x.fmod 4
    · refine ⟨.num, trivial, fun ss => go (ρ1 := [some (.tup (rs.map Rw.d)), some (.ref i), some (.int d), some (.int x), some (.ref S.length), kv, some s0.d, none]) (S1 := S ++ [.lst (sl.map So.d)]) ?_ (go (ρ1 := [some (.tup (rs.map Rw.d)), some (.ref i), some (.int d), some (.int x), some (.ref S.length), kv, some So.num.d, none]) (S1 := S ++ [.lst (sl.map So.d)]) ?_ rfl)⟩
      · simp only [Ev.startE, Ev.execB, Ev.x_set, Ev.x_expr, Ev.x_ret, Ev.x_ife, Ev.x_setI, Ev.x_par, Ev.setNames, Ev.evalE, Ev.evalEs, Ev.evalIfs, Ev.finish, Ev.settle, Ev.settles, Ev.guard_none, Ev.get_app, Ev.get_app0, Ev.set_app, Ev.set_app0, Ev.mutOf_r, Ev.listOf_r, Ev.dictOf_r, Ev.idx_r, Ev.idx_l, Ev.idx_f, Ev.idx_tup, Ev.mth_append, Ev.mth_pop, Ev.rcv_append, Ev.rcv_pop, Ev.rcv_extend, Ev.atI_0, Ev.atI_1, Ev.atI_2, Ev.atI_3, Ev.atI_4, Ev.add_rl, Ev.add_lr, Ev.add_ll, List.set_cons_succ, List.set_cons_zero, List.getElem?_cons_succ, List.getElem?_cons_zero, bnd_ok, Option.map_some, bin_fdiv d4, hlb, bin_mod hlen', hd, bndS_ok, qs]
      · simp only [Ev.startE, Ev.execB, Ev.x_set, Ev.x_expr, Ev.x_ret, Ev.x_ife, Ev.x_setI, Ev.x_par, Ev.setNames, Ev.evalE, Ev.evalEs, Ev.evalIfs, Ev.finish, Ev.settle, Ev.settles, Ev.guard_none, Ev.get_app, Ev.get_app0, Ev.set_app, Ev.set_app0, Ev.mutOf_r, Ev.listOf_r, Ev.dictOf_r, Ev.idx_r, Ev.idx_l, Ev.idx_f, Ev.idx_tup, Ev.mth_append, Ev.mth_pop, Ev.rcv_append, Ev.rcv_pop, Ev.rcv_extend, Ev.atI_0, Ev.atI_1, Ev.atI_2, Ev.atI_3, Ev.atI_4, Ev.add_rl, Ev.add_lr, Ev.add_ll, List.set_cons_succ, List.set_cons_zero, List.getElem?_cons_succ, List.getElem?_cons_zero, bnd_ok, Option.map_some, bin_mod (show (4 : Int) ≠ 0 by decide), cmp_gt, h1, decide_true, tests_ok, truth_bl, if_true, bndS_ok, seqS_nx, So.d]
    · refine ⟨s0, hso s0 hs0, fun ss => go (ρ1 := [some (.tup (rs.map Rw.d)), some (.ref i), some (.int d), some (.int x), some (.ref S.length), kv, some s0.d, none]) (S1 := S ++ [.lst (sl.map So.d)]) ?_ (go (ρ1 := [some (.tup (rs.map Rw.d)), some (.ref i), some (.int d), some (.int x), some (.ref S.length), kv, some s0.d, none]) (S1 := S ++ [.lst (sl.map So.d)]) ?_ rfl)⟩
      · simp only [Ev.startE, Ev.execB, Ev.x_set, Ev.x_expr, Ev.x_ret, Ev.x_ife, Ev.x_setI, Ev.x_par, Ev.setNames, Ev.evalE, Ev.evalEs, Ev.evalIfs, Ev.finish, Ev.settle, Ev.settles, Ev.guard_none, Ev.get_app, Ev.get_app0, Ev.set_app, Ev.set_app0, Ev.mutOf_r, Ev.listOf_r, Ev.dictOf_r, Ev.idx_r, Ev.idx_l, Ev.idx_f, Ev.idx_tup, Ev.mth_append, Ev.mth_pop, Ev.rcv_append, Ev.rcv_pop, Ev.rcv_extend, Ev.atI_0, Ev.atI_1, Ev.atI_2, Ev.atI_3, Ev.atI_4, Ev.add_rl, Ev.add_lr, Ev.add_ll, List.set_cons_succ, List.set_cons_zero, List.getElem?_cons_succ, List.getElem?_cons_zero, bnd_ok, Option.map_some, bin_fdiv d4, hlb, bin_mod hlen', hd, bndS_ok, qs]
      · simp only [Ev.startE, Ev.execB, Ev.x_set, Ev.x_expr, Ev.x_ret, Ev.x_ife, Ev.x_setI, Ev.x_par, Ev.setNames, Ev.evalE, Ev.evalEs, Ev.evalIfs, Ev.finish, Ev.settle, Ev.settles, Ev.guard_none, Ev.get_app, Ev.get_app0, Ev.set_app, Ev.set_app0, Ev.mutOf_r, Ev.listOf_r, Ev.dictOf_r, Ev.idx_r, Ev.idx_l, Ev.idx_f, Ev.idx_tup, Ev.mth_append, Ev.mth_pop, Ev.rcv_append, Ev.rcv_pop, Ev.rcv_extend, Ev.atI_0, Ev.atI_1, Ev.atI_2, Ev.atI_3, Ev.atI_4, Ev.add_rl, Ev.add_lr, Ev.add_ll, List.getElem?_cons_succ, List.getElem?_cons_zero, bnd_ok, Option.map_some, bin_mod (show (4 : Int) ≠ 0 by decide), cmp_gt, h1, decide_false, tests_ok, truth_bl, if_false, Bool.false_eq_true]
  have hS1 : (S ++ [D.lst (sl.map So.d)])[i]? = some (.lst (xs.map .int)) := get_base hS
  obtain ⟨ht, _⟩ := c_both d
  obtain ⟨t1, xs2, tm1, f1⟩ := ht m rs s1 _ i xs (by omega) hr hs1 hcL hS1
  obtain ⟨t2, xs3, tm2, f2⟩ := ht m rs s1 _ i xs2 (by omega) hr hs1 (hcL.ints xs2) (get_set hS1)
  rw [List.set_set] at f2
  simp only [F] at f1 f2
  obtain ⟨tag, htag, hnt⟩ : ∃ tag : PySem.Str, Ev.atI [D.str "equal", D.str "equal", D.str "most", D.str "less"] (x.fmod 4) = some (.str tag) ∧ tag ∉ named := by
    have h4 : x.fmod 4 = 0 ∨ x.fmod 4 = 1 ∨ x.fmod 4 = 2 ∨ x.fmod 4 = 3 := by omega
    rcases h4 with h | h | h | h <;> rw [h]
    · exact ⟨"equal", rfl, by decide⟩
    · exact ⟨"equal", rfl, by decide⟩
    · exact ⟨"most", rfl, by decide⟩
    · exact ⟨"less", rfl, by decide⟩
  have q1 : ∀ S, settle t1 S = (t1, S) := fun S => settle_pure t1 S tm1.pure
  have hp : (D.tup [.str tag, t1, t2]).pure = true := by simp [D.pure, pures, tm1.pure, tm2.pure]
  refine ⟨.tup [.str tag, t1, t2], xs3, ⟨tag_tree hnt (fun p mp => ?_), ?_⟩, ?_⟩
  · simp only [List.mem_cons, List.not_mem_nil, or_false] at mp
    rcases mp with rfl | rfl
    · exact .inr (.inr (.inl tm1.tree))
    · exact .inr (.inr (.inl tm2.tree))
  · have := tm1.size; have := tm2.size
    simp [nodes, nodess]; omega
  · have e0 : execS ⟨callN fns (fun _ _ => false) m, fun _ _ => false⟩ (.set 4 (.lst [(.cst (.str "number"))])) [some (.tup (rs.map Rw.d)), some (.ref i), some (.int d), some (.int x), none, none, none, none] S = some (.nx [some (.tup (rs.map Rw.d)), some (.ref i), some (.int d), some (.int x), some (.ref S.length), none, none, none], S ++ [.lst [.str "number"]]) := by simp [Ev.startE, Ev.execB, Ev.x_set, Ev.x_expr, Ev.x_ret, Ev.x_ife, Ev.x_setI, Ev.x_par, Ev.setNames, Ev.evalE, Ev.evalEs, Ev.evalIfs, Ev.finish, Ev.settle, Ev.settles, Ev.guard_none, Ev.get_app, Ev.get_app0, Ev.set_app, Ev.set_app0, Ev.mutOf_r, Ev.listOf_r, Ev.dictOf_r, Ev.idx_r, Ev.idx_l, Ev.idx_f, Ev.idx_tup, Ev.mth_append, Ev.mth_pop, Ev.rcv_append, Ev.rcv_pop, Ev.rcv_extend, Ev.atI_0, Ev.atI_1, Ev.atI_2, Ev.atI_3, Ev.atI_4, Ev.add_rl, Ev.add_lr, Ev.add_ll]
    refine (fin_go (d := .tup [.str tag, t1, t2]) (S1 := S.set i (.lst (xs3.map .int)) ++ [.lst (sl.map So.d)]) (go e0 (go e1 ((e2 _).trans ?_)))).trans (leave_set hc (ints_under xs3) hp)
    rw [← set_base hS]
    simp only [Ev.startE, Ev.execB, Ev.x_set, Ev.x_expr, Ev.x_ret, Ev.x_ife, Ev.x_setI, Ev.x_par, Ev.setNames, Ev.evalE, Ev.evalEs, Ev.evalIfs, Ev.finish, Ev.settle, Ev.settles, Ev.guard_none, Ev.get_app, Ev.get_app0, Ev.set_app, Ev.set_app0, Ev.mutOf_r, Ev.listOf_r, Ev.dictOf_r, Ev.idx_r, Ev.idx_l, Ev.idx_f, Ev.idx_tup, Ev.mth_append, Ev.mth_pop, Ev.rcv_append, Ev.rcv_pop, Ev.rcv_extend, Ev.atI_0, Ev.atI_1, Ev.atI_2, Ev.atI_3, Ev.atI_4, Ev.add_rl, Ev.add_lr, Ev.add_ll, List.set_cons_succ, List.set_cons_zero, List.getElem?_cons_succ, List.getElem?_cons_zero, bnd_ok, Option.map_some, bndS_ok, f1, q1, seqS_nx, bin_mod (show (4 : Int) ≠ 0 by decide), htag, f2, seqS_ret]
end Pg
end
section
set_option Elab.async false
set_option linter.all false
set_option maxRecDepth 100000
namespace Pg
open Ev
def KW : Nat → Nat
  | 0 => 200
  | d + 1 => 5 + 3 * KW d
theorem KW_ge (d : Nat) : 200 ≤ KW d := by induction d with | zero => simp [KW] | succ d ih => simp [KW]; omega
structure Wm (d : Nat) (t : D) : Prop where
  tree : TreeN (d + 4) t
  size : nodes t ≤ KW d
theorem Wm.pure {d : Nat} {t : D} (h : Wm d t) : t.pure = true := treeN_pure _ _ h.tree
def pT : Rw → Bool
  | .unk _ .truth => true
  | _ => false
def Rw.nm : Rw → PySem.Str
  | .unk nm _ => nm
  | .fun_ nm _ _ => nm
  | .row nm _ _ => nm
theorem nm_abc {r : Rw} (h : r.ok) : r.nm ∈ abc := by cases r <;> exact h.1
def CW (d : Nat) : Prop := ∀ (n deep : Nat) (rs : List Rw) (S : Sto) (i : Nat) (xs : List Int), d + 10 ≤ n → deep ≤ 2 → WOk rs → rs.length ≤ 100 → Cl S → S[i]? = some (.lst (xs.map .int)) →
  ∃ t xs', Wm d t ∧ F n 16 [.tup (rs.map Rw.d), .ref i, .int d, .int deep] S = some (.ok t (S.set i (.lst ((xs' : List Int).map .int))))
theorem KK (deep : Nat) (h : deep ≤ 2) : K deep ≤ 56 := by
  have : deep = 0 ∨ deep = 1 ∨ deep = 2 := by omega
  rcases this with rfl | rfl | rfl <;> simp [K]
theorem wish_rest {m d deep i : Nat} {rs : List Rw} {S : Sto} {xs : List Int} {x : Int} (ih : ∀ e, d = e + 1 → CW e) (hn : d + 9 ≤ m) (hdp : deep ≤ 2) (hr : WOk rs) (hrl : rs.length ≤ 100) (hc : Cl S) (hS : S[i]? = some (.lst (xs.map .int))) :
    ∃ (t : D) (xs' : List Int) (l : Sto), Wm d t ∧ execB ⟨callN fns (fun _ _ => false) m, fun _ _ => false⟩ (b__law_wish.drop 2) [some (.tup (rs.map Rw.d)), some (.ref i), some (.int d), some (.int deep), some (.int x), none, none, none, none, none, none] S = some (.ret t, S.set i (.lst (xs'.map .int)) ++ l) := by
  have d10 : divOk 10 = true := by decide
  unfold b__law_wish
  simp only [List.drop_succ_cons, List.drop_zero]
  have e2 : ∀ ss, execB ⟨callN fns (fun _ _ => false) m, fun _ _ => false⟩ (.set 5 (.bin .mod (.var 4) (.cst (.int 10))) :: .set 4 (.bin .fdiv (.var 4) (.cst (.int 10))) :: ss) [some (.tup (rs.map Rw.d)), some (.ref i), some (.int d), some (.int deep), some (.int x), none, none, none, none, none, none] S =
      execB ⟨callN fns (fun _ _ => false) m, fun _ _ => false⟩ ss [some (.tup (rs.map Rw.d)), some (.ref i), some (.int d), some (.int deep), some (.int (x.fdiv 10)), some (.int (x.fmod 10)), none, none, none, none, none] S := fun ss => by
    refine go (ρ1 := [some (.tup (rs.map Rw.d)), some (.ref i), some (.int d), some (.int deep), some (.int x), some (.int (x.fmod 10)), none, none, none, none, none]) (S1 := S) (by simp [Ev.startE, Ev.execB, Ev.x_set, Ev.x_expr, Ev.x_ret, Ev.x_ife, Ev.x_setI, Ev.x_par, Ev.setNames, Ev.evalE, Ev.evalEs, Ev.evalIfs, Ev.finish, Ev.settle, Ev.settles, Ev.guard_none, Ev.get_app, Ev.get_app0, Ev.set_app, Ev.set_app0, Ev.mutOf_r, Ev.listOf_r, Ev.dictOf_r, Ev.idx_r, Ev.idx_l, Ev.idx_f, Ev.idx_tup, Ev.mth_append, Ev.mth_pop, Ev.rcv_append, Ev.rcv_pop, Ev.rcv_extend, Ev.atI_0, Ev.atI_1, Ev.atI_2, Ev.atI_3, Ev.atI_4, Ev.add_rl, Ev.add_lr, Ev.add_ll, bin_mod]) (go (ρ1 := [some (.tup (rs.map Rw.d)), some (.ref i), some (.int d), some (.int deep), some (.int (x.fdiv 10)), some (.int (x.fmod 10)), none, none, none, none, none]) (S1 := S) (by simp [Ev.startE, Ev.execB, Ev.x_set, Ev.x_expr, Ev.x_ret, Ev.x_ife, Ev.x_setI, Ev.x_par, Ev.setNames, Ev.evalE, Ev.evalEs, Ev.evalIfs, Ev.finish, Ev.settle, Ev.settles, Ev.guard_none, Ev.get_app, Ev.get_app0, Ev.set_app, Ev.set_app0, Ev.mutOf_r, Ev.listOf_r, Ev.dictOf_r, Ev.idx_r, Ev.idx_l, Ev.idx_f, Ev.idx_tup, Ev.mth_append, Ev.mth_pop, Ev.rcv_append, Ev.rcv_pop, Ev.rcv_extend, Ev.atI_0, Ev.atI_1, Ev.atI_2, Ev.atI_3, Ev.atI_4, Ev.add_rl, Ev.add_lr, Ev.add_ll, bin_fdiv d10]) rfl)
  have bw := fmod_bd (i := x) (j := 10) (by omega)
  generalize hw : x.fmod 10 = w at e2 bw
  generalize hy : x.fdiv 10 = y at e2
  have hcomp : evalE ⟨callN fns (fun _ _ => false) m, fun _ _ => false⟩ (.comp (.nm 9) .val [(.var 0)] [(.and (.cmp .eq (.idx (.var 9) (.cst (.int 0))) (.cst (.str "unknown"))) (.cmp .eq (.idx (.idx (.var 9) (.cst (.int 2))) (.cst (.int 0))) (.cst (.str "truth"))))] (.idx (.var 9) (.cst (.int 1)))) [some (.tup (rs.map Rw.d)), some (.ref i), some (.int d), some (.int deep), some (.int y), some (.int w), none, none, none, none, none] S = some (.ok (.lst ((rs.filter pT).map fun r => D.str r.nm)) S) := by
    refine comp_f (f := Rw.d) (p := pT) (v := fun r => D.str r.nm) (dv := .tup (rs.map Rw.d)) (by simp [Ev.startE, Ev.execB, Ev.x_set, Ev.x_expr, Ev.x_ret, Ev.x_ife, Ev.x_setI, Ev.x_par, Ev.setNames, Ev.evalE, Ev.evalEs, Ev.evalIfs, Ev.finish, Ev.settle, Ev.settles, Ev.guard_none, Ev.get_app, Ev.get_app0, Ev.set_app, Ev.set_app0, Ev.mutOf_r, Ev.listOf_r, Ev.dictOf_r, Ev.idx_r, Ev.idx_l, Ev.idx_f, Ev.idx_tup, Ev.mth_append, Ev.mth_pop, Ev.rcv_append, Ev.rcv_pop, Ev.rcv_extend, Ev.atI_0, Ev.atI_1, Ev.atI_2, Ev.atI_3, Ev.atI_4, Ev.add_rl, Ev.add_lr, Ev.add_ll]) rfl (fun r _ => rw_pure r) (fun r _ => ?_) (fun r _ _ => by cases r <;> simp [Ev.startE, Ev.execB, Ev.x_set, Ev.x_expr, Ev.x_ret, Ev.x_ife, Ev.x_setI, Ev.x_par, Ev.setNames, Ev.evalE, Ev.evalEs, Ev.evalIfs, Ev.finish, Ev.settle, Ev.settles, Ev.guard_none, Ev.get_app, Ev.get_app0, Ev.set_app, Ev.set_app0, Ev.mutOf_r, Ev.listOf_r, Ev.dictOf_r, Ev.idx_r, Ev.idx_l, Ev.idx_f, Ev.idx_tup, Ev.mth_append, Ev.mth_pop, Ev.rcv_append, Ev.rcv_pop, Ev.rcv_extend, Ev.atI_0, Ev.atI_1, Ev.atI_2, Ev.atI_3, Ev.atI_4, Ev.add_rl, Ev.add_lr, Ev.add_ll, Rw.d, Rw.nm])
    refine ifs_1 (d := .bl (pT r)) ?_ rfl
    cases r with
    | unk nm k =>
      cases k with
      | truth => simp [Ev.startE, Ev.execB, Ev.x_set, Ev.x_expr, Ev.x_ret, Ev.x_ife, Ev.x_setI, Ev.x_par, Ev.setNames, Ev.evalE, Ev.evalEs, Ev.evalIfs, Ev.finish, Ev.settle, Ev.settles, Ev.guard_none, Ev.get_app, Ev.get_app0, Ev.set_app, Ev.set_app0, Ev.mutOf_r, Ev.listOf_r, Ev.dictOf_r, Ev.idx_r, Ev.idx_l, Ev.idx_f, Ev.idx_tup, Ev.mth_append, Ev.mth_pop, Ev.rcv_append, Ev.rcv_pop, Ev.rcv_extend, Ev.atI_0, Ev.atI_1, Ev.atI_2, Ev.atI_3, Ev.atI_4, Ev.add_rl, Ev.add_lr, Ev.add_ll, Rw.d, Kd.d, pT]
      | range a b =>
        have h1 : ("range" : PySem.Str) ≠ "truth" := by decide
        simp [Ev.startE, Ev.execB, Ev.x_set, Ev.x_expr, Ev.x_ret, Ev.x_ife, Ev.x_setI, Ev.x_par, Ev.setNames, Ev.evalE, Ev.evalEs, Ev.evalIfs, Ev.finish, Ev.settle, Ev.settles, Ev.guard_none, Ev.get_app, Ev.get_app0, Ev.set_app, Ev.set_app0, Ev.mutOf_r, Ev.listOf_r, Ev.dictOf_r, Ev.idx_r, Ev.idx_l, Ev.idx_f, Ev.idx_tup, Ev.mth_append, Ev.mth_pop, Ev.rcv_append, Ev.rcv_pop, Ev.rcv_extend, Ev.atI_0, Ev.atI_1, Ev.atI_2, Ev.atI_3, Ev.atI_4, Ev.add_rl, Ev.add_lr, Ev.add_ll, Rw.d, Kd.d, pT, h1]
      | fraction =>
        have h1 : ("fraction" : PySem.Str) ≠ "truth" := by decide
        simp [Ev.startE, Ev.execB, Ev.x_set, Ev.x_expr, Ev.x_ret, Ev.x_ife, Ev.x_setI, Ev.x_par, Ev.setNames, Ev.evalE, Ev.evalEs, Ev.evalIfs, Ev.finish, Ev.settle, Ev.settles, Ev.guard_none, Ev.get_app, Ev.get_app0, Ev.set_app, Ev.set_app0, Ev.mutOf_r, Ev.listOf_r, Ev.dictOf_r, Ev.idx_r, Ev.idx_l, Ev.idx_f, Ev.idx_tup, Ev.mth_append, Ev.mth_pop, Ev.rcv_append, Ev.rcv_pop, Ev.rcv_extend, Ev.atI_0, Ev.atI_1, Ev.atI_2, Ev.atI_3, Ev.atI_4, Ev.add_rl, Ev.add_lr, Ev.add_ll, Rw.d, Kd.d, pT, h1]
      | table k =>
        have h1 : ("table" : PySem.Str) ≠ "truth" := by decide
        simp [Ev.startE, Ev.execB, Ev.x_set, Ev.x_expr, Ev.x_ret, Ev.x_ife, Ev.x_setI, Ev.x_par, Ev.setNames, Ev.evalE, Ev.evalEs, Ev.evalIfs, Ev.finish, Ev.settle, Ev.settles, Ev.guard_none, Ev.get_app, Ev.get_app0, Ev.set_app, Ev.set_app0, Ev.mutOf_r, Ev.listOf_r, Ev.dictOf_r, Ev.idx_r, Ev.idx_l, Ev.idx_f, Ev.idx_tup, Ev.mth_append, Ev.mth_pop, Ev.rcv_append, Ev.rcv_pop, Ev.rcv_extend, Ev.atI_0, Ev.atI_1, Ev.atI_2, Ev.atI_3, Ev.atI_4, Ev.add_rl, Ev.add_lr, Ev.add_ll, Rw.d, Kd.d, pT, h1]
    | fun_ nm ks k =>
      have h1 : ("function" : PySem.Str) ≠ "unknown" := by decide
      simp [Ev.startE, Ev.execB, Ev.x_set, Ev.x_expr, Ev.x_ret, Ev.x_ife, Ev.x_setI, Ev.x_par, Ev.setNames, Ev.evalE, Ev.evalEs, Ev.evalIfs, Ev.finish, Ev.settle, Ev.settles, Ev.guard_none, Ev.get_app, Ev.get_app0, Ev.set_app, Ev.set_app0, Ev.mutOf_r, Ev.listOf_r, Ev.dictOf_r, Ev.idx_r, Ev.idx_l, Ev.idx_f, Ev.idx_tup, Ev.mth_append, Ev.mth_pop, Ev.rcv_append, Ev.rcv_pop, Ev.rcv_extend, Ev.atI_0, Ev.atI_1, Ev.atI_2, Ev.atI_3, Ev.atI_4, Ev.add_rl, Ev.add_lr, Ev.add_ll, Rw.d, h1, pT]
    | row nm a b =>
      have h1 : ("row" : PySem.Str) ≠ "unknown" := by decide
      simp [Ev.startE, Ev.execB, Ev.x_set, Ev.x_expr, Ev.x_ret, Ev.x_ife, Ev.x_setI, Ev.x_par, Ev.setNames, Ev.evalE, Ev.evalEs, Ev.evalIfs, Ev.finish, Ev.settle, Ev.settles, Ev.guard_none, Ev.get_app, Ev.get_app0, Ev.set_app, Ev.set_app0, Ev.mutOf_r, Ev.listOf_r, Ev.dictOf_r, Ev.idx_r, Ev.idx_l, Ev.idx_f, Ev.idx_tup, Ev.mth_append, Ev.mth_pop, Ev.rcv_append, Ev.rcv_pop, Ev.rcv_extend, Ev.atI_0, Ev.atI_1, Ev.atI_2, Ev.atI_3, Ev.atI_4, Ev.add_rl, Ev.add_lr, Ev.add_ll, Rw.d, h1, pT]
  have hLm : ∀ z ∈ (rs.filter pT).map (fun r => D.str r.nm), ∃ nm ∈ abc, z = .str nm := fun z hz => by
    obtain ⟨r, hr1, rfl⟩ := List.mem_map.mp hz
    exact ⟨r.nm, nm_abc (hr r (List.mem_filter.mp hr1).1), rfl⟩
  generalize hL : (rs.filter pT).map (fun r => D.str r.nm) = L at hcomp hLm
  have pL : pures L = true := by
    rw [pures_all, List.all_eq_true]
    intro z hz
    obtain ⟨nm, _, rfl⟩ := hLm z hz
    rfl
  have e3 : execS ⟨callN fns (fun _ _ => false) m, fun _ _ => false⟩ (.set 6 (.comp (.nm 9) .val [(.var 0)] [(.and (.cmp .eq (.idx (.var 9) (.cst (.int 0))) (.cst (.str "unknown"))) (.cmp .eq (.idx (.idx (.var 9) (.cst (.int 2))) (.cst (.int 0))) (.cst (.str "truth"))))] (.idx (.var 9) (.cst (.int 1))))) [some (.tup (rs.map Rw.d)), some (.ref i), some (.int d), some (.int deep), some (.int y), some (.int w), none, none, none, none, none] S =
      some (.nx [some (.tup (rs.map Rw.d)), some (.ref i), some (.int d), some (.int deep), some (.int y), some (.int w), some (.ref S.length), none, none, none, none], S ++ [.lst L]) := by
    rw [x_set, hcomp, bndS_ok]
    simp [Ev.startE, Ev.execB, Ev.x_set, Ev.x_expr, Ev.x_ret, Ev.x_ife, Ev.x_setI, Ev.x_par, Ev.setNames, Ev.evalE, Ev.evalEs, Ev.evalIfs, Ev.finish, Ev.settle, Ev.settles, Ev.guard_none, Ev.get_app, Ev.get_app0, Ev.set_app, Ev.set_app0, Ev.mutOf_r, Ev.listOf_r, Ev.dictOf_r, Ev.idx_r, Ev.idx_l, Ev.idx_f, Ev.idx_tup, Ev.mth_append, Ev.mth_pop, Ev.rcv_append, Ev.rcv_pop, Ev.rcv_extend, Ev.atI_0, Ev.atI_1, Ev.atI_2, Ev.atI_3, Ev.atI_4, Ev.add_rl, Ev.add_lr, Ev.add_ll, settles_pure _ _ pL]
  have hget : (S ++ [D.lst L])[S.length]? = some (.lst L) := by simp
  have hne := eq_nil hget pL
  have hlb : bltE (S ++ [D.lst L]) .len [.ref S.length] = some (.int L.length) := len_seq (by rw [seqOf_ref, listOf_r, hget])
  have hc2 : Cl (S ++ [.lst L]) := hc.lst pL
  have hS2 : (S ++ [D.lst L])[i]? = some (.lst (xs.map .int)) := get_base hS
  have kw := KW_ge d
  by_cases hA : w < 2 ∧ L ≠ []
  · obtain ⟨hA1, hA2⟩ := hA
    have hEm : L.isEmpty = false := by simpa using hA2
    have hlen : (0 : Int) < L.length := by
      have := List.length_pos_iff.mpr hA2
      omega
    have bb := fmod_bd (i := y) hlen
    obtain ⟨dd, hd, hm⟩ := atI_ok (xs := L) bb.1 bb.2
    obtain ⟨nm, hnm, rfl⟩ := hLm dd hm
    have hlen' : (L.length : Int) ≠ 0 := by omega
    refine ⟨.tup [.str "is", .str nm], xs, [.lst L], ⟨treeN_le (Nat.le_add_left 1 (d + 3)) (nm_tree hnm (by simp)), by simp [nodes, nodess]; omega⟩, ?_⟩
    rw [set_same hS]
    refine (e2 _).trans (go e3 (goR ?_))
    simp only [Ev.startE, Ev.execB, Ev.x_set, Ev.x_expr, Ev.x_ret, Ev.x_ife, Ev.x_setI, Ev.x_par, Ev.setNames, Ev.evalE, Ev.evalEs, Ev.evalIfs, Ev.finish, Ev.settle, Ev.settles, Ev.guard_none, Ev.get_app, Ev.get_app0, Ev.set_app, Ev.set_app0, Ev.mutOf_r, Ev.listOf_r, Ev.dictOf_r, Ev.idx_r, Ev.idx_l, Ev.idx_f, Ev.idx_tup, Ev.mth_append, Ev.mth_pop, Ev.rcv_append, Ev.rcv_pop, Ev.rcv_extend, Ev.atI_0, Ev.atI_1, Ev.atI_2, Ev.atI_3, Ev.atI_4, Ev.add_rl, Ev.add_lr, Ev.add_ll, List.getElem?_cons_succ, List.getElem?_cons_zero, bnd_ok, Option.map_some, cmp_lt, hA1, decide_true, truth_bl, cmp_ne, hne, hEm, Bool.not_false, tests_ok, if_true, hlb, bin_mod hlen', hd, bndS_ok, seqS_ret]
  · have e4 : ∀ ss a, execB ⟨callN fns (fun _ _ => false) m, fun _ _ => false⟩ (.ife (.and (.cmp .lt (.var 5) (.cst (.int 2))) (.cmp .ne (.var 6) (.lst []))) a [] :: ss) [some (.tup (rs.map Rw.d)), some (.ref i), some (.int d), some (.int deep), some (.int y), some (.int w), some (.ref S.length), none, none, none, none] (S ++ [.lst L]) =
        execB ⟨callN fns (fun _ _ => false) m, fun _ _ => false⟩ ss [some (.tup (rs.map Rw.d)), some (.ref i), some (.int d), some (.int deep), some (.int y), some (.int w), some (.ref S.length), none, none, none, none] (S ++ [.lst L]) := fun ss a => by
      refine go (ρ1 := _) (S1 := _) (show _ = some (Fl.nx [some (.tup (rs.map Rw.d)), some (.ref i), some (.int d), some (.int deep), some (.int y), some (.int w), some (.ref S.length), none, none, none, none], S ++ [.lst L]) from ?_) rfl
      by_cases h2 : w < 2
      · have hE : L = [] := Classical.byContradiction fun h => hA ⟨h2, h⟩
        have hEm : L.isEmpty = true := by simpa using hE
        simp only [Ev.startE, Ev.execB, Ev.x_set, Ev.x_expr, Ev.x_ret, Ev.x_ife, Ev.x_setI, Ev.x_par, Ev.setNames, Ev.evalE, Ev.evalEs, Ev.evalIfs, Ev.finish, Ev.settle, Ev.settles, Ev.guard_none, Ev.get_app, Ev.get_app0, Ev.set_app, Ev.set_app0, Ev.mutOf_r, Ev.listOf_r, Ev.dictOf_r, Ev.idx_r, Ev.idx_l, Ev.idx_f, Ev.idx_tup, Ev.mth_append, Ev.mth_pop, Ev.rcv_append, Ev.rcv_pop, Ev.rcv_extend, Ev.atI_0, Ev.atI_1, Ev.atI_2, Ev.atI_3, Ev.atI_4, Ev.add_rl, Ev.add_lr, Ev.add_ll, List.getElem?_cons_succ, List.getElem?_cons_zero, bnd_ok, Option.map_some, cmp_lt, h2, decide_true, truth_bl, cmp_ne, hne, hEm, Bool.not_true, tests_ok, if_false, Bool.false_eq_true]
      · simp only [Ev.startE, Ev.execB, Ev.x_set, Ev.x_expr, Ev.x_ret, Ev.x_ife, Ev.x_setI, Ev.x_par, Ev.setNames, Ev.evalE, Ev.evalEs, Ev.evalIfs, Ev.finish, Ev.settle, Ev.settles, Ev.guard_none, Ev.get_app, Ev.get_app0, Ev.set_app, Ev.set_app0, Ev.mutOf_r, Ev.listOf_r, Ev.dictOf_r, Ev.idx_r, Ev.idx_l, Ev.idx_f, Ev.idx_tup, Ev.mth_append, Ev.mth_pop, Ev.rcv_append, Ev.rcv_pop, Ev.rcv_extend, Ev.atI_0, Ev.atI_1, Ev.atI_2, Ev.atI_3, Ev.atI_4, Ev.add_rl, Ev.add_lr, Ev.add_ll, List.getElem?_cons_succ, List.getElem?_cons_zero, bnd_ok, Option.map_some, cmp_lt, h2, decide_false, truth_bl, tests_ok, if_false, Bool.false_eq_true]
    by_cases hB : d = 0 ∨ w < 5
    · obtain ⟨t, xs', ⟨tr, sz⟩, fe⟩ := c_compared (d := deep) (n := m) (x := y) (by omega) hr hrl hc2 hS2
      have := KK deep hdp
      refine ⟨t, xs', [.lst L], ⟨treeN_le (by omega) tr, by omega⟩, ?_⟩
      rw [← set_base hS]
      refine (e2 _).trans (go e3 ((e4 _ _).trans (goR ?_)))
      simp only [F] at fe
      by_cases h0 : d = 0
      · subst h0
        simp [Ev.startE, Ev.execB, Ev.x_set, Ev.x_expr, Ev.x_ret, Ev.x_ife, Ev.x_setI, Ev.x_par, Ev.setNames, Ev.evalE, Ev.evalEs, Ev.evalIfs, Ev.finish, Ev.settle, Ev.settles, Ev.guard_none, Ev.get_app, Ev.get_app0, Ev.set_app, Ev.set_app0, Ev.mutOf_r, Ev.listOf_r, Ev.dictOf_r, Ev.idx_r, Ev.idx_l, Ev.idx_f, Ev.idx_tup, Ev.mth_append, Ev.mth_pop, Ev.rcv_append, Ev.rcv_pop, Ev.rcv_extend, Ev.atI_0, Ev.atI_1, Ev.atI_2, Ev.atI_3, Ev.atI_4, Ev.add_rl, Ev.add_lr, Ev.add_ll, fe]
      · have h1 : ¬ ((d : Int) < 1) := by omega
        have h2 : w < 5 := hB.resolve_left h0
        simp [Ev.startE, Ev.execB, Ev.x_set, Ev.x_expr, Ev.x_ret, Ev.x_ife, Ev.x_setI, Ev.x_par, Ev.setNames, Ev.evalE, Ev.evalEs, Ev.evalIfs, Ev.finish, Ev.settle, Ev.settles, Ev.guard_none, Ev.get_app, Ev.get_app0, Ev.set_app, Ev.set_app0, Ev.mutOf_r, Ev.listOf_r, Ev.dictOf_r, Ev.idx_r, Ev.idx_l, Ev.idx_f, Ev.idx_tup, Ev.mth_append, Ev.mth_pop, Ev.rcv_append, Ev.rcv_pop, Ev.rcv_extend, Ev.atI_0, Ev.atI_1, Ev.atI_2, Ev.atI_3, Ev.atI_4, Ev.add_rl, Ev.add_lr, Ev.add_ll, h1, h2, fe]
    · obtain ⟨e, rfl⟩ : ∃ e, d = e + 1 := ⟨d - 1, by omega⟩
      have hcw := ih e rfl
      have h1 : ¬ (((e + 1 : Nat) : Int) < 1) := by omega
      have h5 : ¬ w < 5 := fun h => hB (.inr h)
      have hdd : ((e + 1 : Nat) : Int) - 1 = (e : Int) := by omega
      have e5 : ∀ ss a, execB ⟨callN fns (fun _ _ => false) m, fun _ _ => false⟩ (.ife (.or (.cmp .lt (.var 2) (.cst (.int 1))) (.cmp .lt (.var 5) (.cst (.int 5)))) a [] :: ss) [some (.tup (rs.map Rw.d)), some (.ref i), some (.int (e + 1 : Nat)), some (.int deep), some (.int y), some (.int w), some (.ref S.length), none, none, none, none] (S ++ [.lst L]) =
          execB ⟨callN fns (fun _ _ => false) m, fun _ _ => false⟩ ss [some (.tup (rs.map Rw.d)), some (.ref i), some (.int (e + 1 : Nat)), some (.int deep), some (.int y), some (.int w), some (.ref S.length), none, none, none, none] (S ++ [.lst L]) := fun ss a => by
        refine go (ρ1 := _) (S1 := _) (show _ = some (Fl.nx [some (.tup (rs.map Rw.d)), some (.ref i), some (.int (e + 1 : Nat)), some (.int deep), some (.int y), some (.int w), some (.ref S.length), none, none, none, none], S ++ [.lst L]) from ?_) rfl
        simp only [Ev.startE, Ev.execB, Ev.x_set, Ev.x_expr, Ev.x_ret, Ev.x_ife, Ev.x_setI, Ev.x_par, Ev.setNames, Ev.evalE, Ev.evalEs, Ev.evalIfs, Ev.finish, Ev.settle, Ev.settles, Ev.guard_none, Ev.get_app, Ev.get_app0, Ev.set_app, Ev.set_app0, Ev.mutOf_r, Ev.listOf_r, Ev.dictOf_r, Ev.idx_r, Ev.idx_l, Ev.idx_f, Ev.idx_tup, Ev.mth_append, Ev.mth_pop, Ev.rcv_append, Ev.rcv_pop, Ev.rcv_extend, Ev.atI_0, Ev.atI_1, Ev.atI_2, Ev.atI_3, Ev.atI_4, Ev.add_rl, Ev.add_lr, Ev.add_ll, List.getElem?_cons_succ, List.getElem?_cons_zero, bnd_ok, cmp_lt, h1, h5, decide_false, Option.map_some, truth_bl, tests_ok, if_false, Bool.false_eq_true]
      have szb : 5 + 3 * KW e = KW (e + 1) := rfl
      by_cases w5 : w = 5
      · obtain ⟨t, xs', tm, fe⟩ := hcw m deep rs _ i xs (by omega) hdp hr hrl hc2 hS2
        simp only [F] at fe
        refine ⟨.tup [.str "not", t], xs', [.lst L], ⟨tag_tree (by decide) (fun p mp => ?_), ?_⟩, ?_⟩
        · have : p = t := by simpa using mp
          subst this; exact .inr (.inr (.inl tm.tree))
        · have := tm.size
          simp [nodes, nodess]; omega
        · rw [← set_base hS]
          refine (e2 _).trans (go e3 ((e4 _ _).trans ((e5 _ _).trans (goR ?_))))
          simp only [Ev.startE, Ev.execB, Ev.x_set, Ev.x_expr, Ev.x_ret, Ev.x_ife, Ev.x_setI, Ev.x_par, Ev.setNames, Ev.evalE, Ev.evalEs, Ev.evalIfs, Ev.finish, Ev.settle, Ev.settles, Ev.guard_none, Ev.get_app, Ev.get_app0, Ev.set_app, Ev.set_app0, Ev.mutOf_r, Ev.listOf_r, Ev.dictOf_r, Ev.idx_r, Ev.idx_l, Ev.idx_f, Ev.idx_tup, Ev.mth_append, Ev.mth_pop, Ev.rcv_append, Ev.rcv_pop, Ev.rcv_extend, Ev.atI_0, Ev.atI_1, Ev.atI_2, Ev.atI_3, Ev.atI_4, Ev.add_rl, Ev.add_lr, Ev.add_ll, List.getElem?_cons_succ, List.getElem?_cons_zero, bnd_ok, cmp_eq, eq_int, w5, decide_true, Option.map_some, truth_bl, tests_ok, if_true, bin_sub, hdd, fe, bndS_ok, seqS_ret]
      · have e6 : ∀ ss a, execB ⟨callN fns (fun _ _ => false) m, fun _ _ => false⟩ (.ife (.cmp .eq (.var 5) (.cst (.int 5))) a [] :: ss) [some (.tup (rs.map Rw.d)), some (.ref i), some (.int (e + 1 : Nat)), some (.int deep), some (.int y), some (.int w), some (.ref S.length), none, none, none, none] (S ++ [.lst L]) =
            execB ⟨callN fns (fun _ _ => false) m, fun _ _ => false⟩ ss [some (.tup (rs.map Rw.d)), some (.ref i), some (.int (e + 1 : Nat)), some (.int deep), some (.int y), some (.int w), some (.ref S.length), none, none, none, none] (S ++ [.lst L]) := fun ss a => by
          refine go (ρ1 := _) (S1 := _) (show _ = some (Fl.nx [some (.tup (rs.map Rw.d)), some (.ref i), some (.int (e + 1 : Nat)), some (.int deep), some (.int y), some (.int w), some (.ref S.length), none, none, none, none], S ++ [.lst L]) from ?_) rfl
          simp only [Ev.startE, Ev.execB, Ev.x_set, Ev.x_expr, Ev.x_ret, Ev.x_ife, Ev.x_setI, Ev.x_par, Ev.setNames, Ev.evalE, Ev.evalEs, Ev.evalIfs, Ev.finish, Ev.settle, Ev.settles, Ev.guard_none, Ev.get_app, Ev.get_app0, Ev.set_app, Ev.set_app0, Ev.mutOf_r, Ev.listOf_r, Ev.dictOf_r, Ev.idx_r, Ev.idx_l, Ev.idx_f, Ev.idx_tup, Ev.mth_append, Ev.mth_pop, Ev.rcv_append, Ev.rcv_pop, Ev.rcv_extend, Ev.atI_0, Ev.atI_1, Ev.atI_2, Ev.atI_3, Ev.atI_4, Ev.add_rl, Ev.add_lr, Ev.add_ll, List.getElem?_cons_succ, List.getElem?_cons_zero, bnd_ok, cmp_eq, eq_int, w5, decide_false, Option.map_some, truth_bl, tests_ok, if_false, Bool.false_eq_true]
        by_cases w8 : w < 8
        · have b4 := fmod_bd (i := y) (j := 4) (by omega)
          obtain ⟨vs, S', ec, ⟨xs', rfl⟩, hl, hv⟩ := comp_rel (g := ⟨callN fns (fun _ _ => false) m, fun _ _ => false⟩) (ρ := [some (.tup (rs.map Rw.d)), some (.ref i), some (.int (e + 1 : Nat)), some (.int deep), some (.int y), some (.int w), some (.ref S.length), none, none, none, none]) (S := S ++ [.lst L]) (j := 10) (k := .rng1)
            (es := [(.bin .mod (.var 4) (.cst (.int 4)))]) (elt := .call 16 [(.var 0), (.var 1), (.bin .sub (.var 2) (.cst (.int 1))), (.var 3)]) (ds := [.int (y.fmod 4)]) (its := (List.range (y.fmod 4).toNat).map fun (k : Nat) => D.int k) (fun _ S' => ∃ xs' : List Int, S' = (S ++ [D.lst L]).set i (.lst (xs'.map .int))) (fun v => Wm e v)
            (by simp only [Ev.startE, Ev.execB, Ev.x_set, Ev.x_expr, Ev.x_ret, Ev.x_ife, Ev.x_setI, Ev.x_par, Ev.setNames, Ev.evalE, Ev.evalEs, Ev.evalIfs, Ev.finish, Ev.settle, Ev.settles, Ev.guard_none, Ev.get_app, Ev.get_app0, Ev.set_app, Ev.set_app0, Ev.mutOf_r, Ev.listOf_r, Ev.dictOf_r, Ev.idx_r, Ev.idx_l, Ev.idx_f, Ev.idx_tup, Ev.mth_append, Ev.mth_pop, Ev.rcv_append, Ev.rcv_pop, Ev.rcv_extend, Ev.atI_0, Ev.atI_1, Ev.atI_2, Ev.atI_3, Ev.atI_4, Ev.add_rl, Ev.add_lr, Ev.add_ll, List.getElem?_cons_succ, List.getElem?_cons_zero, bnd_ok, bin_mod (show (4 : Int) ≠ 0 by decide), Option.map_some]) (items_rng1 (by omega) (by omega)) (by
              rw [pures_all, List.all_eq_true]
              intro z hz
              obtain ⟨_, _, rfl⟩ := List.mem_map.mp hz
              rfl) ⟨xs, (set_same hS2).symm⟩ (by
              rintro k' dd S' hk' ⟨xs', rfl⟩
              obtain ⟨t2, xs3, tm2, f2⟩ := hcw m deep rs _ i xs' (by omega) hdp hr hrl (hc2.ints xs') (get_set hS2)
              rw [List.set_set] at f2
              simp only [F] at f2
              refine ⟨t2, _, ?_, ⟨xs3, rfl⟩, tm2⟩
              simp only [Ev.startE, Ev.execB, Ev.x_set, Ev.x_expr, Ev.x_ret, Ev.x_ife, Ev.x_setI, Ev.x_par, Ev.setNames, Ev.evalE, Ev.evalEs, Ev.evalIfs, Ev.finish, Ev.settle, Ev.settles, Ev.guard_none, Ev.get_app, Ev.get_app0, Ev.set_app, Ev.set_app0, Ev.mutOf_r, Ev.listOf_r, Ev.dictOf_r, Ev.idx_r, Ev.idx_l, Ev.idx_f, Ev.idx_tup, Ev.mth_append, Ev.mth_pop, Ev.rcv_append, Ev.rcv_pop, Ev.rcv_extend, Ev.atI_0, Ev.atI_1, Ev.atI_2, Ev.atI_3, Ev.atI_4, Ev.add_rl, Ev.add_lr, Ev.add_ll, List.set_cons_succ, List.set_cons_zero, List.getElem?_cons_succ, List.getElem?_cons_zero, bnd_ok, bin_sub, hdd, Option.map_some, f2])
          rw [List.length_map, List.length_range] at hl
          have hpv : pures vs = true := by
            rw [pures_all, List.all_eq_true]
            exact fun v mv => (hv v mv).pure
          obtain ⟨tag, htag, hnt⟩ : ∃ tag : PySem.Str, Ev.atI [D.str "all", D.str "any"] (w - 6) = some (.str tag) ∧ tag ∉ named := by
            have h4 : w = 6 ∨ w = 7 := by omega
            rcases h4 with h | h <;> rw [h]
            · exact ⟨"all", rfl, by decide⟩
            · exact ⟨"any", rfl, by decide⟩
          refine ⟨.tup [.str tag, .tup vs], xs', [.lst L, .lst vs], ⟨tag_tree hnt (fun p mp => ?_), ?_⟩, ?_⟩
          · have : p = .tup vs := by simpa using mp
            subst this
            exact .inr (.inr (.inr ⟨vs, rfl, fun t mt => (hv t mt).tree⟩))
          · have := nodess_le (b := KW e) vs fun v mv => (hv v mv).size
            have h3 : vs.length * KW e ≤ 3 * KW e := Nat.mul_le_mul_right _ (by omega)
            simp [nodes, nodess]; omega
          · have hst : S.set i (D.lst (xs'.map .int)) ++ [D.lst L, D.lst vs] = (S ++ [D.lst L]).set i (D.lst (xs'.map .int)) ++ [D.lst vs] := by rw [set_base hS]; simp
            rw [hst]
            refine (e2 _).trans (go e3 ((e4 _ _).trans ((e5 _ _).trans ((e6 _ _).trans (goR ?_)))))
            generalize (S ++ [D.lst L]).set i (.lst (xs'.map .int)) = S3 at ec ⊢
            have hg3 : (S3 ++ [D.lst vs])[S3.length]? = some (.lst vs) := by simp
            rw [x_ife]
            simp only [Ev.evalE, List.getElem?_cons_succ, List.getElem?_cons_zero, bnd_ok, cmp_lt, w8, decide_true, Option.map_some, truth_bl, tests_ok, if_true]
            refine go (ρ1 := [some (.tup (rs.map Rw.d)), some (.ref i), some (.int (e + 1 : Nat)), some (.int deep), some (.int y), some (.int w), some (.ref S.length), none, some (.ref S3.length), none, none]) (S1 := S3 ++ [.lst vs]) (by
              rw [x_set, ec, bndS_ok]
              simp [Ev.startE, Ev.execB, Ev.x_set, Ev.x_expr, Ev.x_ret, Ev.x_ife, Ev.x_setI, Ev.x_par, Ev.setNames, Ev.evalE, Ev.evalEs, Ev.evalIfs, Ev.finish, Ev.settle, Ev.settles, Ev.guard_none, Ev.get_app, Ev.get_app0, Ev.set_app, Ev.set_app0, Ev.mutOf_r, Ev.listOf_r, Ev.dictOf_r, Ev.idx_r, Ev.idx_l, Ev.idx_f, Ev.idx_tup, Ev.mth_append, Ev.mth_pop, Ev.rcv_append, Ev.rcv_pop, Ev.rcv_extend, Ev.atI_0, Ev.atI_1, Ev.atI_2, Ev.atI_3, Ev.atI_4, Ev.add_rl, Ev.add_lr, Ev.add_ll, settles_pure _ _ hpv]) (goR ?_)
            simp only [Ev.startE, Ev.execB, Ev.x_set, Ev.x_expr, Ev.x_ret, Ev.x_ife, Ev.x_setI, Ev.x_par, Ev.setNames, Ev.evalE, Ev.evalEs, Ev.evalIfs, Ev.finish, Ev.settle, Ev.settles, Ev.guard_none, Ev.get_app, Ev.get_app0, Ev.set_app, Ev.set_app0, Ev.mutOf_r, Ev.listOf_r, Ev.dictOf_r, Ev.idx_r, Ev.idx_l, Ev.idx_f, Ev.idx_tup, Ev.mth_append, Ev.mth_pop, Ev.rcv_append, Ev.rcv_pop, Ev.rcv_extend, Ev.atI_0, Ev.atI_1, Ev.atI_2, Ev.atI_3, Ev.atI_4, Ev.add_rl, Ev.add_lr, Ev.add_ll, List.getElem?_cons_succ, List.getElem?_cons_zero, bnd_ok, bin_sub, Option.map_some, htag, tuple_seq, seqOf_ref, hg3, bndS_ok]
        · have e7 : ∀ ss a, execB ⟨callN fns (fun _ _ => false) m, fun _ _ => false⟩ (.ife (.cmp .lt (.var 5) (.cst (.int 8))) a [] :: ss) [some (.tup (rs.map Rw.d)), some (.ref i), some (.int (e + 1 : Nat)), some (.int deep), some (.int y), some (.int w), some (.ref S.length), none, none, none, none] (S ++ [.lst L]) =
              execB ⟨callN fns (fun _ _ => false) m, fun _ _ => false⟩ ss [some (.tup (rs.map Rw.d)), some (.ref i), some (.int (e + 1 : Nat)), some (.int deep), some (.int y), some (.int w), some (.ref S.length), none, none, none, none] (S ++ [.lst L]) := fun ss a => by
            refine go (ρ1 := _) (S1 := _) (show _ = some (Fl.nx [some (.tup (rs.map Rw.d)), some (.ref i), some (.int (e + 1 : Nat)), some (.int deep), some (.int y), some (.int w), some (.ref S.length), none, none, none, none], S ++ [.lst L]) from ?_) rfl
            simp only [Ev.startE, Ev.execB, Ev.x_set, Ev.x_expr, Ev.x_ret, Ev.x_ife, Ev.x_setI, Ev.x_par, Ev.setNames, Ev.evalE, Ev.evalEs, Ev.evalIfs, Ev.finish, Ev.settle, Ev.settles, Ev.guard_none, Ev.get_app, Ev.get_app0, Ev.set_app, Ev.set_app0, Ev.mutOf_r, Ev.listOf_r, Ev.dictOf_r, Ev.idx_r, Ev.idx_l, Ev.idx_f, Ev.idx_tup, Ev.mth_append, Ev.mth_pop, Ev.rcv_append, Ev.rcv_pop, Ev.rcv_extend, Ev.atI_0, Ev.atI_1, Ev.atI_2, Ev.atI_3, Ev.atI_4, Ev.add_rl, Ev.add_lr, Ev.add_ll, List.getElem?_cons_succ, List.getElem?_cons_zero, bnd_ok, cmp_lt, w8, decide_false, Option.map_some, truth_bl, tests_ok, if_false, Bool.false_eq_true]
          obtain ⟨t1, xs1, tm1, f1⟩ := hcw m deep rs _ i xs (by omega) hdp hr hrl hc2 hS2
          obtain ⟨t2, xs2, tm2, f2⟩ := hcw m deep rs _ i xs1 (by omega) hdp hr hrl (hc2.ints xs1) (get_set hS2)
          rw [List.set_set] at f2
          simp only [F] at f1 f2
          have q1 : ∀ S, settle t1 S = (t1, S) := fun S => settle_pure t1 S tm1.pure
          obtain ⟨tag, htag, hnt⟩ : ∃ tag : PySem.Str, Ev.atI [D.str "if", D.str "same"] (w - 8) = some (.str tag) ∧ tag ∉ named := by
            have h4 : w = 8 ∨ w = 9 := by omega
            rcases h4 with h | h <;> rw [h]
            · exact ⟨"if", rfl, by decide⟩
            · exact ⟨"same", rfl, by decide⟩
          refine ⟨.tup [.str tag, t1, t2], xs2, [.lst L], ⟨tag_tree hnt (fun p mp => ?_), ?_⟩, ?_⟩
          · simp only [List.mem_cons, List.not_mem_nil, or_false] at mp
            rcases mp with rfl | rfl
            · exact .inr (.inr (.inl tm1.tree))
            · exact .inr (.inr (.inl tm2.tree))
          · have := tm1.size; have := tm2.size
            simp [nodes, nodess]; omega
          · rw [← set_base hS]
            refine (e2 _).trans (go e3 ((e4 _ _).trans ((e5 _ _).trans ((e6 _ _).trans ((e7 _ _).trans ?_)))))
            simp only [Ev.startE, Ev.execB, Ev.x_set, Ev.x_expr, Ev.x_ret, Ev.x_ife, Ev.x_setI, Ev.x_par, Ev.setNames, Ev.evalE, Ev.evalEs, Ev.evalIfs, Ev.finish, Ev.settle, Ev.settles, Ev.guard_none, Ev.get_app, Ev.get_app0, Ev.set_app, Ev.set_app0, Ev.mutOf_r, Ev.listOf_r, Ev.dictOf_r, Ev.idx_r, Ev.idx_l, Ev.idx_f, Ev.idx_tup, Ev.mth_append, Ev.mth_pop, Ev.rcv_append, Ev.rcv_pop, Ev.rcv_extend, Ev.atI_0, Ev.atI_1, Ev.atI_2, Ev.atI_3, Ev.atI_4, Ev.add_rl, Ev.add_lr, Ev.add_ll, List.set_cons_succ, List.set_cons_zero, List.getElem?_cons_succ, List.getElem?_cons_zero, bnd_ok, bin_sub, hdd, Option.map_some, f1, q1, bndS_ok, seqS_nx, htag, f2, seqS_ret]
theorem c_wish : ∀ d, CW d := fun d => by
  induction d with
  | zero => exact wish_all 0 fun e h => by omega
  | succ d ih => exact wish_all (d + 1) fun e h => by cases h; exact ih
where
  wish_all (d : Nat) (ih : ∀ e, d = e + 1 → CW e) : CW d := by
    intro n deep rs S i xs hn hdp hr hrl hc hS
    obtain ⟨m, rfl⟩ : ∃ m, n = m + 1 := ⟨n - 1, by omega⟩
    have hset : settles [.tup (rs.map Rw.d), .ref i, .int d, .int deep] S = ([.tup (rs.map Rw.d), .ref i, .int d, .int deep], S) := by
      simp [settles, settles_pure _ _ (rws_pure rs), settle]
    rw [F, call_eq (np := 4) (ns := 11) (body := b__law_wish) rfl rfl, hset]
    obtain ⟨x, xs1, e1⟩ := pops (g := ⟨callN fns (fun _ _ => false) m, fun _ _ => false⟩) (ρ := [some (.tup (rs.map Rw.d)), some (.ref i), some (.int d), some (.int deep), none, none, none, none, none, none, none]) (a := 4) (v := 1) (i := i) (S := S) (xs := xs) rfl (by decide) hS
    obtain ⟨t, xs', l, tm, e⟩ := wish_rest (m := m) (x := x) ih (by omega) hdp hr hrl (hc.ints xs1) (get_set hS)
    rw [List.set_set] at e
    refine ⟨t, xs', tm, ?_⟩
    exact (fin_go (d := t) (S1 := S.set i (.lst (xs'.map .int)) ++ l) ((e1 (b__law_wish.drop 2)).trans e)).trans (leave_set hc (ints_under xs') tm.pure)
end Pg
end
section
set_option Elab.async false
set_option linter.all false
set_option maxRecDepth 100000
namespace Pg
open Ev
/-! ### the tagged parts of a tree -/
def isTag : List D → Bool
  | .str _ :: _ => true
  | _ => false
mutual
def tgd : D → List D
  | .tup ds => (if isTag ds then [.tup ds] else []) ++ tgds ds
  | _ => []
def tgds : List D → List D
  | [] => []
  | d :: ds => tgd d ++ tgds ds
end
theorem tgds_app : ∀ as bs : List D, tgds (as ++ bs) = tgds as ++ tgds bs
  | [], bs => rfl
  | a :: as, bs => by rw [List.cons_append, tgds, tgds, tgds_app as bs, List.append_assoc]
theorem tgds_sum : ∀ ds : List D, (tgds ds).length = (ds.map fun d => (tgd d).length).sum
  | [] => rfl
  | d :: ds => by rw [tgds, List.length_append, List.map_cons, List.sum_cons, tgds_sum ds]
theorem eq_unit {S : Sto} {ds : List D} (h : pures ds = true) : eqE S (.tup ds) (.tup []) = some ds.isEmpty := by
  rw [eq_pure (by unfold D.pure; exact h) rfl (by simp [D.depth, depths])]
  cases ds <;> rfl
theorem isi_tuple {isa : Nat → Ty → Bool} {S : Sto} {d : D} (h : d.pure = true) : isTys isa S d [.tuple] = some (match d with | .tup _ => true | _ => false) := by
  cases d <;> first | rfl | cases h
theorem isi_str {isa : Nat → Ty → Bool} {S : Sto} {d : D} (h : d.pure = true) : isTys isa S d [.str] = some (match d with | .str _ => true | _ => false) := by
  cases d <;> first | rfl | cases h
/-- thing != () and isinstance(thing[0], str) -/
theorem tag_test {g : G} {ρ : Env} {S : Sto} {i : Nat} {ds : List D} (hi : ρ[i]? = some (some (.tup ds))) (h : pures ds = true) : evalE g (.and (.cmp .ne (.var i) (.tup [])) (.isi (.idx (.var i) (.cst (.int 0))) [.str])) ρ S = some (.ok (.bl (isTag ds)) S) := by
  cases ds with
  | nil =>
    have e0 : eqE S (.tup []) (.tup []) = some true := eq_unit (ds := []) rfl
    simp [Ev.startE, Ev.execB, Ev.x_set, Ev.x_expr, Ev.x_ret, Ev.x_ife, Ev.x_setI, Ev.x_par, Ev.setNames, Ev.evalE, Ev.evalEs, Ev.evalIfs, Ev.finish, Ev.settle, Ev.settles, Ev.guard_none, Ev.get_app, Ev.get_app0, Ev.set_app, Ev.set_app0, Ev.mutOf_r, Ev.listOf_r, Ev.dictOf_r, Ev.idx_r, Ev.idx_l, Ev.idx_f, Ev.idx_tup, Ev.mth_append, Ev.mth_pop, Ev.rcv_append, Ev.rcv_pop, Ev.rcv_extend, Ev.atI_0, Ev.atI_1, Ev.atI_2, Ev.atI_3, Ev.atI_4, Ev.add_rl, Ev.add_lr, Ev.add_ll, hi, e0, isTag]
  | cons d ds =>
    have hp : d.pure = true := by
      unfold pures at h
      exact (Bool.and_eq_true_iff.mp h).1
    simp only [Ev.startE, Ev.execB, Ev.x_set, Ev.x_expr, Ev.x_ret, Ev.x_ife, Ev.x_setI, Ev.x_par, Ev.setNames, Ev.evalE, Ev.evalEs, Ev.evalIfs, Ev.finish, Ev.settle, Ev.settles, Ev.guard_none, Ev.get_app, Ev.get_app0, Ev.set_app, Ev.set_app0, Ev.mutOf_r, Ev.listOf_r, Ev.dictOf_r, Ev.idx_r, Ev.idx_l, Ev.idx_f, Ev.idx_tup, Ev.mth_append, Ev.mth_pop, Ev.rcv_append, Ev.rcv_pop, Ev.rcv_extend, Ev.atI_0, Ev.atI_1, Ev.atI_2, Ev.atI_3, Ev.atI_4, Ev.add_rl, Ev.add_lr, Ev.add_ll, hi, bnd_ok, cmp_ne, eq_unit h, List.isEmpty_cons, Option.map_some, Bool.not_false, truth_bl, List.getElem?_cons_zero, isi_str hp]
    cases d <;> rfl
theorem depth_mem {d : D} : ∀ {ds : List D}, d ∈ ds → d.depth ≤ depths ds
  | [], h => by cases h
  | x :: ds, h => by
    rw [depths]
    rcases List.mem_cons.mp h with rfl | h
    · omega
    · have := depth_mem h
      omega
theorem sum_cast : ∀ l : List Nat, ((l.map fun (n : Nat) => (n : Int)).sum) = ((l.sum : Nat) : Int)
  | [] => rfl
  | n :: l => by rw [List.map_cons, List.sum_cons, List.sum_cons, sum_cast l]; omega
theorem c_size : ∀ (n : Nat) (d : D) (S : Sto), d.pure = true → d.depth < n → Cl S → F n 2 [d] S = some (.ok (.int (tgd d).length) S)
  | 0, d, S, _, h, _ => by omega
  | n + 1, d, S, hp, hd, hc => by
    rw [F, call_eq (np := 1) (ns := 2) (body := b_size_of_part) rfl rfl, settles_pure _ _ (by simp [pures, hp])]
    by_cases ht : ∃ ds, d = .tup ds
    · obtain ⟨ds, rfl⟩ := ht
      have hps : pures ds = true := by unfold D.pure at hp; exact hp
      have hdd : depths ds < n := by unfold D.depth at hd; omega
      have hcomp : evalE ⟨callN fns (fun _ _ => false) n, fun _ _ => false⟩ (.comp (.nm 1) .val [(.var 0)] [] (.call 2 [(.var 1)])) [some (.tup ds), none] S = some (.ok (.lst ((ds.filter fun _ => true).map fun d => D.int (tgd d).length)) S) := by
        refine comp_f (f := fun d => d) (p := fun _ => true) (v := fun d => D.int (tgd d).length) (dv := .tup ds) (by simp [Ev.startE, Ev.execB, Ev.x_set, Ev.x_expr, Ev.x_ret, Ev.x_ife, Ev.x_setI, Ev.x_par, Ev.setNames, Ev.evalE, Ev.evalEs, Ev.evalIfs, Ev.finish, Ev.settle, Ev.settles, Ev.guard_none, Ev.get_app, Ev.get_app0, Ev.set_app, Ev.set_app0, Ev.mutOf_r, Ev.listOf_r, Ev.dictOf_r, Ev.idx_r, Ev.idx_l, Ev.idx_f, Ev.idx_tup, Ev.mth_append, Ev.mth_pop, Ev.rcv_append, Ev.rcv_pop, Ev.rcv_extend, Ev.atI_0, Ev.atI_1, Ev.atI_2, Ev.atI_3, Ev.atI_4, Ev.add_rl, Ev.add_lr, Ev.add_ll]) (by rw [List.map_id' ds]; rfl) (fun r hr => ?_) (fun r _ => by simp [Ev.startE, Ev.execB, Ev.x_set, Ev.x_expr, Ev.x_ret, Ev.x_ife, Ev.x_setI, Ev.x_par, Ev.setNames, Ev.evalE, Ev.evalEs, Ev.evalIfs, Ev.finish, Ev.settle, Ev.settles, Ev.guard_none, Ev.get_app, Ev.get_app0, Ev.set_app, Ev.set_app0, Ev.mutOf_r, Ev.listOf_r, Ev.dictOf_r, Ev.idx_r, Ev.idx_l, Ev.idx_f, Ev.idx_tup, Ev.mth_append, Ev.mth_pop, Ev.rcv_append, Ev.rcv_pop, Ev.rcv_extend, Ev.atI_0, Ev.atI_1, Ev.atI_2, Ev.atI_3, Ev.atI_4, Ev.add_rl, Ev.add_lr, Ev.add_ll]) (fun r hr _ => ?_)
        · rw [pures_all, List.all_eq_true] at hps
          exact hps r hr
        · have ih := c_size n r S (by rw [pures_all, List.all_eq_true] at hps; exact hps r hr) (by have := depth_mem hr; omega) hc
          simp only [F] at ih
          simp only [Ev.startE, Ev.execB, Ev.x_set, Ev.x_expr, Ev.x_ret, Ev.x_ife, Ev.x_setI, Ev.x_par, Ev.setNames, Ev.evalE, Ev.evalEs, Ev.evalIfs, Ev.finish, Ev.settle, Ev.settles, Ev.guard_none, Ev.get_app, Ev.get_app0, Ev.set_app, Ev.set_app0, Ev.mutOf_r, Ev.listOf_r, Ev.dictOf_r, Ev.idx_r, Ev.idx_l, Ev.idx_f, Ev.idx_tup, Ev.mth_append, Ev.mth_pop, Ev.rcv_append, Ev.rcv_pop, Ev.rcv_extend, Ev.atI_0, Ev.atI_1, Ev.atI_2, Ev.atI_3, Ev.atI_4, Ev.add_rl, Ev.add_lr, Ev.add_ll, List.set_cons_succ, List.set_cons_zero, List.getElem?_cons_succ, List.getElem?_cons_zero, bnd_ok, ih]
      rw [List.filter_eq_self.mpr (fun _ _ => rfl)] at hcomp
      have hm : (ds.map fun d => D.int (tgd d).length) = ((ds.map fun d => (tgd d).length).map fun (n : Nat) => (n : Int)).map D.int := by simp
      refine (fin_go (d := .int (tgd (.tup ds)).length) (S1 := S) (go (ρ1 := [some (.tup ds), none]) (S1 := S) (by simp [Ev.startE, Ev.execB, Ev.x_set, Ev.x_expr, Ev.x_ret, Ev.x_ife, Ev.x_setI, Ev.x_par, Ev.setNames, Ev.evalE, Ev.evalEs, Ev.evalIfs, Ev.finish, Ev.settle, Ev.settles, Ev.guard_none, Ev.get_app, Ev.get_app0, Ev.set_app, Ev.set_app0, Ev.mutOf_r, Ev.listOf_r, Ev.dictOf_r, Ev.idx_r, Ev.idx_l, Ev.idx_f, Ev.idx_tup, Ev.mth_append, Ev.mth_pop, Ev.rcv_append, Ev.rcv_pop, Ev.rcv_extend, Ev.atI_0, Ev.atI_1, Ev.atI_2, Ev.atI_3, Ev.atI_4, Ev.add_rl, Ev.add_lr, Ev.add_ll]) (goR ?_))).trans (leave_int0 hc)
      have hsum : bltE S .sum [.lst (ds.map fun d => D.int (tgd d).length)] = some (.int ((tgds ds).length : Nat)) := by
        rw [hm, sum_list (listOf_lst) (intsOf_map _), sum_cast, ← tgds_sum]
      have ht := tag_test (g := ⟨callN fns (fun _ _ => false) n, fun _ _ => false⟩) (ρ := [some (.tup ds), none]) (S := S) (i := 0) rfl hps
      rw [x_ret, Ev.evalE, Ev.evalE, Ev.evalEs, ht, bnd_ok, Ev.evalEs, bnd_ok, bnd_ok, int_bl, Option.map_some, bnd_ok, Ev.evalE, Ev.evalEs, hcomp, bnd_ok, Ev.evalEs, bnd_ok, bnd_ok, hsum, Option.map_some, bnd_ok, bin_add, Option.map_some, bndS_ok]
      rw [tgd, List.length_append]
      cases isTag ds <;> simp
    · have hl : tgd d = [] := by
        cases d <;> first | rfl | exact absurd ⟨_, rfl⟩ ht
      rw [hl]
      refine (fin_go (d := .int 0) (S1 := S) (goR ?_)).trans (leave_int0 hc)
      have hi : isTys (fun _ _ => false) S d [.tuple] = some false := by
        rw [isi_tuple hp]
        cases d <;> first | rfl | exact absurd ⟨_, rfl⟩ ht
      simp [Ev.startE, Ev.execB, Ev.x_set, Ev.x_expr, Ev.x_ret, Ev.x_ife, Ev.x_setI, Ev.x_par, Ev.setNames, Ev.evalE, Ev.evalEs, Ev.evalIfs, Ev.finish, Ev.settle, Ev.settles, Ev.guard_none, Ev.get_app, Ev.get_app0, Ev.set_app, Ev.set_app0, Ev.mutOf_r, Ev.listOf_r, Ev.dictOf_r, Ev.idx_r, Ev.idx_l, Ev.idx_f, Ev.idx_tup, Ev.mth_append, Ev.mth_pop, Ev.rcv_append, Ev.rcv_pop, Ev.rcv_extend, Ev.atI_0, Ev.atI_1, Ev.atI_2, Ev.atI_3, Ev.atI_4, Ev.add_rl, Ev.add_lr, Ev.add_ll, hi]
end Pg
end
section
set_option Elab.async false
set_option linter.all false
set_option maxRecDepth 100000
namespace Pg
open Ev
theorem nodess_app : ∀ as bs : List D, nodess (as ++ bs) = nodess as + nodess bs
  | [], bs => by simp [nodess]
  | a :: as, bs => by rw [List.cons_append, nodess, nodess, nodess_app as bs]; omega
theorem len_nodess : ∀ ds : List D, ds.length ≤ nodess ds
  | [] => by simp [nodess]
  | d :: ds => by
    have h1 := nodes_pos d
    have h2 := len_nodess ds
    rw [List.length_cons, nodess]; omega
theorem pures_app {as bs : List D} : pures (as ++ bs) = (pures as && pures bs) := by
  rw [pures_all, pures_all, pures_all, List.all_append]
theorem mth_extend {S : Sto} {n : Nat} {es : List D} : mthE .extend (.ref n) [.tup es] S = match S[n]? with | some (.lst ds) => if lenOk (ds.length + es.length) then some (.non, (settles es S).2.set n (.lst (ds ++ (settles es S).1))) else none | _ => none := rfl
theorem c_tagged {n : Nat} {S : Sto} {t : D} (hp : t.pure = true) (hN : nodes t ≤ 1000000) (hc : Cl S) : ∃ found : List D, pures found = true ∧ found.Perm (tgd t) ∧ F (n + 1) 17 [t] S = some (.ok (.lst found) S) := by
  rw [F, call_eq (np := 1) (ns := 4) (body := b__law_tagged) rfl rfl, settles_pure _ _ (by simp [pures, hp])]
  have qt : ∀ S, settle t S = (t, S) := fun S => settle_pure t S hp
  obtain ⟨ρ2, S2, e3, found, kv, pf, pm, rfl, rfl⟩ := while_rel (g := ⟨callN fns (fun _ _ => false) n, fun _ _ => false⟩) (c := .cmp .ne (.var 2) (.lst []))
    (body := [.set 3 (.mth .pop (.var 2) []), .ife (.isi (.var 3) [.tuple]) [.ife (.and (.cmp .ne (.var 3) (.tup [])) (.isi (.idx (.var 3) (.cst (.int 0))) [.str])) [.expr (.mth .append (.var 1) [(.var 3)])] [], .expr (.mth .extend (.var 2) [(.var 3)])] []])
    (fun m ρ S' => ∃ (found left : List D) (kv : Option D), pures found = true ∧ pures left = true ∧ found.length + nodess left ≤ nodes t ∧ (found ++ tgds left).Perm (tgd t) ∧ nodess left = m ∧ ρ = [some t, some (.ref S.length), some (.ref (S.length + 1)), kv] ∧ S' = S ++ [.lst found, .lst left])
    (fun ρ S' => ∃ (found : List D) (kv : Option D), pures found = true ∧ found.Perm (tgd t) ∧ ρ = [some t, some (.ref S.length), some (.ref (S.length + 1)), kv] ∧ S' = S ++ [.lst found, .lst []]) (by
      rintro m ρ S' ⟨found, left, kv, pf, pl, hl, hpm, rfl, rfl, rfl⟩
      have hg1 : (S ++ [D.lst found, D.lst left])[S.length + 1]? = some (.lst left) := by rw [get_app]; rfl
      have hne := eq_nil hg1 pl
      refine ⟨.bl (!left.isEmpty), S ++ [.lst found, .lst left], !left.isEmpty, by simp only [Ev.startE, Ev.execB, Ev.x_set, Ev.x_expr, Ev.x_ret, Ev.x_ife, Ev.x_setI, Ev.x_par, Ev.setNames, Ev.evalE, Ev.evalEs, Ev.evalIfs, Ev.finish, Ev.settle, Ev.settles, Ev.guard_none, Ev.get_app, Ev.get_app0, Ev.set_app, Ev.set_app0, Ev.mutOf_r, Ev.listOf_r, Ev.dictOf_r, Ev.idx_r, Ev.idx_l, Ev.idx_f, Ev.idx_tup, Ev.mth_append, Ev.mth_pop, Ev.rcv_append, Ev.rcv_pop, Ev.rcv_extend, Ev.atI_0, Ev.atI_1, Ev.atI_2, Ev.atI_3, Ev.atI_4, Ev.add_rl, Ev.add_lr, Ev.add_ll, List.getElem?_cons_succ, List.getElem?_cons_zero, bnd_ok, cmp_ne, hne, Option.map_some], rfl, fun h => ?_, fun h => ?_⟩
      · rcases List.eq_nil_or_concat left with rfl | ⟨ys, y, rfl⟩
        · cases h
        rw [List.concat_eq_append] at hg1 pl hl hpm ⊢
        rw [pures_app] at pl
        obtain ⟨py, pyy⟩ := Bool.and_eq_true_iff.mp pl
        have hy : y.pure = true := by simpa [pures] using pyy
        have qy : ∀ S, settle y S = (y, S) := fun S => settle_pure y S hy
        have hlast : (ys ++ [y]).getLast? = some y := by simp
        have hdrop : (ys ++ [y]).dropLast = ys := by simp
        rw [nodess_app, nodess, nodess] at hl
        have st1 : execS ⟨callN fns (fun _ _ => false) n, fun _ _ => false⟩ (.set 3 (.mth .pop (.var 2) [])) [some t, some (.ref S.length), some (.ref (S.length + 1)), kv] (S ++ [.lst found, .lst (ys ++ [y])]) = some (.nx [some t, some (.ref S.length), some (.ref (S.length + 1)), some y], S ++ [.lst found, .lst ys]) := by
          simp only [Ev.startE, Ev.execB, Ev.x_set, Ev.x_expr, Ev.x_ret, Ev.x_ife, Ev.x_setI, Ev.x_par, Ev.setNames, Ev.evalE, Ev.evalEs, Ev.evalIfs, Ev.finish, Ev.settle, Ev.settles, Ev.guard_none, Ev.get_app, Ev.get_app0, Ev.set_app, Ev.set_app0, Ev.mutOf_r, Ev.listOf_r, Ev.dictOf_r, Ev.idx_r, Ev.idx_l, Ev.idx_f, Ev.idx_tup, Ev.mth_append, Ev.mth_pop, Ev.rcv_append, Ev.rcv_pop, Ev.rcv_extend, Ev.atI_0, Ev.atI_1, Ev.atI_2, Ev.atI_3, Ev.atI_4, Ev.add_rl, Ev.add_lr, Ev.add_ll, List.set_cons_succ, List.set_cons_zero, List.getElem?_cons_succ, List.getElem?_cons_zero, bnd_ok, Option.isSome_some, if_true, hlast, hdrop, Option.map_some, bndS_ok, qy]
        by_cases hty : ∃ ds, y = .tup ds
        · obtain ⟨ds, rfl⟩ := hty
          have pds : pures ds = true := by unfold D.pure at hy; exact hy
          have hnn : nodes (.tup ds) = 1 + nodess ds := by rw [nodes]
          have l1 := len_nodess ys
          have l2 := len_nodess ds
          have tt := tag_test (g := ⟨callN fns (fun _ _ => false) n, fun _ _ => false⟩) (ρ := [some t, some (.ref S.length), some (.ref (S.length + 1)), some (.tup ds)]) (S := S ++ [.lst found, .lst ys]) (i := 3) rfl pds
          have st2 : execS ⟨callN fns (fun _ _ => false) n, fun _ _ => false⟩ (.ife (.and (.cmp .ne (.var 3) (.tup [])) (.isi (.idx (.var 3) (.cst (.int 0))) [.str])) [.expr (.mth .append (.var 1) [(.var 3)])] []) [some t, some (.ref S.length), some (.ref (S.length + 1)), some (.tup ds)] (S ++ [.lst found, .lst ys]) =
              some (.nx [some t, some (.ref S.length), some (.ref (S.length + 1)), some (.tup ds)], S ++ [.lst (found ++ (if isTag ds then [.tup ds] else [])), .lst ys]) := by
            rw [x_ife, tt, tests_ok, truth_bl]
            cases isTag ds with
            | false => simp [Ev.execB]
            | true =>
              have hlf : found.length < 16777216 := by omega
              simp only [if_true, Ev.startE, Ev.execB, Ev.x_set, Ev.x_expr, Ev.x_ret, Ev.x_ife, Ev.x_setI, Ev.x_par, Ev.setNames, Ev.evalE, Ev.evalEs, Ev.evalIfs, Ev.finish, Ev.settle, Ev.settles, Ev.guard_none, Ev.get_app, Ev.get_app0, Ev.set_app, Ev.set_app0, Ev.mutOf_r, Ev.listOf_r, Ev.dictOf_r, Ev.idx_r, Ev.idx_l, Ev.idx_f, Ev.idx_tup, Ev.mth_append, Ev.mth_pop, Ev.rcv_append, Ev.rcv_pop, Ev.rcv_extend, Ev.atI_0, Ev.atI_1, Ev.atI_2, Ev.atI_3, Ev.atI_4, Ev.add_rl, Ev.add_lr, Ev.add_ll, List.set_cons_succ, List.set_cons_zero, List.getElem?_cons_succ, List.getElem?_cons_zero, bnd_ok, Option.isSome_some, if_pos hlf, settles_pure _ _ pds, Option.map_some, bndS_ok, seqS_nx]
          have st3 : execS ⟨callN fns (fun _ _ => false) n, fun _ _ => false⟩ (.expr (.mth .extend (.var 2) [(.var 3)])) [some t, some (.ref S.length), some (.ref (S.length + 1)), some (.tup ds)] (S ++ [.lst (found ++ (if isTag ds then [.tup ds] else [])), .lst ys]) =
              some (.nx [some t, some (.ref S.length), some (.ref (S.length + 1)), some (.tup ds)], S ++ [.lst (found ++ (if isTag ds then [.tup ds] else [])), .lst (ys ++ ds)]) := by
            have hle : lenOk (ys.length + ds.length) = true := decide_eq_true (by omega)
            simp only [Ev.startE, Ev.execB, Ev.x_set, Ev.x_expr, Ev.x_ret, Ev.x_ife, Ev.x_setI, Ev.x_par, Ev.setNames, Ev.evalE, Ev.evalEs, Ev.evalIfs, Ev.finish, Ev.settle, Ev.settles, Ev.guard_none, Ev.get_app, Ev.get_app0, Ev.set_app, Ev.set_app0, Ev.mutOf_r, Ev.listOf_r, Ev.dictOf_r, Ev.idx_r, Ev.idx_l, Ev.idx_f, Ev.idx_tup, Ev.mth_append, Ev.mth_pop, Ev.rcv_append, Ev.rcv_pop, Ev.rcv_extend, Ev.atI_0, Ev.atI_1, Ev.atI_2, Ev.atI_3, Ev.atI_4, Ev.add_rl, Ev.add_lr, Ev.add_ll, List.set_cons_succ, List.set_cons_zero, List.getElem?_cons_succ, List.getElem?_cons_zero, bnd_ok, Option.isSome_some, if_true, mth_extend, hle, settles_pure _ _ pds, Option.map_some, bndS_ok]
          have pfe : pures (found ++ (if isTag ds then [.tup ds] else [])) = true := by
            rw [pures_app, pf]
            cases isTag ds <;> simp [pures, hy]
          refine ⟨_, _, nodess ys + nodess ds, go st1 (go (ρ1 := [some t, some (.ref S.length), some (.ref (S.length + 1)), some (.tup ds)]) (S1 := S ++ [.lst (found ++ (if isTag ds then [.tup ds] else [])), .lst (ys ++ ds)]) ?_ execB_nil), ?_, found ++ (if isTag ds then [.tup ds] else []), ys ++ ds, some (.tup ds), pfe, ?_, ?_, ?_, nodess_app _ _, rfl, rfl⟩
          · rw [x_ife]
            simp only [Ev.evalE, List.getElem?_cons_succ, List.getElem?_cons_zero, bnd_ok, isi_tup_tuple, Option.map_some, tests_ok, truth_bl, if_true]
            exact go st2 (go st3 execB_nil)
          · rw [nodess_app, nodess, nodess]; omega
          · rw [pures_app, py, pds]; rfl
          · rw [nodess_app, List.length_append]
            cases isTag ds <;> simp <;> omega
          · refine List.Perm.trans ?_ hpm
            rw [tgds_app, tgds_app, List.append_assoc]
            refine List.Perm.append_left found ?_
            have : tgds [D.tup ds] = (if isTag ds then [.tup ds] else []) ++ tgds ds := by rw [tgds, tgds, tgd, List.append_nil]
            rw [this, ← List.append_assoc, ← List.append_assoc]
            exact List.Perm.append_right _ List.perm_append_comm
        · have hi : isTys (fun _ _ => false) (S ++ [D.lst found, D.lst ys]) y [.tuple] = some false := by
            rw [isi_tuple hy]
            cases y <;> first | rfl | exact absurd ⟨_, rfl⟩ hty
          have hl0 : tgds [y] = [] := by
            rw [tgds, tgds]
            cases y <;> first | rfl | exact absurd ⟨_, rfl⟩ hty
          refine ⟨_, _, nodess ys, go st1 (go (ρ1 := [some t, some (.ref S.length), some (.ref (S.length + 1)), some y]) (S1 := S ++ [.lst found, .lst ys]) ?_ execB_nil), ?_, found, ys, some y, pf, py, ?_, ?_, rfl, rfl, rfl⟩
          · simp only [Ev.startE, Ev.execB, Ev.x_set, Ev.x_expr, Ev.x_ret, Ev.x_ife, Ev.x_setI, Ev.x_par, Ev.setNames, Ev.evalE, Ev.evalEs, Ev.evalIfs, Ev.finish, Ev.settle, Ev.settles, Ev.guard_none, Ev.get_app, Ev.get_app0, Ev.set_app, Ev.set_app0, Ev.mutOf_r, Ev.listOf_r, Ev.dictOf_r, Ev.idx_r, Ev.idx_l, Ev.idx_f, Ev.idx_tup, Ev.mth_append, Ev.mth_pop, Ev.rcv_append, Ev.rcv_pop, Ev.rcv_extend, Ev.atI_0, Ev.atI_1, Ev.atI_2, Ev.atI_3, Ev.atI_4, Ev.add_rl, Ev.add_lr, Ev.add_ll, List.getElem?_cons_succ, List.getElem?_cons_zero, bnd_ok, hi, Option.map_some, tests_ok, truth_bl, if_false, Bool.false_eq_true]
          · have := nodes_pos y
            rw [nodess_app, nodess, nodess]; omega
          · omega
          · rw [tgds_app, hl0, List.append_nil] at hpm
            exact hpm
      · have hE : left = [] := by simpa using h
        subst hE
        refine ⟨found, kv, pf, ?_, rfl, rfl⟩
        simpa [tgds] using hpm)
    (nodes t) [some t, some (.ref S.length), some (.ref (S.length + 1)), none] (S ++ [.lst [], .lst [t]]) ⟨[], [t], none, rfl, by simp [pures, hp], by simp [nodess], by simp [tgds], by simp [nodess], rfl, rfl⟩
  refine ⟨found, pf, pm, ?_⟩
  refine (fin_go (d := .ref S.length) (S1 := S ++ [.lst found, .lst []]) (go (ρ1 := [some t, some (.ref S.length), none, none]) (S1 := S ++ [.lst []]) (by simp [Ev.startE, Ev.execB, Ev.x_set, Ev.x_expr, Ev.x_ret, Ev.x_ife, Ev.x_setI, Ev.x_par, Ev.setNames, Ev.evalE, Ev.evalEs, Ev.evalIfs, Ev.finish, Ev.settle, Ev.settles, Ev.guard_none, Ev.get_app, Ev.get_app0, Ev.set_app, Ev.set_app0, Ev.mutOf_r, Ev.listOf_r, Ev.dictOf_r, Ev.idx_r, Ev.idx_l, Ev.idx_f, Ev.idx_tup, Ev.mth_append, Ev.mth_pop, Ev.rcv_append, Ev.rcv_pop, Ev.rcv_extend, Ev.atI_0, Ev.atI_1, Ev.atI_2, Ev.atI_3, Ev.atI_4, Ev.add_rl, Ev.add_lr, Ev.add_ll]) (go (ρ1 := [some t, some (.ref S.length), some (.ref (S.length + 1)), none]) (S1 := S ++ [.lst [], .lst [t]]) (by simp [Ev.startE, Ev.execB, Ev.x_set, Ev.x_expr, Ev.x_ret, Ev.x_ife, Ev.x_setI, Ev.x_par, Ev.setNames, Ev.evalE, Ev.evalEs, Ev.evalIfs, Ev.finish, Ev.settle, Ev.settles, Ev.guard_none, Ev.get_app, Ev.get_app0, Ev.set_app, Ev.set_app0, Ev.mutOf_r, Ev.listOf_r, Ev.dictOf_r, Ev.idx_r, Ev.idx_l, Ev.idx_f, Ev.idx_tup, Ev.mth_append, Ev.mth_pop, Ev.rcv_append, Ev.rcv_pop, Ev.rcv_extend, Ev.atI_0, Ev.atI_1, Ev.atI_2, Ev.atI_3, Ev.atI_4, Ev.add_rl, Ev.add_lr, Ev.add_ll, qt]) (go e3 (goR (by simp [Ev.startE, Ev.execB, Ev.x_set, Ev.x_expr, Ev.x_ret, Ev.x_ife, Ev.x_setI, Ev.x_par, Ev.setNames, Ev.evalE, Ev.evalEs, Ev.evalIfs, Ev.finish, Ev.settle, Ev.settles, Ev.guard_none, Ev.get_app, Ev.get_app0, Ev.set_app, Ev.set_app0, Ev.mutOf_r, Ev.listOf_r, Ev.dictOf_r, Ev.idx_r, Ev.idx_l, Ev.idx_f, Ev.idx_tup, Ev.mth_append, Ev.mth_pop, Ev.rcv_append, Ev.rcv_pop, Ev.rcv_extend, Ev.atI_0, Ev.atI_1, Ev.atI_2, Ev.atI_3, Ev.atI_4, Ev.add_rl, Ev.add_lr, Ev.add_ll])))))).trans (leave_lst (k := 0) hc rfl pf)
end Pg
end
section
set_option Elab.async false
set_option linter.all false
set_option maxRecDepth 100000
namespace Pg
open Ev
/-! ### dicts of names -/
def dN (K : List PySem.Str) : D := .dct (K.map .str) (K.map fun _ => .bl true)
def ins (K : List PySem.Str) (nm : PySem.Str) : List PySem.Str := if nm ∈ K then K else K ++ [nm]
theorem find_str (nm : PySem.Str) : ∀ K : List PySem.Str, Ev.find (K.map .str) (.str nm) = K.findIdx? fun x => decide (x = nm)
  | [] => rfl
  | x :: K => by
    have ih := find_str nm K
    unfold Ev.find at ih ⊢
    rw [List.map_cons, List.findIdx?_cons, List.findIdx?_cons, ih]
    rfl
theorem set_true {K : List PySem.Str} {j : Nat} : (K.map fun _ => D.bl true).set j (.bl true) = K.map fun _ => D.bl true := by
  refine List.ext_getElem (by simp) fun i h1 h2 => ?_
  rw [List.getElem_set]
  split
  · simp
  · rfl
theorem put_nm (K : List PySem.Str) (nm : PySem.Str) : Ev.putK (K.map .str) (K.map fun _ => .bl true) (.str nm) (.bl true) = ((ins K nm).map .str, (ins K nm).map fun _ => .bl true) := by
  unfold Ev.putK ins
  rw [find_str]
  by_cases h : nm ∈ K
  · rw [if_pos h]
    cases hf : K.findIdx? fun x => decide (x = nm) with
    | none =>
      have := List.findIdx?_eq_none_iff.mp hf nm h
      simp at this
    | some j => simp only [set_true]
  · rw [if_neg h]
    have hf : (K.findIdx? fun x => decide (x = nm)) = none := List.findIdx?_eq_none_iff.mpr fun x hx => by
      simp only [decide_eq_false_iff_not]
      intro e; subst e; exact h hx
    rw [hf]
    simp
theorem ins_mem {K : List PySem.Str} {nm x : PySem.Str} : x ∈ ins K nm ↔ x ∈ K ∨ x = nm := by
  unfold ins
  split
  · rename_i h
    exact ⟨.inl, fun q => q.elim id fun e => by subst e; exact h⟩
  · simp
theorem ins_nd {K : List PySem.Str} {nm : PySem.Str} (h : K.Nodup) : (ins K nm).Nodup := by
  unfold ins
  split
  · exact h
  · rename_i hn
    refine List.nodup_append.mpr ⟨h, by simp, fun a ha b hb e => ?_⟩
    have : b = nm := by simpa using hb
    subst this; subst e; exact hn ha
theorem short {K : List PySem.Str} (h : K.Nodup) (ha : ∀ x ∈ K, x ∈ abc) : K.length ≤ 21 := by
  have := List.Nodup.length_le_of_subset h ha
  exact Nat.le_trans this (by decide)
theorem dN_under (b : Nat) (K : List PySem.Str) : (dN K).under b = true := by
  unfold dN D.under
  rw [unders_all, unders_all]
  simp [D.under]
theorem setI_nm {S : Sto} {i : Nat} {K : List PySem.Str} {nm : PySem.Str} (hS : S[i]? = some (dN K)) (hl : K.length ≤ 21) : setItE (.ref i) (.str nm) (.bl true) S = some (S.set i (dN (ins K nm))) := by
  have hk : (keyOk (.str nm) && decide ((K.map D.str).length < 16777216)) = true := by
    rw [List.length_map]
    simp [keyOk]; omega
  unfold dN at hS
  unfold setItE
  simp only [hS, hk, if_true, settle, put_nm, dN]
/-! ### which tags name -/
theorem in_named {S : Sto} {tag : PySem.Str} {l : List PySem.Str} : inE S (.str tag) (.tup (l.map .str)) = some (decide (tag ∈ l)) := by
  show inL S (.str tag) (l.map .str) = _
  have hp : pures (l.map D.str) = true := by
    rw [pures_all, List.all_eq_true]
    intro x hx
    obtain ⟨_, _, rfl⟩ := List.mem_map.mp hx
    rfl
  unfold inL resL
  rw [res_pure rfl, if_pos hp]
  have hd : min (depths (l.map D.str)) (D.str tag).depth ≤ 150 := by simp [D.depth]
  simp only [if_pos hd]
  congr 1
  rw [Bool.eq_iff_iff]
  simp [D.eqv]
def nameOf : D → Option PySem.Str
  | .tup (.str tag :: .str nm :: _) => if tag ∈ named then some nm else none
  | _ => none
/-- a tagged part as the trees have it -/
def TagOk (p : D) : Prop := ∃ (tag : PySem.Str) (ps : List D), p = .tup (.str tag :: ps) ∧ (tag ∈ named → ∃ nm rest, ps = .str nm :: rest ∧ nm ∈ abc)
mutual
theorem tgds_mem {p : D} : ∀ {ds : List D}, p ∈ tgds ds → ∃ d ∈ ds, p ∈ tgd d
  | [], h => by cases h
  | d :: ds, h => by
    rw [tgds] at h
    rcases List.mem_append.mp h with h | h
    · exact ⟨d, List.mem_cons_self, h⟩
    · obtain ⟨x, hx, hp⟩ := tgds_mem h
      exact ⟨x, List.mem_cons_of_mem _ hx, hp⟩
end
theorem tree_tags : ∀ (h : Nat) (t : D), TreeN h t → ∀ p ∈ tgd t, TagOk p
  | 0, _, q, _, _ => q.elim
  | h + 1, t, ⟨tag, ps, e, hn, hp⟩, p, m => by
    subst e
    rw [tgd] at m
    rcases List.mem_append.mp m with m | m
    · have : p = .tup (.str tag :: ps) := by simpa [isTag] using m
      exact ⟨tag, ps, this, hn⟩
    · obtain ⟨d, hd, hm⟩ := tgds_mem m
      rcases List.mem_cons.mp hd with rfl | hd
      · cases hm
      · rcases hp d hd with ⟨i, rfl⟩ | ⟨s, rfl⟩ | q | ⟨ts, rfl, q⟩
        · cases hm
        · cases hm
        · exact tree_tags h d q p hm
        · rw [tgd] at hm
          rcases List.mem_append.mp hm with hm | hm
          · exfalso
            cases ts with
            | nil => simp [isTag] at hm
            | cons t0 ts =>
              have h0 := q t0 List.mem_cons_self
              cases h with
              | zero => exact h0.elim
              | succ h =>
                obtain ⟨tag0, ps0, e0, _⟩ := h0
                subst e0
                simp [isTag] at hm
          · obtain ⟨d', hd', hm'⟩ := tgds_mem hm
            exact tree_tags h d' (q d' hd') p hm'
end Pg
end
section
set_option Elab.async false
set_option linter.all false
set_option maxRecDepth 100000
namespace Pg
open Ev
theorem le_str {x y : PySem.Str} : (!strLt y x) = true ↔ x.cps.toList ≤ y.cps.toList := by
  unfold strLt
  rw [Bool.not_eq_true', decide_eq_false_iff_not]
  exact List.not_lt
theorem sort_perm {K K' : List PySem.Str} (h : K.Perm K') : sortedStrs K = sortedStrs K' := by
  unfold sortedStrs
  have tr : ∀ a b c : PySem.Str, (!strLt b a) = true → (!strLt c b) = true → (!strLt c a) = true := fun a b c h1 h2 => le_str.mpr (List.le_trans (le_str.mp h1) (le_str.mp h2))
  have tot : ∀ a b : PySem.Str, ((!strLt b a) || (!strLt a b)) = true := fun a b => by
    rw [Bool.or_eq_true]
    rcases List.le_total a.cps.toList b.cps.toList with h | h
    · exact .inl (le_str.mpr h)
    · exact .inr (le_str.mpr h)
  refine List.Perm.eq_of_pairwise (le := fun a b => (!strLt b a) = true) (fun a b _ _ h1 h2 => ?_) (List.pairwise_mergeSort tr tot K) (List.pairwise_mergeSort tr tot K') ?_
  · have e := List.le_antisymm (le_str.mp h1) (le_str.mp h2)
    cases a; cases b
    simp only [PySem.Str.mk.injEq]
    exact Array.toList_inj.mp e
  · exact (List.mergeSort_perm K _).trans (h.trans (List.mergeSort_perm K' _).symm)
theorem strsOf_map : ∀ K : List PySem.Str, strsOf (K.map .str) = some K
  | [] => rfl
  | x :: K => by rw [List.map_cons]; show (strsOf (K.map .str)).map (x :: ·) = _; rw [strsOf_map K]; rfl
theorem sorted_nm {S : Sto} {i : Nat} {K : List PySem.Str} (hS : S[i]? = some (dN K)) (hl : K.length ≤ 21) : bltE S .sorted [.ref i] = some (.lst ((sortedStrs K).map .str)) := by
  have h1 : Ev.listOf S (.ref i) = none := listOf_refd (by rw [hS]; rfl)
  have h2 : Ev.dictOf S (.ref i) = some (K.map .str, K.map fun _ => .bl true) := dictOf_ref (by rw [hS]; rfl)
  have h3 : K.length < 64 := by omega
  simp only [bltE, h1, h2, strsOf_map, if_pos h3]
theorem strs_pure (K : List PySem.Str) : pures (K.map D.str) = true := by
  rw [pures_all, List.all_eq_true]
  intro x hx
  obtain ⟨_, _, rfl⟩ := List.mem_map.mp hx
  rfl
theorem c_names {n : Nat} {S : Sto} {t : D} (hp : t.pure = true) (hN : nodes t ≤ 1000000) (htg : ∀ p ∈ tgd t, TagOk p) (hc : Cl S) :
    ∃ K : List PySem.Str, K.Nodup ∧ (∀ x ∈ K, x ∈ abc) ∧ (∀ x, x ∈ K ↔ ∃ p ∈ tgd t, nameOf p = some x) ∧ F (n + 2) 18 [t] S = some (.ok (.lst ((sortedStrs K).map .str)) S) := by
  rw [F, call_eq (np := 1) (ns := 3) (body := b__law_names) rfl rfl, settles_pure _ _ (by simp [pures, hp])]
  have hcD : Cl (S ++ [dN []]) := hc.app rfl
  obtain ⟨found, pf, pm, fe⟩ := c_tagged (n := n) (S := S ++ [dN []]) hp hN hcD
  simp only [F] at fe
  obtain ⟨ρ1, S1, e1, K, kv, nd, ha, hm, rfl, rfl⟩ := for_val (g := ⟨callN fns (fun _ _ => false) (n + 1), fun _ _ => false⟩) (i := 2) (e := .call 17 [(.var 0)])
    (body := [.ife (.cmp .in_ (.idx (.var 2) (.cst (.int 0))) (.tup [(.cst (.str "is")), (.cst (.str "unknown")), (.cst (.str "apply")), (.cst (.str "row"))])) [.setI (.var 1) (.idx (.var 2) (.cst (.int 1))) (.cst (.bl true))] []])
    (ρ := [some t, some (.ref S.length), none]) (S := S ++ [dN []]) (S1 := S ++ [dN []]) (dv := .lst found) (its := found)
    (P := fun k ρ S' => ∃ (K : List PySem.Str) (kv : Option D), K.Nodup ∧ (∀ x ∈ K, x ∈ abc) ∧ (∀ x, x ∈ K ↔ ∃ p ∈ found.take k, nameOf p = some x) ∧ ρ = [some t, some (.ref S.length), kv] ∧ S' = S ++ [dN K])
    (by simp only [Ev.startE, Ev.execB, Ev.x_set, Ev.x_expr, Ev.x_ret, Ev.x_ife, Ev.x_setI, Ev.x_par, Ev.setNames, Ev.evalE, Ev.evalEs, Ev.evalIfs, Ev.finish, Ev.settle, Ev.settles, Ev.guard_none, Ev.get_app, Ev.get_app0, Ev.set_app, Ev.set_app0, Ev.mutOf_r, Ev.listOf_r, Ev.dictOf_r, Ev.idx_r, Ev.idx_l, Ev.idx_f, Ev.idx_tup, Ev.mth_append, Ev.mth_pop, Ev.rcv_append, Ev.rcv_pop, Ev.rcv_extend, Ev.atI_0, Ev.atI_1, Ev.atI_2, Ev.atI_3, Ev.atI_4, Ev.add_rl, Ev.add_lr, Ev.add_ll, List.getElem?_cons_zero, bnd_ok, fe]) rfl pf ⟨[], none, List.nodup_nil, by simp, by simp, rfl, rfl⟩ (by
      rintro k p ρ S' hk ⟨K, kv, nd, ha, hm, rfl, rfl⟩
      obtain ⟨tag, ps, rfl, hn⟩ := htg p (pm.mem_iff.mp (List.mem_of_getElem? hk))
      have hget : (S ++ [dN K])[S.length]? = some (dN K) := by simp
      have hin : ∀ S, inE S (.str tag) (.tup [.str "is", .str "unknown", .str "apply", .str "row"]) = some (decide (tag ∈ named)) := fun S => by
        have := in_named (S := S) (tag := tag) (l := ["is", "unknown", "apply", "row"])
        rw [List.map_cons, List.map_cons, List.map_cons, List.map_cons, List.map_nil] at this
        rw [this]
        congr 1
        rw [Bool.eq_iff_iff]
        simp only [decide_eq_true_eq, named, List.mem_cons, List.not_mem_nil, or_false]
        exact ⟨fun h => by rcases h with h | h | h | h <;> simp [h], fun h => by rcases h with h | h | h | h <;> simp [h]⟩
      have htk : found.take (k + 1) = found.take k ++ [.tup (.str tag :: ps)] := by
        obtain ⟨hlt, e⟩ := List.getElem?_eq_some_iff.mp hk
        rw [List.take_succ, hk]; rfl
      by_cases hg : tag ∈ named
      · obtain ⟨nm, rest, rfl, hab⟩ := hn hg
        refine ⟨_, _, ?_, ins K nm, some (.tup (.str tag :: .str nm :: rest)), ins_nd nd, fun x hx => ?_, fun x => ?_, rfl, rfl⟩
        · have hsi := setI_nm (nm := nm) hget (short nd ha)
          have hset : (S ++ [dN K]).set S.length (dN (ins K nm)) = S ++ [dN (ins K nm)] := by rw [set_app0]; rfl
          rw [hset] at hsi
          simp only [Ev.startE, Ev.execB, Ev.x_set, Ev.x_expr, Ev.x_ret, Ev.x_ife, Ev.x_setI, Ev.x_par, Ev.setNames, Ev.evalE, Ev.evalEs, Ev.evalIfs, Ev.finish, Ev.settle, Ev.settles, Ev.guard_none, Ev.get_app, Ev.get_app0, Ev.set_app, Ev.set_app0, Ev.mutOf_r, Ev.listOf_r, Ev.dictOf_r, Ev.idx_r, Ev.idx_l, Ev.idx_f, Ev.idx_tup, Ev.mth_append, Ev.mth_pop, Ev.rcv_append, Ev.rcv_pop, Ev.rcv_extend, Ev.atI_0, Ev.atI_1, Ev.atI_2, Ev.atI_3, Ev.atI_4, Ev.add_rl, Ev.add_lr, Ev.add_ll, List.set_cons_succ, List.set_cons_zero, List.getElem?_cons_succ, List.getElem?_cons_zero, bnd_ok, Option.map_some, cmp_in, hin, hg, decide_true, tests_ok, truth_bl, if_true, bndS_ok, hsi, seqS_nx]
        · rcases ins_mem.mp hx with h | rfl
          · exact ha x h
          · exact hab
        · rw [ins_mem, hm x, htk]
          have hno : nameOf (.tup (.str tag :: .str nm :: rest)) = some nm := by simp [nameOf, hg]
          constructor
          · rintro (⟨p, h1, h2⟩ | rfl)
            · exact ⟨p, List.mem_append_left _ h1, h2⟩
            · exact ⟨_, List.mem_append_right _ (by simp), hno⟩
          · rintro ⟨p, h1, h2⟩
            rcases List.mem_append.mp h1 with h1 | h1
            · exact .inl ⟨p, h1, h2⟩
            · have : p = .tup (.str tag :: .str nm :: rest) := by simpa using h1
              subst this
              rw [hno] at h2
              exact .inr (Option.some.inj h2).symm
      · refine ⟨_, _, ?_, K, some (.tup (.str tag :: ps)), nd, ha, fun x => ?_, rfl, rfl⟩
        · simp only [Ev.startE, Ev.execB, Ev.x_set, Ev.x_expr, Ev.x_ret, Ev.x_ife, Ev.x_setI, Ev.x_par, Ev.setNames, Ev.evalE, Ev.evalEs, Ev.evalIfs, Ev.finish, Ev.settle, Ev.settles, Ev.guard_none, Ev.get_app, Ev.get_app0, Ev.set_app, Ev.set_app0, Ev.mutOf_r, Ev.listOf_r, Ev.dictOf_r, Ev.idx_r, Ev.idx_l, Ev.idx_f, Ev.idx_tup, Ev.mth_append, Ev.mth_pop, Ev.rcv_append, Ev.rcv_pop, Ev.rcv_extend, Ev.atI_0, Ev.atI_1, Ev.atI_2, Ev.atI_3, Ev.atI_4, Ev.add_rl, Ev.add_lr, Ev.add_ll, List.set_cons_succ, List.set_cons_zero, List.getElem?_cons_succ, List.getElem?_cons_zero, bnd_ok, Option.map_some, cmp_in, hin, hg, decide_false, tests_ok, truth_bl, if_false, Bool.false_eq_true, seqS_nx]
        · rw [hm x, htk]
          have hno : nameOf (.tup (.str tag :: ps)) = none := by
            unfold nameOf
            split
            · rename_i h; cases h; rw [if_neg hg]
            · rfl
          constructor
          · rintro ⟨p, h1, h2⟩
            exact ⟨p, List.mem_append_left _ h1, h2⟩
          · rintro ⟨p, h1, h2⟩
            rcases List.mem_append.mp h1 with h1 | h1
            · exact ⟨p, h1, h2⟩
            · have : p = .tup (.str tag :: ps) := by simpa using h1
              subst this
              rw [hno] at h2; cases h2)
  refine ⟨K, nd, ha, fun x => ?_, ?_⟩
  · rw [hm x, List.take_length]
    exact ⟨fun ⟨p, h1, h2⟩ => ⟨p, pm.mem_iff.mp h1, h2⟩, fun ⟨p, h1, h2⟩ => ⟨p, pm.mem_iff.mpr h1, h2⟩⟩
  · have hget : (S ++ [dN K])[S.length]? = some (dN K) := by simp
    have hso := sorted_nm hget (short nd ha)
    refine (fin_go (d := .lst ((sortedStrs K).map .str)) (S1 := S ++ [dN K]) (go (ρ1 := [some t, some (.ref S.length), none]) (S1 := S ++ [dN []]) (by simp [Ev.startE, Ev.execB, Ev.x_set, Ev.x_expr, Ev.x_ret, Ev.x_ife, Ev.x_setI, Ev.x_par, Ev.setNames, Ev.evalE, Ev.evalEs, Ev.evalIfs, Ev.finish, Ev.settle, Ev.settles, Ev.guard_none, Ev.get_app, Ev.get_app0, Ev.set_app, Ev.set_app0, Ev.mutOf_r, Ev.listOf_r, Ev.dictOf_r, Ev.idx_r, Ev.idx_l, Ev.idx_f, Ev.idx_tup, Ev.mth_append, Ev.mth_pop, Ev.rcv_append, Ev.rcv_pop, Ev.rcv_extend, Ev.atI_0, Ev.atI_1, Ev.atI_2, Ev.atI_3, Ev.atI_4, Ev.add_rl, Ev.add_lr, Ev.add_ll, dN]) (go e1 (goR (by simp only [Ev.startE, Ev.execB, Ev.x_set, Ev.x_expr, Ev.x_ret, Ev.x_ife, Ev.x_setI, Ev.x_par, Ev.setNames, Ev.evalE, Ev.evalEs, Ev.evalIfs, Ev.finish, Ev.settle, Ev.settles, Ev.guard_none, Ev.get_app, Ev.get_app0, Ev.set_app, Ev.set_app0, Ev.mutOf_r, Ev.listOf_r, Ev.dictOf_r, Ev.idx_r, Ev.idx_l, Ev.idx_f, Ev.idx_tup, Ev.mth_append, Ev.mth_pop, Ev.rcv_append, Ev.rcv_pop, Ev.rcv_extend, Ev.atI_0, Ev.atI_1, Ev.atI_2, Ev.atI_3, Ev.atI_4, Ev.add_rl, Ev.add_lr, Ev.add_ll, List.getElem?_cons_succ, List.getElem?_cons_zero, bnd_ok, hso, Option.map_some, bndS_ok]))))).trans (leave_own hc (strs_pure _))
end Pg
end
section
set_option Elab.async false
set_option linter.all false
set_option maxRecDepth 100000
namespace Pg
open Ev
theorem sl_rest {S : Sto} {a : D} {ps : List D} : slE S (.tup (a :: ps)) (.int 1) .non = some (.tup ps) := by
  simp [slE, sIx, cut]
def NmIn (x : PySem.Str) (d : D) : Prop := ∃ p ∈ tgd d, nameOf p = some x
theorem nm_tgds {x : PySem.Str} {ds : List D} : (∃ p ∈ tgds ds, nameOf p = some x) ↔ ∃ d ∈ ds, NmIn x d := by
  constructor
  · rintro ⟨p, h1, h2⟩
    obtain ⟨d, hd, hm⟩ := tgds_mem h1
    exact ⟨d, hd, p, hm, h2⟩
  · rintro ⟨d, hd, p, hm, h2⟩
    refine ⟨p, ?_, h2⟩
    induction ds with
    | nil => cases hd
    | cons e ds ih =>
      rw [tgds]
      rcases List.mem_cons.mp hd with rfl | hd
      · exact List.mem_append_left _ hm
      · exact List.mem_append_right _ (ih hd)
/-- what is promised of put_names -/
def CP (h : Nat) : Prop := ∀ (t : D), TreeN h t → ∀ (n : Nat) (S : Sto) (i : Nat) (K : List PySem.Str), h ≤ n → Cl S → S[i]? = some (dN K) → K.Nodup → (∀ x ∈ K, x ∈ abc) →
  ∃ K' : List PySem.Str, K'.Nodup ∧ (∀ x ∈ K', x ∈ abc) ∧ (∀ x, x ∈ K' ↔ x ∈ K ∨ NmIn x t) ∧ F n 0 [t, .ref i] S = some (.ok .non (S.set i (dN K')))
/-- one call -/
theorem put_one {g : G} {ρ : Env} {S : Sto} {i j n : Nat} {t : D} {K' : List PySem.Str} (hg : g.F = callN fns (fun _ _ => false) n) (hj : ρ[j]? = some (some t)) (h1 : ρ[1]? = some (some (.ref i))) (fe : F n 0 [t, .ref i] S = some (.ok .non (S.set i (dN K')))) :
    execB g [.expr (.call 0 [(.var j), (.var 1)])] ρ S = some (.nx ρ, S.set i (dN K')) := by
  simp only [F] at fe
  simp only [Ev.startE, Ev.execB, Ev.x_set, Ev.x_expr, Ev.x_ret, Ev.x_ife, Ev.x_setI, Ev.x_par, Ev.setNames, Ev.evalE, Ev.evalEs, Ev.evalIfs, Ev.finish, Ev.settle, Ev.settles, Ev.guard_none, Ev.get_app, Ev.get_app0, Ev.set_app, Ev.set_app0, Ev.mutOf_r, Ev.listOf_r, Ev.dictOf_r, Ev.idx_r, Ev.idx_l, Ev.idx_f, Ev.idx_tup, Ev.mth_append, Ev.mth_pop, Ev.rcv_append, Ev.rcv_pop, Ev.rcv_extend, Ev.atI_0, Ev.atI_1, Ev.atI_2, Ev.atI_3, Ev.atI_4, Ev.add_rl, Ev.add_lr, Ev.add_ll, hj, h1, bnd_ok, hg, fe, bndS_ok, seqS_nx]
theorem c_put (h : Nat) (ih : CP h) : CP (h + 1) := by
  intro t ht n S i K hn hc hS nd ha
  have hpure := treeN_pure _ _ ht
  obtain ⟨tag, ps, rfl, hnm, hps⟩ := ht
  obtain ⟨m, rfl⟩ : ∃ m, n = m + 1 := ⟨n - 1, by omega⟩
  have pps : pures ps = true := by
    unfold D.pure pures at hpure
    exact (Bool.and_eq_true_iff.mp hpure).2
  have hset : settles [.tup (.str tag :: ps), .ref i] S = ([.tup (.str tag :: ps), .ref i], S) := by
    simp [settles, settle, settles_pure _ _ pps]
  rw [F, call_eq (np := 2) (ns := 4) (body := b_put_names) rfl rfl, hset]
  have hin : ∀ S, inE S (.str tag) (.tup [.str "unknown", .str "is", .str "apply", .str "row"]) = some (decide (tag ∈ named)) := fun S => by
    have := in_named (S := S) (tag := tag) (l := named)
    simpa [named] using this
  -- the first statement
  obtain ⟨K1, nd1, ha1, hm1, e1⟩ : ∃ K1 : List PySem.Str, K1.Nodup ∧ (∀ x ∈ K1, x ∈ abc) ∧ (∀ x, x ∈ K1 ↔ x ∈ K ∨ nameOf (.tup (.str tag :: ps)) = some x) ∧
      execS ⟨callN fns (fun _ _ => false) m, fun _ _ => false⟩ (.ife (.cmp .in_ (.idx (.var 0) (.cst (.int 0))) (.tup [(.cst (.str "unknown")), (.cst (.str "is")), (.cst (.str "apply")), (.cst (.str "row"))])) [.setI (.var 1) (.idx (.var 0) (.cst (.int 1))) (.cst (.bl true))] []) [some (.tup (.str tag :: ps)), some (.ref i), none, none] S =
        some (.nx [some (.tup (.str tag :: ps)), some (.ref i), none, none], S.set i (dN K1)) := by
    by_cases hg : tag ∈ named
    · obtain ⟨nm, rest, rfl, hab⟩ := hnm hg
      have hno : nameOf (.tup (.str tag :: .str nm :: rest)) = some nm := by simp [nameOf, hg]
      refine ⟨ins K nm, ins_nd nd, fun x hx => ?_, fun x => ?_, ?_⟩
      · rcases ins_mem.mp hx with h | rfl
        · exact ha x h
        · exact hab
      · rw [ins_mem, hno]
        exact or_congr Iff.rfl ⟨fun h => by rw [h], fun h => (Option.some.inj h).symm⟩
      · have hsi := setI_nm (nm := nm) hS (short nd ha)
        simp only [Ev.startE, Ev.execB, Ev.x_set, Ev.x_expr, Ev.x_ret, Ev.x_ife, Ev.x_setI, Ev.x_par, Ev.setNames, Ev.evalE, Ev.evalEs, Ev.evalIfs, Ev.finish, Ev.settle, Ev.settles, Ev.guard_none, Ev.get_app, Ev.get_app0, Ev.set_app, Ev.set_app0, Ev.mutOf_r, Ev.listOf_r, Ev.dictOf_r, Ev.idx_r, Ev.idx_l, Ev.idx_f, Ev.idx_tup, Ev.mth_append, Ev.mth_pop, Ev.rcv_append, Ev.rcv_pop, Ev.rcv_extend, Ev.atI_0, Ev.atI_1, Ev.atI_2, Ev.atI_3, Ev.atI_4, Ev.add_rl, Ev.add_lr, Ev.add_ll, List.getElem?_cons_succ, List.getElem?_cons_zero, bnd_ok, Option.map_some, cmp_in, hin, hg, decide_true, tests_ok, truth_bl, if_true, bndS_ok, hsi, seqS_nx]
    · have hno : nameOf (.tup (.str tag :: ps)) = none := by
        unfold nameOf
        split
        · rename_i h; cases h; rw [if_neg hg]
        · rfl
      refine ⟨K, nd, ha, fun x => by rw [hno]; simp, ?_⟩
      rw [set_same hS]
      simp only [Ev.startE, Ev.execB, Ev.x_set, Ev.x_expr, Ev.x_ret, Ev.x_ife, Ev.x_setI, Ev.x_par, Ev.setNames, Ev.evalE, Ev.evalEs, Ev.evalIfs, Ev.finish, Ev.settle, Ev.settles, Ev.guard_none, Ev.get_app, Ev.get_app0, Ev.set_app, Ev.set_app0, Ev.mutOf_r, Ev.listOf_r, Ev.dictOf_r, Ev.idx_r, Ev.idx_l, Ev.idx_f, Ev.idx_tup, Ev.mth_append, Ev.mth_pop, Ev.rcv_append, Ev.rcv_pop, Ev.rcv_extend, Ev.atI_0, Ev.atI_1, Ev.atI_2, Ev.atI_3, Ev.atI_4, Ev.add_rl, Ev.add_lr, Ev.add_ll, List.getElem?_cons_succ, List.getElem?_cons_zero, bnd_ok, Option.map_some, cmp_in, hin, hg, decide_false, tests_ok, truth_bl, if_false, Bool.false_eq_true]
  obtain ⟨ρ2, S2, e2, K2, kv, kv3, nd2, ha2, hm2, rfl, rfl⟩ := for_val (g := ⟨callN fns (fun _ _ => false) m, fun _ _ => false⟩) (i := 2) (e := .sl (.var 0) (.cst (.int 1)) (.cst .non))
    (body := [.ife (.isi (.var 2) [.tuple]) [.ife (.and (.cmp .ne (.var 2) (.tup [])) (.isi (.idx (.var 2) (.cst (.int 0))) [.str])) [.expr (.call 0 [(.var 2), (.var 1)])] [.for_ (.nm 3) .val [(.var 2)] [.expr (.call 0 [(.var 3), (.var 1)])]]] []])
    (ρ := [some (.tup (.str tag :: ps)), some (.ref i), none, none]) (S := S.set i (dN K1)) (S1 := S.set i (dN K1)) (dv := .tup ps) (its := ps)
    (P := fun k ρ S' => ∃ (K' : List PySem.Str) (kv kv3 : Option D), K'.Nodup ∧ (∀ x ∈ K', x ∈ abc) ∧ (∀ x, x ∈ K' ↔ x ∈ K1 ∨ ∃ d ∈ ps.take k, NmIn x d) ∧ ρ = [some (.tup (.str tag :: ps)), some (.ref i), kv, kv3] ∧ S' = S.set i (dN K'))
    (by simp only [Ev.startE, Ev.execB, Ev.x_set, Ev.x_expr, Ev.x_ret, Ev.x_ife, Ev.x_setI, Ev.x_par, Ev.setNames, Ev.evalE, Ev.evalEs, Ev.evalIfs, Ev.finish, Ev.settle, Ev.settles, Ev.guard_none, Ev.get_app, Ev.get_app0, Ev.set_app, Ev.set_app0, Ev.mutOf_r, Ev.listOf_r, Ev.dictOf_r, Ev.idx_r, Ev.idx_l, Ev.idx_f, Ev.idx_tup, Ev.mth_append, Ev.mth_pop, Ev.rcv_append, Ev.rcv_pop, Ev.rcv_extend, Ev.atI_0, Ev.atI_1, Ev.atI_2, Ev.atI_3, Ev.atI_4, Ev.add_rl, Ev.add_lr, Ev.add_ll, List.getElem?_cons_zero, bnd_ok, isPart, if_true, sl_rest, Option.map_some]) rfl pps ⟨K1, none, none, nd1, ha1, by simp, rfl, rfl⟩ (by
      rintro k p ρ S' hk ⟨K', kv, kv3, nd', ha', hm', rfl, rfl⟩
      have htk : ps.take (k + 1) = ps.take k ++ [p] := by rw [List.take_succ, hk]; rfl
      have memk : ∀ x, (∃ d ∈ ps.take (k + 1), NmIn x d) ↔ (∃ d ∈ ps.take k, NmIn x d) ∨ NmIn x p := fun x => by
        rw [htk]
        constructor
        · rintro ⟨d, hd, hx⟩
          rcases List.mem_append.mp hd with hd | hd
          · exact .inl ⟨d, hd, hx⟩
          · have : d = p := by simpa using hd
            subst this; exact .inr hx
        · rintro (⟨d, hd, hx⟩ | hx)
          · exact ⟨d, List.mem_append_left _ hd, hx⟩
          · exact ⟨p, List.mem_append_right _ (by simp), hx⟩
      have hSk : (S.set i (dN K'))[i]? = some (dN K') := get_set hS
      have hck : Cl (S.set i (dN K')) := hc.set (dN_under _ _)
      have scal : (∀ x, ¬ NmIn x p) → isTys (fun _ _ => false) (S.set i (dN K')) p [.tuple] = some false → ∃ ρ' S'', execB ⟨callN fns (fun _ _ => false) m, fun _ _ => false⟩ [.ife (.isi (.var 2) [.tuple]) [.ife (.and (.cmp .ne (.var 2) (.tup [])) (.isi (.idx (.var 2) (.cst (.int 0))) [.str])) [.expr (.call 0 [(.var 2), (.var 1)])] [.for_ (.nm 3) .val [(.var 2)] [.expr (.call 0 [(.var 3), (.var 1)])]]] []] [some (.tup (.str tag :: ps)), some (.ref i), some p, kv3] (S.set i (dN K')) = some (.nx ρ', S'') ∧
          ∃ (K'' : List PySem.Str) (kv kv3 : Option D), K''.Nodup ∧ (∀ x ∈ K'', x ∈ abc) ∧ (∀ x, x ∈ K'' ↔ x ∈ K1 ∨ ∃ d ∈ ps.take (k + 1), NmIn x d) ∧ ρ' = [some (.tup (.str tag :: ps)), some (.ref i), kv, kv3] ∧ S'' = S.set i (dN K'') := fun hno hi => by
        refine ⟨_, _, ?_, K', some p, kv3, nd', ha', fun x => ?_, rfl, rfl⟩
        · simp only [Ev.startE, Ev.execB, Ev.x_set, Ev.x_expr, Ev.x_ret, Ev.x_ife, Ev.x_setI, Ev.x_par, Ev.setNames, Ev.evalE, Ev.evalEs, Ev.evalIfs, Ev.finish, Ev.settle, Ev.settles, Ev.guard_none, Ev.get_app, Ev.get_app0, Ev.set_app, Ev.set_app0, Ev.mutOf_r, Ev.listOf_r, Ev.dictOf_r, Ev.idx_r, Ev.idx_l, Ev.idx_f, Ev.idx_tup, Ev.mth_append, Ev.mth_pop, Ev.rcv_append, Ev.rcv_pop, Ev.rcv_extend, Ev.atI_0, Ev.atI_1, Ev.atI_2, Ev.atI_3, Ev.atI_4, Ev.add_rl, Ev.add_lr, Ev.add_ll, List.getElem?_cons_succ, List.getElem?_cons_zero, bnd_ok, hi, Option.map_some, tests_ok, truth_bl, if_false, Bool.false_eq_true, seqS_nx]
        · rw [hm' x, memk x]
          exact or_congr Iff.rfl ⟨.inl, fun h => h.elim id fun h => absurd h (hno x)⟩
      show ∃ ρ' S'', execB _ _ [some (.tup (.str tag :: ps)), some (.ref i), some p, kv3] (S.set i (dN K')) = _ ∧ _
      rcases hps p (List.mem_of_getElem? hk) with ⟨j, rfl⟩ | ⟨s, rfl⟩ | q | ⟨ts, rfl, q⟩
      · exact scal (fun x ⟨p, h, _⟩ => by cases h) rfl
      · exact scal (fun x ⟨p, h, _⟩ => by cases h) rfl
      · obtain ⟨K'', nd'', ha'', hm'', fe⟩ := ih p q m _ i K' (by omega) hck hSk nd' ha'
        rw [List.set_set] at fe
        have hpp := treeN_pure _ _ q
        obtain ⟨tg0, ps0, e0⟩ : ∃ tg0 ps0, p = .tup (.str tg0 :: ps0) := by
          cases h with
          | zero => exact q.elim
          | succ h => obtain ⟨a, b, e, _⟩ := q; exact ⟨a, b, e⟩
        subst e0
        have tt := tag_test (g := ⟨callN fns (fun _ _ => false) m, fun _ _ => false⟩) (ρ := [some (.tup (.str tag :: ps)), some (.ref i), some (.tup (.str tg0 :: ps0)), kv3]) (S := S.set i (dN K')) (i := 2) rfl (by unfold D.pure at hpp; exact hpp)
        refine ⟨[some (.tup (.str tag :: ps)), some (.ref i), some (.tup (.str tg0 :: ps0)), kv3], S.set i (dN K''), ?_, K'', _, kv3, nd'', ha'', fun x => ?_, rfl, rfl⟩
        · refine go (ρ1 := [some (.tup (.str tag :: ps)), some (.ref i), some (.tup (.str tg0 :: ps0)), kv3]) (S1 := S.set i (dN K'')) ?_ execB_nil
          rw [x_ife]
          simp only [Ev.evalE, List.getElem?_cons_succ, List.getElem?_cons_zero, bnd_ok, isi_tup_tuple, Option.map_some, tests_ok, truth_bl, if_true]
          refine go (ρ1 := [some (.tup (.str tag :: ps)), some (.ref i), some (.tup (.str tg0 :: ps0)), kv3]) (S1 := S.set i (dN K'')) ?_ execB_nil
          rw [x_ife, tt, tests_ok, truth_bl]
          have e0 : S.set i (dN K'') = (S.set i (dN K')).set i (dN K'') := by rw [List.set_set]
          rw [e0] at fe ⊢
          exact put_one (n := m) rfl rfl rfl fe
        · rw [hm'' x, hm' x, memk x, or_assoc]
      · have hpt : pures ts = true := by
          rw [pures_all, List.all_eq_true]
          exact fun t mt => treeN_pure _ _ (q t mt)
        have hnt : isTag ts = false := by
          cases ts with
          | nil => rfl
          | cons t0 ts =>
            have h0 := q t0 List.mem_cons_self
            cases h with
            | zero => exact h0.elim
            | succ h => obtain ⟨a, b, e, _⟩ := h0; subst e; rfl
        have tt := tag_test (g := ⟨callN fns (fun _ _ => false) m, fun _ _ => false⟩) (ρ := [some (.tup (.str tag :: ps)), some (.ref i), some (.tup ts), kv3]) (S := S.set i (dN K')) (i := 2) rfl hpt
        rw [hnt] at tt
        obtain ⟨ρ3, S3, e3, K3, kv4, nd3, ha3, hm3, rfl, rfl⟩ := for_val (g := ⟨callN fns (fun _ _ => false) m, fun _ _ => false⟩) (i := 3) (e := .var 2) (body := [.expr (.call 0 [(.var 3), (.var 1)])])
          (ρ := [some (.tup (.str tag :: ps)), some (.ref i), some (.tup ts), kv3]) (S := S.set i (dN K')) (S1 := S.set i (dN K')) (dv := .tup ts) (its := ts)
          (P := fun k ρ S' => ∃ (K'' : List PySem.Str) (kv : Option D), K''.Nodup ∧ (∀ x ∈ K'', x ∈ abc) ∧ (∀ x, x ∈ K'' ↔ x ∈ K' ∨ ∃ d ∈ ts.take k, NmIn x d) ∧ ρ = [some (.tup (.str tag :: ps)), some (.ref i), some (.tup ts), kv] ∧ S' = S.set i (dN K''))
          (by simp only [Ev.startE, Ev.execB, Ev.x_set, Ev.x_expr, Ev.x_ret, Ev.x_ife, Ev.x_setI, Ev.x_par, Ev.setNames, Ev.evalE, Ev.evalEs, Ev.evalIfs, Ev.finish, Ev.settle, Ev.settles, Ev.guard_none, Ev.get_app, Ev.get_app0, Ev.set_app, Ev.set_app0, Ev.mutOf_r, Ev.listOf_r, Ev.dictOf_r, Ev.idx_r, Ev.idx_l, Ev.idx_f, Ev.idx_tup, Ev.mth_append, Ev.mth_pop, Ev.rcv_append, Ev.rcv_pop, Ev.rcv_extend, Ev.atI_0, Ev.atI_1, Ev.atI_2, Ev.atI_3, Ev.atI_4, Ev.add_rl, Ev.add_lr, Ev.add_ll, List.getElem?_cons_succ, List.getElem?_cons_zero]) rfl hpt ⟨K', kv3, nd', ha', by simp, rfl, rfl⟩ (by
            rintro k2 t2 ρ S' hk2 ⟨K'', kv5, nd'', ha'', hm'', rfl, rfl⟩
            obtain ⟨K4, nd4, ha4, hm4, fe⟩ := ih t2 (q t2 (List.mem_of_getElem? hk2)) m _ i K'' (by omega) (hc.set (dN_under _ _)) (get_set hS) nd'' ha''
            refine ⟨_, _, put_one (n := m) rfl rfl rfl fe, K4, some t2, nd4, ha4, fun x => ?_, rfl, by rw [List.set_set]⟩
            have htk2 : ts.take (k2 + 1) = ts.take k2 ++ [t2] := by rw [List.take_succ, hk2]; rfl
            rw [hm4 x, hm'' x, htk2, or_assoc]
            refine or_congr Iff.rfl ?_
            constructor
            · rintro (⟨d, hd, hx⟩ | hx)
              · exact ⟨d, List.mem_append_left _ hd, hx⟩
              · exact ⟨t2, List.mem_append_right _ (by simp), hx⟩
            · rintro ⟨d, hd, hx⟩
              rcases List.mem_append.mp hd with hd | hd
              · exact .inl ⟨d, hd, hx⟩
              · have : d = t2 := by simpa using hd
                subst this; exact .inr hx)
        refine ⟨[some (.tup (.str tag :: ps)), some (.ref i), some (.tup ts), kv4], S.set i (dN K3), ?_, K3, some (.tup ts), kv4, nd3, ha3, fun x => ?_, rfl, rfl⟩
        · refine go (ρ1 := [some (.tup (.str tag :: ps)), some (.ref i), some (.tup ts), kv4]) (S1 := S.set i (dN K3)) ?_ execB_nil
          rw [x_ife]
          simp only [Ev.evalE, List.getElem?_cons_succ, List.getElem?_cons_zero, bnd_ok, isi_tup_tuple, Option.map_some, tests_ok, truth_bl, if_true]
          refine go (ρ1 := [some (.tup (.str tag :: ps)), some (.ref i), some (.tup ts), kv4]) (S1 := S.set i (dN K3)) ?_ execB_nil
          rw [x_ife, tt, tests_ok, truth_bl]
          exact go e3 execB_nil
        · rw [hm3 x, hm' x, memk x, List.take_length, or_assoc]
          refine or_congr Iff.rfl (or_congr Iff.rfl ?_)
          show _ ↔ ∃ p ∈ tgd (.tup ts), nameOf p = some x
          rw [tgd, hnt, ← nm_tgds]
          simp)
  refine ⟨K2, nd2, ha2, fun x => ?_, ?_⟩
  · rw [hm2 x, hm1 x, List.take_length, or_assoc]
    refine or_congr Iff.rfl ?_
    show _ ↔ ∃ p ∈ tgd (.tup (.str tag :: ps)), nameOf p = some x
    have hsplit : tgd (.tup (.str tag :: ps)) = .tup (.str tag :: ps) :: tgds ps := by
      rw [tgd, tgds]; rfl
    rw [hsplit]
    constructor
    · rintro (h | h)
      · exact ⟨_, List.mem_cons_self, h⟩
      · obtain ⟨p, h1, h2⟩ := nm_tgds.mpr h
        exact ⟨p, List.mem_cons_of_mem _ h1, h2⟩
    · rintro ⟨p, h1, h2⟩
      rcases List.mem_cons.mp h1 with rfl | h1
      · exact .inl h2
      · exact .inr (nm_tgds.mp ⟨p, h1, h2⟩)
  · exact (fin_nx (go e1 (go e2 execB_nil))).trans (leave_set0 hc (dN_under _ _) rfl)
theorem c_puts : ∀ h, CP h
  | 0 => fun t ht => ht.elim
  | h + 1 => c_put h (c_puts h)
end Pg
end
section
set_option Elab.async false
set_option linter.all false
set_option maxRecDepth 100000
namespace Pg
open Ev
theorem c_namesIn {n h : Nat} {S : Sto} {t : D} (ht : TreeN h t) (hn : h ≤ n) (hc : Cl S) :
    ∃ K : List PySem.Str, K.Nodup ∧ (∀ x ∈ K, x ∈ abc) ∧ (∀ x, x ∈ K ↔ NmIn x t) ∧ F (n + 1) 1 [t] S = some (.ok (.lst ((sortedStrs K).map .str)) S) := by
  have hp := treeN_pure _ _ ht
  rw [F, call_eq (np := 1) (ns := 2) (body := b_names_in) rfl rfl, settles_pure _ _ (by simp [pures, hp])]
  have hget0 : (S ++ [dN []])[S.length]? = some (dN []) := by simp
  obtain ⟨K, nd, ha, hm, fe⟩ := c_puts h t ht n (S ++ [dN []]) S.length [] hn (hc.app rfl) hget0 List.nodup_nil (by simp)
  have hset : (S ++ [dN []]).set S.length (dN K) = S ++ [dN K] := by rw [set_app0]; rfl
  rw [hset] at fe
  have hget : (S ++ [dN K])[S.length]? = some (dN K) := by simp
  have hso := sorted_nm hget (short nd ha)
  simp only [F] at fe
  refine ⟨K, nd, ha, fun x => by rw [hm x]; simp, ?_⟩
  refine (fin_go (d := .lst ((sortedStrs K).map .str)) (S1 := S ++ [dN K]) (go (ρ1 := [some t, some (.ref S.length)]) (S1 := S ++ [dN []]) (by simp [Ev.startE, Ev.execB, Ev.x_set, Ev.x_expr, Ev.x_ret, Ev.x_ife, Ev.x_setI, Ev.x_par, Ev.setNames, Ev.evalE, Ev.evalEs, Ev.evalIfs, Ev.finish, Ev.settle, Ev.settles, Ev.guard_none, Ev.get_app, Ev.get_app0, Ev.set_app, Ev.set_app0, Ev.mutOf_r, Ev.listOf_r, Ev.dictOf_r, Ev.idx_r, Ev.idx_l, Ev.idx_f, Ev.idx_tup, Ev.mth_append, Ev.mth_pop, Ev.rcv_append, Ev.rcv_pop, Ev.rcv_extend, Ev.atI_0, Ev.atI_1, Ev.atI_2, Ev.atI_3, Ev.atI_4, Ev.add_rl, Ev.add_lr, Ev.add_ll, dN]) (go (ρ1 := [some t, some (.ref S.length)]) (S1 := S ++ [dN K]) ?_ (goR ?_)))).trans (leave_own hc (strs_pure _))
  · simp only [Ev.startE, Ev.execB, Ev.x_set, Ev.x_expr, Ev.x_ret, Ev.x_ife, Ev.x_setI, Ev.x_par, Ev.setNames, Ev.evalE, Ev.evalEs, Ev.evalIfs, Ev.finish, Ev.settle, Ev.settles, Ev.guard_none, Ev.get_app, Ev.get_app0, Ev.set_app, Ev.set_app0, Ev.mutOf_r, Ev.listOf_r, Ev.dictOf_r, Ev.idx_r, Ev.idx_l, Ev.idx_f, Ev.idx_tup, Ev.mth_append, Ev.mth_pop, Ev.rcv_append, Ev.rcv_pop, Ev.rcv_extend, Ev.atI_0, Ev.atI_1, Ev.atI_2, Ev.atI_3, Ev.atI_4, Ev.add_rl, Ev.add_lr, Ev.add_ll, List.getElem?_cons_succ, List.getElem?_cons_zero, bnd_ok, fe, bndS_ok]
  · simp only [Ev.startE, Ev.execB, Ev.x_set, Ev.x_expr, Ev.x_ret, Ev.x_ife, Ev.x_setI, Ev.x_par, Ev.setNames, Ev.evalE, Ev.evalEs, Ev.evalIfs, Ev.finish, Ev.settle, Ev.settles, Ev.guard_none, Ev.get_app, Ev.get_app0, Ev.set_app, Ev.set_app0, Ev.mutOf_r, Ev.listOf_r, Ev.dictOf_r, Ev.idx_r, Ev.idx_l, Ev.idx_f, Ev.idx_tup, Ev.mth_append, Ev.mth_pop, Ev.rcv_append, Ev.rcv_pop, Ev.rcv_extend, Ev.atI_0, Ev.atI_1, Ev.atI_2, Ev.atI_3, Ev.atI_4, Ev.add_rl, Ev.add_lr, Ev.add_ll, List.getElem?_cons_succ, List.getElem?_cons_zero, bnd_ok, hso, Option.map_some, bndS_ok]
/-- both ways to the names agree -/
theorem names_eq {K K' : List PySem.Str} {t : D} (n1 : K.Nodup) (n2 : K'.Nodup) (h1 : ∀ x, x ∈ K ↔ NmIn x t) (h2 : ∀ x, x ∈ K' ↔ ∃ p ∈ tgd t, nameOf p = some x) : sortedStrs K = sortedStrs K' :=
  sort_perm ((List.perm_ext_iff_of_nodup n1 n2).mpr fun x => (h1 x).trans (h2 x).symm)
theorem compL_fl {α : Type} {S : Sto} {f : α → D} {lk : Option (Nat × List D)} {F : D → Sto → Option (R (Option D))} {v : α → D} (hk : ∀ (x : Option (List D × Sto)), guardS lk S x = x) : ∀ (rs : List α), (∀ r ∈ rs, F (f r) S = some (.ok (some (v r)) S)) → compL lk F (rs.map f) S = some (rs.map v, S)
  | [], _ => by rw [List.map_nil, compL, hk]; rfl
  | r :: rs, h => by
    rw [List.map_cons, compL, hk, h r List.mem_cons_self, bndN_ok, compL_fl hk rs fun x m => h x (List.mem_cons_of_mem _ m), Option.map_some]
    rfl
def szs (ts : List D) : Int := ((ts.map fun t => (tgd t).length).sum : Nat)
theorem size_ret {n : Nat} {S : Sto} {dv : D} {ts : List D} {lk : Option (Nat × List D)} (hi : itemsOf S .val [dv] = some (ts, lk)) (hk : ∀ (x : Option (List D × Sto)), guardS lk S x = x) (hp : pures ts = true) (hd : ∀ t ∈ ts, t.depth < n) (hc : Cl S) :
    execB ⟨callN fns (fun _ _ => false) n, fun _ _ => false⟩ b_size_of [some dv, none] S = some (.ret (.int (szs ts)), S) := by
  have hps := hp
  rw [pures_all, List.all_eq_true] at hps
  have hcomp : evalE ⟨callN fns (fun _ _ => false) n, fun _ _ => false⟩ (.comp (.nm 1) .val [(.var 0)] [] (.call 2 [(.var 1)])) [some dv, none] S = some (.ok (.lst (ts.map fun t => D.int (tgd t).length)) S) := by
    rw [evalE, evalEs, evalE]
    simp only [List.getElem?_cons_zero, bnd_ok, evalEs, hi]
    have e := compL_fl (f := fun d : D => d) (v := fun t => D.int (tgd t).length) (F := fun d S => match setTg (.nm 1) d [some dv, none] S with
        | some (ρ', S) => bnd (evalIfs ⟨callN fns (fun _ _ => false) n, fun _ _ => false⟩ [] ρ' S) fun b S => if b = true then bnd (evalE ⟨callN fns (fun _ _ => false) n, fun _ _ => false⟩ (.call 2 [(.var 1)]) ρ' S) fun x S => some (.ok (some x) S) else some (.ok none S)
        | none => none) hk ts fun r hr => by
      show bnd (evalIfs _ [] ([some dv, none].set 1 (some (settle r S).1)) (settle r S).2) _ = _
      rw [settle_pure _ _ (hps r hr)]
      have ih := c_size n r S (hps r hr) (hd r hr) hc
      simp only [F] at ih
      simp only [Ev.startE, Ev.execB, Ev.x_set, Ev.x_expr, Ev.x_ret, Ev.x_ife, Ev.x_setI, Ev.x_par, Ev.setNames, Ev.evalE, Ev.evalEs, Ev.evalIfs, Ev.finish, Ev.settle, Ev.settles, Ev.guard_none, Ev.get_app, Ev.get_app0, Ev.set_app, Ev.set_app0, Ev.mutOf_r, Ev.listOf_r, Ev.dictOf_r, Ev.idx_r, Ev.idx_l, Ev.idx_f, Ev.idx_tup, Ev.mth_append, Ev.mth_pop, Ev.rcv_append, Ev.rcv_pop, Ev.rcv_extend, Ev.atI_0, Ev.atI_1, Ev.atI_2, Ev.atI_3, Ev.atI_4, Ev.add_rl, Ev.add_lr, Ev.add_ll, List.set_cons_succ, List.set_cons_zero, List.getElem?_cons_succ, List.getElem?_cons_zero, bnd_ok, if_true, ih]
    rw [List.map_id' ts] at e
    exact congrArg (Option.map fun r => R.ok (D.lst r.1) r.2) e
  have hm : (ts.map fun d => D.int (tgd d).length) = ((ts.map fun d => (tgd d).length).map fun (n : Nat) => (n : Int)).map D.int := by simp
  have hsum : bltE S .sum [.lst (ts.map fun d => D.int (tgd d).length)] = some (.int (szs ts)) := by
    rw [hm, sum_list (listOf_lst) (intsOf_map _), sum_cast]; rfl
  refine goR ?_
  rw [x_ret, Ev.evalE, Ev.evalEs, hcomp, bnd_ok, Ev.evalEs, bnd_ok, bnd_ok, hsum, Option.map_some, bndS_ok]
theorem c_sizeRef {n j : Nat} {S : Sto} {ts : List D} (hj : S[j]? = some (.lst ts)) (hp : pures ts = true) (hd : ∀ t ∈ ts, t.depth < n) (hc : Cl S) : F (n + 1) 3 [.ref j] S = some (.ok (.int (szs ts)) S) := by
  rw [F, call_eq (np := 1) (ns := 2) (body := b_size_of) rfl rfl]
  refine (fin_go (size_ret (n := n) (S := S) (dv := .ref j) (ts := ts) (lk := some (j, ts)) ?_ (fun x => guard_some hj) hp hd hc)).trans (leave_int0 hc)
  show (match S[j]? with | some (.lst ds) => some (ds, some (j, ds)) | _ => none) = _
  rw [hj]
theorem c_sizeTup {n : Nat} {S : Sto} {ts : List D} (hp : pures ts = true) (hd : ∀ t ∈ ts, t.depth < n) (hc : Cl S) : F (n + 1) 3 [.tup ts] S = some (.ok (.int (szs ts)) S) := by
  rw [F, call_eq (np := 1) (ns := 2) (body := b_size_of) rfl rfl, settles_pure _ _ (by simp [pures, D.pure, hp])]
  exact (fin_go (size_ret (n := n) (S := S) (dv := .tup ts) (ts := ts) (lk := none) rfl (fun x => guard_none) hp hd hc)).trans (leave_int0 hc)
theorem c_sizeLst {n : Nat} {S : Sto} {ts : List D} (hp : pures ts = true) (hd : ∀ t ∈ ts, t.depth < n) (hc : Cl S) : F (n + 1) 3 [.lst ts] S = some (.ok (.int (szs ts)) S) := by
  have hs : settles [D.lst ts] S = ([.ref S.length], S ++ [.lst ts]) := by simp [settles, settle, settles_pure _ _ hp]
  rw [F, call_eq (np := 1) (ns := 2) (body := b_size_of) rfl rfl, hs]
  have hj : (S ++ [D.lst ts])[S.length]? = some (.lst ts) := by simp
  refine (fin_go (size_ret (n := n) (S := S ++ [.lst ts]) (dv := .ref S.length) (ts := ts) (lk := some (S.length, ts)) ?_ (fun x => guard_some hj) hp hd (hc.lst hp))).trans (leave_int hc)
  show (match (S ++ [D.lst ts])[S.length]? with | some (.lst ds) => some (ds, some (S.length, ds)) | _ => none) = _
  rw [hj]
end Pg
end
section
set_option Elab.async false
set_option linter.all false
set_option maxRecDepth 100000
namespace Pg
open Ev
theorem depths_le {b : Nat} : ∀ ds : List D, (∀ d ∈ ds, d.depth ≤ b) → depths ds ≤ b
  | [], _ => by simp [depths]
  | d :: ds, h => by
    rw [depths]
    have h1 := h d List.mem_cons_self
    have h2 := depths_le ds fun x m => h x (List.mem_cons_of_mem _ m)
    omega
theorem tree_depth : ∀ (h : Nat) (t : D), TreeN h t → t.depth ≤ 2 * h
  | 0, _, q => q.elim
  | h + 1, t, ⟨tag, ps, e, _, hp⟩ => by
    subst e
    have : depths (.str tag :: ps) ≤ 2 * h + 1 := depths_le _ fun d hd => by
      rcases List.mem_cons.mp hd with rfl | hd
      · simp [D.depth]
      · rcases hp d hd with ⟨i, rfl⟩ | ⟨s, rfl⟩ | q | ⟨ts, rfl, q⟩
        · simp [D.depth]
        · simp [D.depth]
        · have := tree_depth h d q
          omega
        · have := depths_le ts fun t mt => tree_depth h t (q t mt)
          rw [D.depth]; omega
    rw [D.depth]; omega
theorem c_wishL {n d deep : Nat} {rs : List Rw} {S : Sto} {xs : List Int} (hn : d + 10 ≤ n) (hdp : deep ≤ 2) (hr : WOk rs) (hrl : rs.length ≤ 100) (hc : Cl S) :
    ∃ t, Wm d t ∧ F n 16 [.tup (rs.map Rw.d), .lst (xs.map .int), .int d, .int deep] S = some (.ok t S) := by
  obtain ⟨m, rfl⟩ : ∃ m, n = m + 1 := ⟨n - 1, by omega⟩
  have hset : settles [.tup (rs.map Rw.d), .lst (xs.map .int), .int d, .int deep] S = ([.tup (rs.map Rw.d), .ref S.length, .int d, .int deep], S ++ [.lst (xs.map .int)]) := by
    simp [settles, settles_pure _ _ (rws_pure rs), settles_pure _ _ (ints_pure xs), settle]
  rw [F, call_eq (np := 4) (ns := 11) (body := b__law_wish) rfl rfl, hset]
  have hS : (S ++ [D.lst (xs.map .int)])[S.length]? = some (.lst (xs.map .int)) := by simp
  have hcx : Cl (S ++ [.lst (xs.map .int)]) := hc.lst (ints_pure xs)
  obtain ⟨x, xs1, e1⟩ := pops (g := ⟨callN fns (fun _ _ => false) m, fun _ _ => false⟩) (ρ := [some (.tup (rs.map Rw.d)), some (.ref S.length), some (.int d), some (.int deep), none, none, none, none, none, none, none]) (a := 4) (v := 1) (i := S.length) (S := S ++ [.lst (xs.map .int)]) (xs := xs) rfl (by decide) hS
  obtain ⟨t, xs', l, tm, e⟩ := wish_rest (m := m) (d := d) (x := x) (fun e _ => c_wish e) (by omega) hdp hr hrl (hcx.ints xs1) (get_set hS)
  rw [List.set_set] at e
  refine ⟨t, tm, ?_⟩
  refine (fin_go (d := t) (S1 := S ++ ([D.lst (xs'.map .int)] ++ l)) ((e1 (b__law_wish.drop 2)).trans (e.trans ?_))).trans (leave_pure hc tm.pure)
  rw [set_app0]
  simp
theorem forL_lk {f : D → Env → Sto → Option (Fl × Sto)} {n : Nat} {ds : List D} : ∀ (its : List D) (P : Nat → Env → Sto → Prop), (∀ k ρ S, P k ρ S → S[n]? = some (.lst ds)) → (∀ k d ρ S, its[k]? = some d → P k ρ S → ∃ ρ' S', f d ρ S = some (.nx ρ', S') ∧ P (k + 1) ρ' S') → ∀ ρ S, P 0 ρ S → ∃ ρ' S', forL (some (n, ds)) f its ρ S = some (.nx ρ', S') ∧ P its.length ρ' S'
  | [], P, hk, h, ρ, S, p => ⟨ρ, S, by unfold forL; exact guard_some (hk _ _ _ p), p⟩
  | d :: its, P, hk, h, ρ, S, p => by
    obtain ⟨ρ1, S1, e1, p1⟩ := h 0 d ρ S rfl p
    obtain ⟨ρ2, S2, e2, p2⟩ := forL_lk its (fun k => P (k + 1)) (fun k ρ S p => hk _ _ _ p) (fun k d ρ S hk => h (k + 1) d ρ S (by simpa using hk)) ρ1 S1 p1
    refine ⟨ρ2, S2, ?_, p2⟩
    unfold forL
    rw [guard_some (hk _ _ _ p), e1, seqS_nx, e2]
/-- over a list of the store that stays as it is -/
theorem for_ref {g : G} {ρ : Env} {S S1 : Sto} {i n : Nat} {e : PE} {body : List PS} {its : List D} {P : Nat → Env → Sto → Prop} (he : evalE g e ρ S = some (.ok (.ref n) S1)) (hi : S1[n]? = some (.lst its)) (hp : pures its = true) (hP : P 0 ρ S1) (hk : ∀ k ρ S, P k ρ S → S[n]? = some (.lst its))
    (step : ∀ (k : Nat) d ρ S, its[k]? = some d → P k ρ S → ∃ ρ' S', execB g body (ρ.set i (some d)) S = some (.nx ρ', S') ∧ P (k + 1) ρ' S') : ∃ ρ' S', execS g (.for_ (.nm i) .val [e] body) ρ S = some (.nx ρ', S') ∧ P its.length ρ' S' := by
  have q := forL_lk (n := n) (ds := its) (f := fun d ρ S => match setTg (.nm i) d ρ S with | some (ρ', S) => execB g body ρ' S | none => none) its P hk (fun k d ρ S hk p => by
    have hd : d.pure = true := by
      rw [pures_all, List.all_eq_true] at hp
      exact hp d (List.mem_of_getElem? hk)
    show ∃ ρ' S', execB g body (ρ.set i (some (settle d S).1)) (settle d S).2 = _ ∧ _
    rw [settle_pure d S hd]
    exact step k d ρ S hk p) ρ S1 hP
  obtain ⟨ρ', S', q1, q2⟩ := q
  refine ⟨ρ', S', ?_, q2⟩
  unfold execS evalEs
  rw [he, bnd_ok]
  unfold evalEs
  have hit : itemsOf S1 .val [.ref n] = some (its, some (n, its)) := by
    show (match S1[n]? with | some (.lst ds) => some (ds, some (n, ds)) | _ => none) = _
    rw [hi]
  rw [bnd_ok, bndS_ok, hit]
  exact q1
structure Gd (t : D) : Prop where
  tree : TreeN 8 t
  size : nodes t ≤ 1000000
theorem Gd.pure {t : D} (h : Gd t) : t.pure = true := treeN_pure _ _ h.tree
theorem gds_pure {ts : List D} (h : ∀ t ∈ ts, Gd t) : pures ts = true := by
  rw [pures_all, List.all_eq_true]
  exact fun t m => (h t m).pure
theorem gd_of {d : Nat} {t : D} (hd : d ≤ 4) (h : Wm d t) : Gd t := by
  refine ⟨treeN_le (by omega) h.tree, Nat.le_trans h.size ?_⟩
  have : d = 0 ∨ d = 1 ∨ d = 2 ∨ d = 3 ∨ d = 4 := by omega
  rcases this with rfl | rfl | rfl | rfl | rfl <;> decide
noncomputable abbrev g0 (n : Nat) : G := ⟨callN fns (fun _ _ => false) n, fun _ _ => false⟩
theorem law_one {n : Nat} {ns : List Int} {rs : List Rw} {ts : List D} {J : Sto} {c : Int} {kv6 : Option D} (hn : 30 ≤ n) (hr : WOk rs) (hrl : rs.length ≤ 100) (hc : Cl (.lst ts :: J)) (hl : ts.length ≤ 1000) (hp : pures ts = true) :
    ∃ (t : D) (J' : Sto) (kv6' : Option D), Gd t ∧ Cl (.lst (ts ++ [t]) :: J') ∧ execB (g0 n) [.set 6 (.call 6 [(.var 3), (.cst (.int 14))]), .expr (.mth .append (.var 2) [(.call 16 [(.var 1), (.sl (.var 6) (.cst (.int 3)) (.cst .non)), (.bin .add (.cst (.int 1)) (.bin .mod (.idx (.var 6) (.cst (.int 2))) (.cst (.int 4)))), (.bin .mod (.bin .fdiv (.idx (.var 6) (.cst (.int 2))) (.cst (.int 4))) (.cst (.int 3)))])])]
      [some (.fz (ns.map .int)), some (.tup (rs.map Rw.d)), some (.ref 0), some (.int c), none, none, kv6, none, none] (.lst ts :: J) = some (.nx [some (.fz (ns.map .int)), some (.tup (rs.map Rw.d)), some (.ref 0), some (.int c), none, none, kv6', none, none], .lst (ts ++ [t]) :: J') := by
  obtain ⟨m, rfl⟩ : ∃ m, n = m + 1 := ⟨n - 1, by omega⟩
  obtain ⟨xs, hx, e1⟩ := c_stream (n := m) (m := 14) (c := c) (by omega) hc
  have hc1 := hc.lst (ints_pure xs)
  have hget : (D.lst ts :: J ++ [D.lst (xs.map .int)])[J.length + 1]? = some (.lst (xs.map .int)) := by simp
  have hget0 : (D.lst ts :: J ++ [D.lst (xs.map .int)])[0]? = some (.lst ts) := rfl
  obtain ⟨a, b, hsl⟩ := sl_of (S := D.lst ts :: J ++ [D.lst (xs.map .int)]) (lo := .int 3) (hi := .non) (listOf_ref hget) (.inr ⟨_, rfl⟩) (.inl rfl)
  rw [cut_map] at hsl
  have hx2 : ∃ x2, (xs.map D.int)[2]? = some (.int x2) := ⟨xs[2], by simp [List.getElem?_eq_getElem (show 2 < xs.length by omega)]⟩
  obtain ⟨x2, hx2⟩ := hx2
  have b4 := fmod_bd (i := x2) (j := 4) (by omega)
  have b3 := fmod_bd (i := x2.fdiv 4) (j := 3) (by omega)
  obtain ⟨d, hd⟩ : ∃ d : Nat, (d : Int) = 1 + x2.fmod 4 := ⟨(1 + x2.fmod 4).toNat, by omega⟩
  obtain ⟨dp, hdp⟩ : ∃ d : Nat, (d : Int) = (x2.fdiv 4).fmod 3 := ⟨((x2.fdiv 4).fmod 3).toNat, by omega⟩
  obtain ⟨t, tm, e2⟩ := c_wishL (n := m + 1) (d := d) (deep := dp) (xs := cut xs a b) (by omega) (by omega) hr hrl hc1
  rw [hd, hdp] at e2
  have tp := tm.pure
  have d4 : divOk 4 = true := by decide
  simp only [F, Int.cast_ofNat_Int] at e1 e2
  refine ⟨t, J ++ [.lst (xs.map .int)], some (.ref (J.length + 1)), gd_of (by omega) tm, ?_, ?_⟩
  · have := hc1.set (i := 0) (d := .lst (ts ++ [t])) (by
      unfold D.under
      exact pures_under _ _ (by rw [pures_app, hp]; simp [pures, tp]))
    simpa using this
  · refine go (ρ1 := [some (.fz (ns.map .int)), some (.tup (rs.map Rw.d)), some (.ref 0), some (.int c), none, none, some (.ref (J.length + 1)), none, none]) (S1 := .lst ts :: J ++ [.lst (xs.map .int)]) ?_ (go (ρ1 := [some (.fz (ns.map .int)), some (.tup (rs.map Rw.d)), some (.ref 0), some (.int c), none, none, some (.ref (J.length + 1)), none, none]) (S1 := .lst (ts ++ [t]) :: (J ++ [.lst (xs.map .int)])) ?_ execB_nil)
    · simp only [Ev.startE, Ev.execB, Ev.x_set, Ev.x_expr, Ev.x_ret, Ev.x_ife, Ev.x_setI, Ev.x_par, Ev.setNames, Ev.evalE, Ev.evalEs, Ev.evalIfs, Ev.finish, Ev.settle, Ev.settles, Ev.guard_none, Ev.get_app, Ev.get_app0, Ev.set_app, Ev.set_app0, Ev.mutOf_r, Ev.listOf_r, Ev.dictOf_r, Ev.idx_r, Ev.idx_l, Ev.idx_f, Ev.idx_tup, Ev.mth_append, Ev.mth_pop, Ev.rcv_append, Ev.rcv_pop, Ev.rcv_extend, Ev.atI_0, Ev.atI_1, Ev.atI_2, Ev.atI_3, Ev.atI_4, Ev.add_rl, Ev.add_lr, Ev.add_ll, List.getElem?_cons_succ, List.getElem?_cons_zero, bnd_ok, g0, e1, bndS_ok, settles_pure _ _ (ints_pure xs), List.set_cons_succ, List.set_cons_zero, List.length_cons]
    · have hlt : ts.length < 16777216 := by omega
      simp only [List.cons_append] at hsl hget hget0 e2
      simp only [Ev.startE, Ev.execB, Ev.x_set, Ev.x_expr, Ev.x_ret, Ev.x_ife, Ev.x_setI, Ev.x_par, Ev.setNames, Ev.evalE, Ev.evalEs, Ev.evalIfs, Ev.finish, Ev.settle, Ev.settles, Ev.guard_none, Ev.get_app, Ev.get_app0, Ev.set_app, Ev.set_app0, Ev.mutOf_r, Ev.listOf_r, Ev.dictOf_r, Ev.idx_r, Ev.idx_l, Ev.idx_f, Ev.idx_tup, Ev.mth_append, Ev.mth_pop, Ev.rcv_append, Ev.rcv_pop, Ev.rcv_extend, Ev.atI_0, Ev.atI_1, Ev.atI_2, Ev.atI_3, Ev.atI_4, Ev.add_rl, Ev.add_lr, Ev.add_ll, List.getElem?_cons_succ, List.getElem?_cons_zero, bnd_ok, hget0, Option.isSome_some, if_true, hsl, isPart, Option.map_some, hget, hx2, bin_mod (show (4 : Int) ≠ 0 by decide), bin_mod (show (3 : Int) ≠ 0 by decide), bin_fdiv d4, bin_add, g0, e2, hlt, settle_pure _ _ tp, bndS_ok, List.cons_append, List.set_cons_zero]
end Pg
end
section
set_option Elab.async false
set_option linter.all false
set_option maxRecDepth 100000
namespace Pg
open Ev
theorem eqvs_strs : ∀ K : List PySem.Str, eqvs (K.map D.str) (K.map D.str) = true
  | [] => rfl
  | x :: K => by rw [List.map_cons, eqvs, eqvs_strs K]; simp [D.eqv]
theorem eq_strs {S : Sto} {n : Nat} {K : List PySem.Str} (h : S[n]? = some (.lst (K.map D.str))) : eqE S (.ref n) (.lst (K.map D.str)) = some true := by
  unfold eqE
  rw [res_ref h (strs_pure K), res_lst (strs_pure K)]
  have hd : min (D.lst (K.map D.str)).depth (D.lst (K.map D.str)).depth ≤ 150 := by
    have : depths (K.map D.str) ≤ 0 := depths_le _ fun d hd => by
      obtain ⟨x, _, rfl⟩ := List.mem_map.mp hd
      simp [D.depth]
    simp [D.depth]; omega
  simp only [if_pos hd, D.eqv, eqvs_strs]
theorem eq_strsL {S : Sto} {K : List PySem.Str} : eqE S (.lst (K.map D.str)) (.lst (K.map D.str)) = some true := by
  unfold eqE
  rw [res_lst (strs_pure K)]
  have hd : min (D.lst (K.map D.str)).depth (D.lst (K.map D.str)).depth ≤ 150 := by
    have : depths (K.map D.str) ≤ 0 := depths_le _ fun d hd => by
      obtain ⟨x, _, rfl⟩ := List.mem_map.mp hd
      simp [D.depth]
    simp [D.depth]; omega
  simp only [if_pos hd, D.eqv, eqvs_strs]
theorem law_two {n : Nat} {a b c6 : Option D} {c3 : Option D} {t : D} {ts : List D} {J : Sto} {ev : Int} {kv7 kv8 : Option D} (hn : 30 ≤ n) (ht : Gd t) (hc : Cl (.lst ts :: J)) :
    ∃ (J' : Sto) (kv7' kv8' : Option D), Cl (.lst ts :: J') ∧ execB (g0 n) [.set 7 (.call 1 [(.var 5)]), .ife (.or (.not (.isi (.var 7) [.list])) (.cmp .ne (.var 7) (.call 18 [(.var 5)]))) [.ret (.cst (.bl false))] [], .expr (.mth .append (.var 7) [(.cst (.str "zz"))]), .set 8 (.call 3 [(.lst [(.var 5)])]), .ife (.or (.not (.call 4 [(.var 8)])) (.or (.cmp .ne (.var 8) (.blt .len [(.call 17 [(.var 5)])])) (.cmp .ne (.call 1 [(.var 5)]) (.call 18 [(.var 5)])))) [.ret (.cst (.bl false))] [], .set 4 (.bin .add (.var 4) (.var 8))]
      [a, b, some (.ref 0), c3, some (.int ev), some t, c6, kv7, kv8] (.lst ts :: J) = some (.nx [a, b, some (.ref 0), c3, some (.int (ev + (tgd t).length)), some t, c6, kv7', kv8'], .lst ts :: J') := by
  obtain ⟨m, rfl⟩ : ∃ m, n = m + 2 := ⟨n - 2, by omega⟩
  have tp := ht.pure
  have htd := tree_depth 8 t ht.tree
  have htg := tree_tags 8 t ht.tree
  obtain ⟨K, nd, _, hK, e1⟩ := c_namesIn (n := m + 1) (S := .lst ts :: J) ht.tree (by omega) hc
  have hc1 := hc.lst (strs_pure (sortedStrs K))
  obtain ⟨K', nd', _, hK', e2⟩ := c_names (n := m) tp ht.size htg hc1
  rw [← names_eq nd nd' hK hK'] at e2
  have hg1 : (D.lst ts :: J ++ [D.lst ((sortedStrs K).map .str)])[J.length + 1]? = some (.lst ((sortedStrs K).map .str)) := by simp
  have q1 := eq_strs hg1
  have hlen : ((sortedStrs K).map D.str).length < 16777216 := by
    rw [List.length_map, sortedStrs, List.length_mergeSort]
    have := short nd (by assumption)
    omega
  have hc2 : Cl (.lst ts :: (J ++ [.lst ((sortedStrs K).map .str ++ [.str "zz"])])) := by
    have := hc.lst (ds := (sortedStrs K).map .str ++ [.str "zz"]) (by rw [pures_app, strs_pure]; rfl)
    simpa using this
  have e3 := c_sizeLst (n := m + 1) (ts := [t]) (by simp [pures, tp]) (fun x hx => by
    have : x = t := by simpa using hx
    subst this; omega) hc2
  have e3' : szs [t] = (tgd t).length := by simp [szs]
  rw [e3'] at e3
  have e4 := c_int (n := m + 1) (i := (tgd t).length) hc2
  obtain ⟨found, pf, pm, e5⟩ := c_tagged (n := m + 1) tp ht.size hc2
  have hfl := pm.length_eq
  obtain ⟨K2, nd2, _, hK2, e6⟩ := c_namesIn (n := m + 1) ht.tree (by omega) hc2
  obtain ⟨K3, nd3, _, hK3, e7⟩ := c_names (n := m) tp ht.size htg hc2
  rw [← names_eq nd2 nd3 hK2 hK3] at e7
  have q2 := eq_strsL (S := .lst ts :: (J ++ [.lst ((sortedStrs K).map .str ++ [.str "zz"])])) (K := sortedStrs K2)
  simp only [F] at e1 e2 e3 e4 e5 e6 e7
  refine ⟨J ++ [.lst ((sortedStrs K).map .str ++ [.str "zz"])], some (.ref (J.length + 1)), some (.int (tgd t).length), hc2, ?_⟩
  refine go (ρ1 := [a, b, some (.ref 0), c3, some (.int ev), some t, c6, some (.ref (J.length + 1)), kv8]) (S1 := .lst ts :: J ++ [.lst ((sortedStrs K).map .str)]) ?_ (go (ρ1 := [a, b, some (.ref 0), c3, some (.int ev), some t, c6, some (.ref (J.length + 1)), kv8]) (S1 := .lst ts :: J ++ [.lst ((sortedStrs K).map .str)]) ?_ (go (ρ1 := [a, b, some (.ref 0), c3, some (.int ev), some t, c6, some (.ref (J.length + 1)), kv8]) (S1 := .lst ts :: (J ++ [.lst ((sortedStrs K).map .str ++ [.str "zz"])])) ?_ (go (ρ1 := [a, b, some (.ref 0), c3, some (.int ev), some t, c6, some (.ref (J.length + 1)), some (.int (tgd t).length)]) (S1 := .lst ts :: (J ++ [.lst ((sortedStrs K).map .str ++ [.str "zz"])])) ?_ (go (ρ1 := [a, b, some (.ref 0), c3, some (.int ev), some t, c6, some (.ref (J.length + 1)), some (.int (tgd t).length)]) (S1 := .lst ts :: (J ++ [.lst ((sortedStrs K).map .str ++ [.str "zz"])])) ?_ (go (ρ1 := [a, b, some (.ref 0), c3, some (.int (ev + (tgd t).length)), some t, c6, some (.ref (J.length + 1)), some (.int (tgd t).length)]) (S1 := .lst ts :: (J ++ [.lst ((sortedStrs K).map .str ++ [.str "zz"])])) ?_ execB_nil)))))
  · simp only [Ev.startE, Ev.execB, Ev.x_set, Ev.x_expr, Ev.x_ret, Ev.x_ife, Ev.x_setI, Ev.x_par, Ev.setNames, Ev.evalE, Ev.evalEs, Ev.evalIfs, Ev.finish, Ev.settle, Ev.settles, Ev.guard_none, Ev.get_app, Ev.get_app0, Ev.set_app, Ev.set_app0, Ev.mutOf_r, Ev.listOf_r, Ev.dictOf_r, Ev.idx_r, Ev.idx_l, Ev.idx_f, Ev.idx_tup, Ev.mth_append, Ev.mth_pop, Ev.rcv_append, Ev.rcv_pop, Ev.rcv_extend, Ev.atI_0, Ev.atI_1, Ev.atI_2, Ev.atI_3, Ev.atI_4, Ev.add_rl, Ev.add_lr, Ev.add_ll, List.getElem?_cons_succ, List.getElem?_cons_zero, bnd_ok, g0, e1, bndS_ok, settles_pure _ _ (strs_pure _), List.set_cons_succ, List.set_cons_zero, List.length_cons]
  · simp only [Ev.startE, Ev.execB, Ev.x_set, Ev.x_expr, Ev.x_ret, Ev.x_ife, Ev.x_setI, Ev.x_par, Ev.setNames, Ev.evalE, Ev.evalEs, Ev.evalIfs, Ev.finish, Ev.settle, Ev.settles, Ev.guard_none, Ev.get_app, Ev.get_app0, Ev.set_app, Ev.set_app0, Ev.mutOf_r, Ev.listOf_r, Ev.dictOf_r, Ev.idx_r, Ev.idx_l, Ev.idx_f, Ev.idx_tup, Ev.mth_append, Ev.mth_pop, Ev.rcv_append, Ev.rcv_pop, Ev.rcv_extend, Ev.atI_0, Ev.atI_1, Ev.atI_2, Ev.atI_3, Ev.atI_4, Ev.add_rl, Ev.add_lr, Ev.add_ll, List.getElem?_cons_succ, List.getElem?_cons_zero, bnd_ok, g0, isi_ref_list hg1, Option.map_some, tests_ok, truth_bl, Bool.not_true, e2, cmp_ne, q1, if_false, Bool.false_eq_true]
  · simp only [Ev.startE, Ev.execB, Ev.x_set, Ev.x_expr, Ev.x_ret, Ev.x_ife, Ev.x_setI, Ev.x_par, Ev.setNames, Ev.evalE, Ev.evalEs, Ev.evalIfs, Ev.finish, Ev.settle, Ev.settles, Ev.guard_none, Ev.get_app, Ev.get_app0, Ev.set_app, Ev.set_app0, Ev.mutOf_r, Ev.listOf_r, Ev.dictOf_r, Ev.idx_r, Ev.idx_l, Ev.idx_f, Ev.idx_tup, Ev.mth_append, Ev.mth_pop, Ev.rcv_append, Ev.rcv_pop, Ev.rcv_extend, Ev.atI_0, Ev.atI_1, Ev.atI_2, Ev.atI_3, Ev.atI_4, Ev.add_rl, Ev.add_lr, Ev.add_ll, List.getElem?_cons_succ, List.getElem?_cons_zero, bnd_ok, g0, hg1, Option.isSome_some, if_true, hlen, Option.map_some, bndS_ok]
    simp
  · simp only [Ev.startE, Ev.execB, Ev.x_set, Ev.x_expr, Ev.x_ret, Ev.x_ife, Ev.x_setI, Ev.x_par, Ev.setNames, Ev.evalE, Ev.evalEs, Ev.evalIfs, Ev.finish, Ev.settle, Ev.settles, Ev.guard_none, Ev.get_app, Ev.get_app0, Ev.set_app, Ev.set_app0, Ev.mutOf_r, Ev.listOf_r, Ev.dictOf_r, Ev.idx_r, Ev.idx_l, Ev.idx_f, Ev.idx_tup, Ev.mth_append, Ev.mth_pop, Ev.rcv_append, Ev.rcv_pop, Ev.rcv_extend, Ev.atI_0, Ev.atI_1, Ev.atI_2, Ev.atI_3, Ev.atI_4, Ev.add_rl, Ev.add_lr, Ev.add_ll, List.getElem?_cons_succ, List.getElem?_cons_zero, bnd_ok, g0, e3, bndS_ok, List.set_cons_succ, List.set_cons_zero]
  · simp only [Ev.startE, Ev.execB, Ev.x_set, Ev.x_expr, Ev.x_ret, Ev.x_ife, Ev.x_setI, Ev.x_par, Ev.setNames, Ev.evalE, Ev.evalEs, Ev.evalIfs, Ev.finish, Ev.settle, Ev.settles, Ev.guard_none, Ev.get_app, Ev.get_app0, Ev.set_app, Ev.set_app0, Ev.mutOf_r, Ev.listOf_r, Ev.dictOf_r, Ev.idx_r, Ev.idx_l, Ev.idx_f, Ev.idx_tup, Ev.mth_append, Ev.mth_pop, Ev.rcv_append, Ev.rcv_pop, Ev.rcv_extend, Ev.atI_0, Ev.atI_1, Ev.atI_2, Ev.atI_3, Ev.atI_4, Ev.add_rl, Ev.add_lr, Ev.add_ll, List.getElem?_cons_succ, List.getElem?_cons_zero, bnd_ok, g0, e4, e5, e6, e7, tests_ok, truth_bl, Bool.not_true, cmp_ne, len_seq seqOf_lst, hfl, Option.map_some, eq_int, decide_true, q2, if_false, Bool.false_eq_true]
  · simp only [Ev.startE, Ev.execB, Ev.x_set, Ev.x_expr, Ev.x_ret, Ev.x_ife, Ev.x_setI, Ev.x_par, Ev.setNames, Ev.evalE, Ev.evalEs, Ev.evalIfs, Ev.finish, Ev.settle, Ev.settles, Ev.guard_none, Ev.get_app, Ev.get_app0, Ev.set_app, Ev.set_app0, Ev.mutOf_r, Ev.listOf_r, Ev.dictOf_r, Ev.idx_r, Ev.idx_l, Ev.idx_f, Ev.idx_tup, Ev.mth_append, Ev.mth_pop, Ev.rcv_append, Ev.rcv_pop, Ev.rcv_extend, Ev.atI_0, Ev.atI_1, Ev.atI_2, Ev.atI_3, Ev.atI_4, Ev.add_rl, Ev.add_lr, Ev.add_ll, List.getElem?_cons_succ, List.getElem?_cons_zero, bnd_ok, bin_add, Option.map_some, bndS_ok, List.set_cons_succ, List.set_cons_zero]
theorem szs_take {ts : List D} {k : Nat} {t : D} (h : ts[k]? = some t) : szs (ts.take (k + 1)) = szs (ts.take k) + (tgd t).length := by
  unfold szs
  rw [List.take_succ, h]
  simp
theorem c_law {n : Nat} {ns : List Int} (hl : ns.length ≤ 63) (hn : 30 ≤ n) : F (n + 1) 19 [.fz (ns.map .int)] [] = some (.ok (.bl true) []) := by
  rw [F, call_eq (np := 1) (ns := 9) (body := b_law) rfl rfl]
  have hset : settles [D.fz (ns.map .int)] [] = ([.fz (ns.map .int)], []) := by simp [settles, settle]
  rw [hset]
  obtain ⟨m, rfl⟩ : ∃ m, n = m + 1 := ⟨n - 1, by omega⟩
  have e1 := c_cell (n := m) (ns := ns) (k := 0) Cl.nil
  obtain ⟨xs, hx, e2⟩ := c_stream (n := m) (m := 5) (c := ns.getD 0 0) (by omega) Cl.nil
  obtain ⟨x0, x1, x2, x3, x4, rfl⟩ : ∃ a b c d e, xs = [a, b, c, d, e] := by
    match xs, hx with
    | [a, b, c, d, e], _ => exact ⟨a, b, c, d, e, rfl⟩
  obtain ⟨rs, ⟨hr, hrl⟩, e3⟩ := c_world (n := m) (x0 := x0) (x1 := x1) (x2 := x2) (x3 := x3) (x4 := x4) Cl.nil
  have hc0 : Cl [.lst []] := rfl
  have e1' := c_cell (n := m) (ns := ns) (k := 0) hc0
  simp only [F, Int.ofNat_zero, Int.natCast_zero, Int.cast_ofNat_Int, List.map_cons, List.map_nil] at e1 e2 e3 e1'
  obtain ⟨ia, ib, hsl⟩ := sl_of (S := [.lst []]) (lo := .int 1) (hi := .int 21) (listOf_fz (ds := ns.map .int)) (.inr ⟨_, rfl⟩) (.inr ⟨_, rfl⟩)
  rw [cut_map] at hsl
  have hcl : (cut ns ia ib).length ≤ 63 := by
    unfold cut
    rw [List.length_take, List.length_drop]; omega
  generalize hits : ns.getD 0 0 :: cut ns ia ib = cs
  have hcs : cs.length ≤ 64 := by rw [← hits]; simp; omega
  obtain ⟨ρ1, S1, e4, ts, J, kv3, kv6, ht, hts, hc1, rfl, rfl⟩ := for_val (g := g0 (m + 1)) (i := 3) (e := .bin .add (.lst [(.call 5 [(.var 0), (.cst (.int 0))])]) (.sl (.var 0) (.cst (.int 1)) (.cst (.int 21))))
    (body := [.set 6 (.call 6 [(.var 3), (.cst (.int 14))]), .expr (.mth .append (.var 2) [(.call 16 [(.var 1), (.sl (.var 6) (.cst (.int 3)) (.cst .non)), (.bin .add (.cst (.int 1)) (.bin .mod (.idx (.var 6) (.cst (.int 2))) (.cst (.int 4)))), (.bin .mod (.bin .fdiv (.idx (.var 6) (.cst (.int 2))) (.cst (.int 4))) (.cst (.int 3)))])])])
    (ρ := [some (.fz (ns.map .int)), some (.tup (rs.map Rw.d)), some (.ref 0), none, none, none, none, none, none]) (S := [.lst []]) (S1 := [.lst []]) (dv := .lst (cs.map .int)) (its := cs.map .int)
    (P := fun k ρ S' => ∃ (ts : List D) (J : Sto) (kv3 kv6 : Option D), ts.length = k ∧ (∀ t ∈ ts, Gd t) ∧ Cl (.lst ts :: J) ∧ ρ = [some (.fz (ns.map .int)), some (.tup (rs.map Rw.d)), some (.ref 0), kv3, none, none, kv6, none, none] ∧ S' = .lst ts :: J)
    (by
      simp only [Ev.startE, Ev.execB, Ev.x_set, Ev.x_expr, Ev.x_ret, Ev.x_ife, Ev.x_setI, Ev.x_par, Ev.setNames, Ev.evalE, Ev.evalEs, Ev.evalIfs, Ev.finish, Ev.settle, Ev.settles, Ev.guard_none, Ev.get_app, Ev.get_app0, Ev.set_app, Ev.set_app0, Ev.mutOf_r, Ev.listOf_r, Ev.dictOf_r, Ev.idx_r, Ev.idx_l, Ev.idx_f, Ev.idx_tup, Ev.mth_append, Ev.mth_pop, Ev.rcv_append, Ev.rcv_pop, Ev.rcv_extend, Ev.atI_0, Ev.atI_1, Ev.atI_2, Ev.atI_3, Ev.atI_4, Ev.add_rl, Ev.add_lr, Ev.add_ll, List.getElem?_cons_succ, List.getElem?_cons_zero, bnd_ok, g0, e1', isPart, if_true, hsl, Option.map_some]
      rw [if_pos (by simp; omega), ← hits]
      simp) rfl (ints_pure cs) ⟨[], [], none, none, rfl, by simp, hc0, rfl, rfl⟩ (by
      rintro k d ρ S' hk ⟨ts, J, kv3, kv6, rfl, hts, hc1, rfl, rfl⟩
      rw [List.getElem?_map] at hk
      obtain ⟨c, hk1, rfl⟩ := Option.map_eq_some_iff.mp hk
      have hkl := (List.getElem?_eq_some_iff.mp hk1).1
      obtain ⟨t, J', kv6', gt, hc2, e⟩ := law_one (n := m + 1) (ns := ns) (c := c) (kv6 := kv6) hn hr hrl hc1 (by omega) (gds_pure hts)
      refine ⟨_, _, e, ts ++ [t], J', some (.int c), kv6', by simp, fun x hx => ?_, hc2, rfl, rfl⟩
      rcases List.mem_append.mp hx with hx | hx
      · exact hts x hx
      · have : x = t := by simpa using hx
        subst this; exact gt)
  have hpt := gds_pure hts
  obtain ⟨ρ2, S2, e5, J2, kv5, kv7, kv8, hc2, rfl, rfl⟩ := for_ref (g := g0 (m + 1)) (i := 5) (n := 0) (e := .var 2)
    (body := [.set 7 (.call 1 [(.var 5)]), .ife (.or (.not (.isi (.var 7) [.list])) (.cmp .ne (.var 7) (.call 18 [(.var 5)]))) [.ret (.cst (.bl false))] [], .expr (.mth .append (.var 7) [(.cst (.str "zz"))]), .set 8 (.call 3 [(.lst [(.var 5)])]), .ife (.or (.not (.call 4 [(.var 8)])) (.or (.cmp .ne (.var 8) (.blt .len [(.call 17 [(.var 5)])])) (.cmp .ne (.call 1 [(.var 5)]) (.call 18 [(.var 5)])))) [.ret (.cst (.bl false))] [], .set 4 (.bin .add (.var 4) (.var 8))])
    (ρ := [some (.fz (ns.map .int)), some (.tup (rs.map Rw.d)), some (.ref 0), kv3, some (.int 0), none, kv6, none, none]) (S := .lst ts :: J) (S1 := .lst ts :: J) (its := ts)
    (P := fun k ρ S' => ∃ (J : Sto) (kv5 kv7 kv8 : Option D), Cl (.lst ts :: J) ∧ ρ = [some (.fz (ns.map .int)), some (.tup (rs.map Rw.d)), some (.ref 0), kv3, some (.int (szs (ts.take k))), kv5, kv6, kv7, kv8] ∧ S' = .lst ts :: J)
    (by simp [Ev.startE, Ev.execB, Ev.x_set, Ev.x_expr, Ev.x_ret, Ev.x_ife, Ev.x_setI, Ev.x_par, Ev.setNames, Ev.evalE, Ev.evalEs, Ev.evalIfs, Ev.finish, Ev.settle, Ev.settles, Ev.guard_none, Ev.get_app, Ev.get_app0, Ev.set_app, Ev.set_app0, Ev.mutOf_r, Ev.listOf_r, Ev.dictOf_r, Ev.idx_r, Ev.idx_l, Ev.idx_f, Ev.idx_tup, Ev.mth_append, Ev.mth_pop, Ev.rcv_append, Ev.rcv_pop, Ev.rcv_extend, Ev.atI_0, Ev.atI_1, Ev.atI_2, Ev.atI_3, Ev.atI_4, Ev.add_rl, Ev.add_lr, Ev.add_ll]) rfl hpt ⟨J, none, none, none, hc1, rfl, rfl⟩ (by
      rintro k ρ S ⟨J, _, _, _, _, _, rfl⟩
      rfl) (by
      rintro k t ρ S' hk ⟨J, kv5, kv7, kv8, hc1, rfl, rfl⟩
      obtain ⟨J', kv7', kv8', hc2, e⟩ := law_two (n := m + 1) (a := some (.fz (ns.map .int))) (b := some (.tup (rs.map Rw.d))) (c6 := kv6) (c3 := kv3) (ev := szs (ts.take k)) (kv7 := kv7) (kv8 := kv8) hn (hts t (List.mem_of_getElem? hk)) hc1
      refine ⟨_, _, e, J', some t, kv7', kv8', hc2, by rw [szs_take hk], rfl⟩)
  rw [List.take_length] at e5
  have hdd : ∀ t ∈ ts, t.depth < m := fun t mt => by
    have := tree_depth 8 t (hts t mt).tree
    omega
  have e6 := c_sizeRef (n := m) (j := 0) (S := .lst ts :: J2) (ts := ts) rfl hpt hdd hc2
  have e7 := c_sizeTup (n := m) (S := .lst ts :: J2) (ts := ts) hpt hdd hc2
  have e8 := c_sizeLst (n := m) (S := .lst ts :: J2) (ts := []) rfl (by simp) hc2
  have e8' : szs [] = 0 := rfl
  rw [e8'] at e8
  simp only [F] at e6 e7 e8
  show finish 0 (execB (g0 (m + 1)) b_law [some (.fz (ns.map .int)), none, none, none, none, none, none, none, none] []) = _
  refine (fin_go (d := .bl true) (S1 := .lst ts :: J2) (go (ρ1 := [some (.fz (ns.map .int)), some (.tup (rs.map Rw.d)), none, none, none, none, none, none, none]) (S1 := []) ?_ (go (ρ1 := [some (.fz (ns.map .int)), some (.tup (rs.map Rw.d)), some (.ref 0), none, none, none, none, none, none]) (S1 := [.lst []]) ?_ (go e4 (go (ρ1 := [some (.fz (ns.map .int)), some (.tup (rs.map Rw.d)), some (.ref 0), kv3, some (.int 0), none, kv6, none, none]) (S1 := .lst ts :: J) ?_ (go e5 (goR ?_))))))).trans (leave_pure (S := []) Cl.nil rfl)
  · simp only [Ev.startE, Ev.execB, Ev.x_set, Ev.x_expr, Ev.x_ret, Ev.x_ife, Ev.x_setI, Ev.x_par, Ev.setNames, Ev.evalE, Ev.evalEs, Ev.evalIfs, Ev.finish, Ev.settle, Ev.settles, Ev.guard_none, Ev.get_app, Ev.get_app0, Ev.set_app, Ev.set_app0, Ev.mutOf_r, Ev.listOf_r, Ev.dictOf_r, Ev.idx_r, Ev.idx_l, Ev.idx_f, Ev.idx_tup, Ev.mth_append, Ev.mth_pop, Ev.rcv_append, Ev.rcv_pop, Ev.rcv_extend, Ev.atI_0, Ev.atI_1, Ev.atI_2, Ev.atI_3, Ev.atI_4, Ev.add_rl, Ev.add_lr, Ev.add_ll, List.getElem?_cons_succ, List.getElem?_cons_zero, bnd_ok, g0, e1, e2, e3, bndS_ok, settles_pure _ _ (rws_pure rs), List.set_cons_succ, List.set_cons_zero]
  · simp [Ev.startE, Ev.execB, Ev.x_set, Ev.x_expr, Ev.x_ret, Ev.x_ife, Ev.x_setI, Ev.x_par, Ev.setNames, Ev.evalE, Ev.evalEs, Ev.evalIfs, Ev.finish, Ev.settle, Ev.settles, Ev.guard_none, Ev.get_app, Ev.get_app0, Ev.set_app, Ev.set_app0, Ev.mutOf_r, Ev.listOf_r, Ev.dictOf_r, Ev.idx_r, Ev.idx_l, Ev.idx_f, Ev.idx_tup, Ev.mth_append, Ev.mth_pop, Ev.rcv_append, Ev.rcv_pop, Ev.rcv_extend, Ev.atI_0, Ev.atI_1, Ev.atI_2, Ev.atI_3, Ev.atI_4, Ev.add_rl, Ev.add_lr, Ev.add_ll]
  · simp [Ev.startE, Ev.execB, Ev.x_set, Ev.x_expr, Ev.x_ret, Ev.x_ife, Ev.x_setI, Ev.x_par, Ev.setNames, Ev.evalE, Ev.evalEs, Ev.evalIfs, Ev.finish, Ev.settle, Ev.settles, Ev.guard_none, Ev.get_app, Ev.get_app0, Ev.set_app, Ev.set_app0, Ev.mutOf_r, Ev.listOf_r, Ev.dictOf_r, Ev.idx_r, Ev.idx_l, Ev.idx_f, Ev.idx_tup, Ev.mth_append, Ev.mth_pop, Ev.rcv_append, Ev.rcv_pop, Ev.rcv_extend, Ev.atI_0, Ev.atI_1, Ev.atI_2, Ev.atI_3, Ev.atI_4, Ev.add_rl, Ev.add_lr, Ev.add_ll]
  · simp only [Ev.startE, Ev.execB, Ev.x_set, Ev.x_expr, Ev.x_ret, Ev.x_ife, Ev.x_setI, Ev.x_par, Ev.setNames, Ev.evalE, Ev.evalEs, Ev.evalIfs, Ev.finish, Ev.settle, Ev.settles, Ev.guard_none, Ev.get_app, Ev.get_app0, Ev.set_app, Ev.set_app0, Ev.mutOf_r, Ev.listOf_r, Ev.dictOf_r, Ev.idx_r, Ev.idx_l, Ev.idx_f, Ev.idx_tup, Ev.mth_append, Ev.mth_pop, Ev.rcv_append, Ev.rcv_pop, Ev.rcv_extend, Ev.atI_0, Ev.atI_1, Ev.atI_2, Ev.atI_3, Ev.atI_4, Ev.add_rl, Ev.add_lr, Ev.add_ll, List.getElem?_cons_succ, List.getElem?_cons_zero, bnd_ok, g0, e6, e7, e8, cmp_eq, eq_int, decide_true, Option.map_some, truth_bl, tuple_seq, seqOf_ref, bndS_ok]
end Pg
end
section
set_option Elab.async false
set_option linter.all false
set_option maxRecDepth 100000
set_option maxHeartbeats 0
namespace Hd
open PySem PySem.Spec PyProof.Rows L2 Ev
def top (i : Nat) : Stmt := PySem.Challenge.pw_threeproofs_k04_names_and_sizes.main.body.getD i (.Pass ⟨0, 0, 0, 0⟩)
def mk (x : Str) (i : Nat) : He.DefD := ⟨(x, none), x, x, defArgs (top i), defBody (top i), defScope (top i), [], []⟩
def ro (f : Fn) (x : Str) (N : List Str) (i : Nat) : Ev.Row := ⟨f, x, N, defArgs (top i), defBody (top i), defScope (top i)⟩
def r0 : Ev.Row := ro ⟨2, 4, Pg.b_put_names⟩ "put_names" Pg.n_put_names 1
def r1 : Ev.Row := ro ⟨1, 2, Pg.b_names_in⟩ "names_in" Pg.n_names_in 2
def r2 : Ev.Row := ro ⟨1, 2, Pg.b_size_of_part⟩ "size_of_part" Pg.n_size_of_part 3
def r3 : Ev.Row := ro ⟨1, 2, Pg.b_size_of⟩ "size_of" Pg.n_size_of 4
def r4 : Ev.Row := ro ⟨1, 1, Pg.b__law_int⟩ "_law_int" Pg.n__law_int 6
def r5 : Ev.Row := ro ⟨2, 2, Pg.b__law_cell_at⟩ "_law_cell_at" Pg.n__law_cell_at 7
def r6 : Ev.Row := ro ⟨2, 8, Pg.b__law_stream⟩ "_law_stream" Pg.n__law_stream 8
def r7 : Ev.Row := ro ⟨1, 11, Pg.b__law_world⟩ "_law_world" Pg.n__law_world 9
def r8 : Ev.Row := ro ⟨1, 1, Pg.b__law_sort⟩ "_law_sort" Pg.n__law_sort 10
def r9 : Ev.Row := ro ⟨1, 5, Pg.b__law_constant⟩ "_law_constant" Pg.n__law_constant 11
def r10 : Ev.Row := ro ⟨3, 5, Pg.b__law_leaf⟩ "_law_leaf" Pg.n__law_leaf 12
def r11 : Ev.Row := ro ⟨4, 7, Pg.b__law_row⟩ "_law_row" Pg.n__law_row 13
def r12 : Ev.Row := ro ⟨5, 8, Pg.b__law_told_row⟩ "_law_told_row" Pg.n__law_told_row 14
def r13 : Ev.Row := ro ⟨5, 8, Pg.b__law_told_function⟩ "_law_told_function" Pg.n__law_told_function 15
def r14 : Ev.Row := ro ⟨4, 7, Pg.b__law_term⟩ "_law_term" Pg.n__law_term 16
def r15 : Ev.Row := ro ⟨4, 8, Pg.b__law_compared⟩ "_law_compared" Pg.n__law_compared 17
def r16 : Ev.Row := ro ⟨4, 11, Pg.b__law_wish⟩ "_law_wish" Pg.n__law_wish 18
def r17 : Ev.Row := ro ⟨1, 4, Pg.b__law_tagged⟩ "_law_tagged" Pg.n__law_tagged 19
def r18 : Ev.Row := ro ⟨1, 3, Pg.b__law_names⟩ "_law_names" Pg.n__law_names 20
def r19 : Ev.Row := ro ⟨1, 9, Pg.b_law⟩ "law" Pg.n_law 21
def rows : List Ev.Row := ([r0, r1, r2, r3, r4, r5, r6, r7, r8, r9, r10, r11] : List Ev.Row) ++ ([r12, r13, r14, r15, r16, r17, r18, r19] : List Ev.Row)
def fn : List He.DefD := ([mk "put_names" 1, mk "names_in" 2, mk "size_of_part" 3, mk "size_of" 4, mk "_law_int" 6, mk "_law_cell_at" 7, mk "_law_stream" 8, mk "_law_world" 9, mk "_law_sort" 10, mk "_law_constant" 11, mk "_law_leaf" 12, mk "_law_row" 13] : List He.DefD) ++ ([mk "_law_told_row" 14, mk "_law_told_function" 15, mk "_law_term" 16, mk "_law_compared" 17, mk "_law_wish" 18, mk "_law_tagged" 19, mk "_law_names" 20, mk "law" 21] : List He.DefD)
def consts : List (Str × D) := []
def txt : Txt0 := ⟨rows, ([] : List PySem.Str), consts⟩
theorem chk : rows.all (chkRow txt) = true := by kernel_rfl
theorem chk_all : ∀ r ∈ txt.rows, chkRow txt r = true := List.all_eq_true.mp chk
theorem fns_eq : txt.fns = Pg.fns := rfl
def fa : List He.Fa := ([.glo "put_names", .glo "names_in", .glo "size_of_part", .glo "size_of", .glo "_law_int", .glo "_law_cell_at", .glo "_law_stream", .glo "_law_world", .glo "_law_sort", .glo "_law_constant", .glo "_law_leaf", .glo "_law_row"] : List He.Fa) ++ ([.glo "_law_told_row", .glo "_law_told_function", .glo "_law_term", .glo "_law_compared", .glo "_law_wish", .glo "_law_tagged", .glo "_law_names", .glo "law", .free "len", .free "abs", .free "min", .free "max"] : List He.Fa) ++ ([.free "sum", .free "sorted", .free "tuple", .free "list", .free "int", .free "str", .free "isinstance", .free "range", .free "zip", .free "dict", .free "bool", .free "ValueError"] : List He.Fa) ++ ([.free "enumerate"] : List He.Fa)
abbrev R : PySem.W.OpenRow := PySem.W.OpenLaw.row PySem.Challenge.rw_threeproofs_k04_names_and_sizes
abbrev hk : PySem.W.Hook := He.hookD 4 fa fn
def ob (s : PySem.W.SharedT) : He.AlD := He.obsDG 4 fa fn (HandSHeadRun.getT s)
theorem ob_eq (s : PySem.W.SharedT) : ob s = hk.obs s.abs := He.obsDG_eq (HandSHeadRun.getT_eq s)
def loose : List Str := (["put_names", "names_in", "size_of_part", "size_of", "_law_int", "_law_cell_at", "_law_stream", "_law_world", "_law_sort", "_law_constant", "_law_leaf", "_law_row"] : List PySem.Str) ++ (["_law_told_row", "_law_told_function", "_law_term", "_law_compared", "_law_wish", "_law_tagged", "_law_names"] : List PySem.Str)
theorem run (w : World) : HandSHeadRun.RunEq R (PySem.W.view R.prog [21]) hk ob 3000 loose w := by
  intro os
  kernel_rfl
section
variable {P : Program} {w : World} {K : PySem.W.Frag} {h : Heap} {mg : Str → Option Value}
def FunsP (K : PySem.W.Frag) (mg : Str → Option Value) (r : Ev.Row) : Prop := ∃ addr fd, mg r.nm = some (.ref addr) ∧ FunD K r.nm r.nm r.params r.body r.scope [] [] addr fd ∧ Binds K fd r.ps []
theorem f0 (X : K.In h) (G : h.Ns mainGlobals mg) (c : He.SaysD fa fn K) : FunsP K mg r0 := by
  obtain ⟨fd, F⟩ := c.def_ 0 (d := mk "put_names" 1) rfl
  exact ⟨_, fd, He.glo_ok X G (c.fact 0 (f := .glo "put_names") rfl), F, FunD.bindsN (ps := ["thing", "names"]) F fun _ _ _ _ _ _ us hl => match us, hl with | [_, _], _ => rfl⟩
theorem f1 (X : K.In h) (G : h.Ns mainGlobals mg) (c : He.SaysD fa fn K) : FunsP K mg r1 := by
  obtain ⟨fd, F⟩ := c.def_ 1 (d := mk "names_in" 2) rfl
  exact ⟨_, fd, He.glo_ok X G (c.fact 1 (f := .glo "names_in") rfl), F, FunD.bindsN (ps := ["wish"]) F fun _ _ _ _ _ _ us hl => match us, hl with | [_], _ => rfl⟩
theorem f2 (X : K.In h) (G : h.Ns mainGlobals mg) (c : He.SaysD fa fn K) : FunsP K mg r2 := by
  obtain ⟨fd, F⟩ := c.def_ 2 (d := mk "size_of_part" 3) rfl
  exact ⟨_, fd, He.glo_ok X G (c.fact 2 (f := .glo "size_of_part") rfl), F, FunD.bindsN (ps := ["thing"]) F fun _ _ _ _ _ _ us hl => match us, hl with | [_], _ => rfl⟩
theorem f3 (X : K.In h) (G : h.Ns mainGlobals mg) (c : He.SaysD fa fn K) : FunsP K mg r3 := by
  obtain ⟨fd, F⟩ := c.def_ 3 (d := mk "size_of" 4) rfl
  exact ⟨_, fd, He.glo_ok X G (c.fact 3 (f := .glo "size_of") rfl), F, FunD.bindsN (ps := ["wishes"]) F fun _ _ _ _ _ _ us hl => match us, hl with | [_], _ => rfl⟩
theorem f4 (X : K.In h) (G : h.Ns mainGlobals mg) (c : He.SaysD fa fn K) : FunsP K mg r4 := by
  obtain ⟨fd, F⟩ := c.def_ 4 (d := mk "_law_int" 6) rfl
  exact ⟨_, fd, He.glo_ok X G (c.fact 4 (f := .glo "_law_int") rfl), F, FunD.bindsN (ps := ["_law_found"]) F fun _ _ _ _ _ _ us hl => match us, hl with | [_], _ => rfl⟩
theorem f5 (X : K.In h) (G : h.Ns mainGlobals mg) (c : He.SaysD fa fn K) : FunsP K mg r5 := by
  obtain ⟨fd, F⟩ := c.def_ 5 (d := mk "_law_cell_at" 7) rfl
  exact ⟨_, fd, He.glo_ok X G (c.fact 5 (f := .glo "_law_cell_at") rfl), F, FunD.bindsN (ps := ["_law_script", "_law_k"]) F fun _ _ _ _ _ _ us hl => match us, hl with | [_, _], _ => rfl⟩
theorem f6 (X : K.In h) (G : h.Ns mainGlobals mg) (c : He.SaysD fa fn K) : FunsP K mg r6 := by
  obtain ⟨fd, F⟩ := c.def_ 6 (d := mk "_law_stream" 8) rfl
  exact ⟨_, fd, He.glo_ok X G (c.fact 6 (f := .glo "_law_stream") rfl), F, FunD.bindsN (ps := ["_law_cell", "_law_many"]) F fun _ _ _ _ _ _ us hl => match us, hl with | [_, _], _ => rfl⟩
theorem f7 (X : K.In h) (G : h.Ns mainGlobals mg) (c : He.SaysD fa fn K) : FunsP K mg r7 := by
  obtain ⟨fd, F⟩ := c.def_ 7 (d := mk "_law_world" 9) rfl
  exact ⟨_, fd, He.glo_ok X G (c.fact 7 (f := .glo "_law_world") rfl), F, FunD.bindsN (ps := ["_law_xs"]) F fun _ _ _ _ _ _ us hl => match us, hl with | [_], _ => rfl⟩
theorem f8 (X : K.In h) (G : h.Ns mainGlobals mg) (c : He.SaysD fa fn K) : FunsP K mg r8 := by
  obtain ⟨fd, F⟩ := c.def_ 8 (d := mk "_law_sort" 10) rfl
  exact ⟨_, fd, He.glo_ok X G (c.fact 8 (f := .glo "_law_sort") rfl), F, FunD.bindsN (ps := ["_law_kind"]) F fun _ _ _ _ _ _ us hl => match us, hl with | [_], _ => rfl⟩
theorem f9 (X : K.In h) (G : h.Ns mainGlobals mg) (c : He.SaysD fa fn K) : FunsP K mg r9 := by
  obtain ⟨fd, F⟩ := c.def_ 9 (d := mk "_law_constant" 11) rfl
  exact ⟨_, fd, He.glo_ok X G (c.fact 9 (f := .glo "_law_constant") rfl), F, FunD.bindsN (ps := ["_law_number"]) F fun _ _ _ _ _ _ us hl => match us, hl with | [_], _ => rfl⟩
theorem f10 (X : K.In h) (G : h.Ns mainGlobals mg) (c : He.SaysD fa fn K) : FunsP K mg r10 := by
  obtain ⟨fd, F⟩ := c.def_ 10 (d := mk "_law_leaf" 12) rfl
  exact ⟨_, fd, He.glo_ok X G (c.fact 10 (f := .glo "_law_leaf") rfl), F, FunD.bindsN (ps := ["_law_world_here", "_law_sort_here", "_law_number"]) F fun _ _ _ _ _ _ us hl => match us, hl with | [_, _, _], _ => rfl⟩
theorem f11 (X : K.In h) (G : h.Ns mainGlobals mg) (c : He.SaysD fa fn K) : FunsP K mg r11 := by
  obtain ⟨fd, F⟩ := c.def_ 11 (d := mk "_law_row" 13) rfl
  exact ⟨_, fd, He.glo_ok X G (c.fact 11 (f := .glo "_law_row") rfl), F, FunD.bindsN (ps := ["_law_world_here", "_law_row_here", "_law_xs", "_law_depth"]) F fun _ _ _ _ _ _ us hl => match us, hl with | [_, _, _, _], _ => rfl⟩
theorem f12 (X : K.In h) (G : h.Ns mainGlobals mg) (c : He.SaysD fa fn K) : FunsP K mg r12 := by
  obtain ⟨fd, F⟩ := c.def_ 12 (d := mk "_law_told_row" 14) rfl
  exact ⟨_, fd, He.glo_ok X G (c.fact 12 (f := .glo "_law_told_row") rfl), F, FunD.bindsN (ps := ["_law_world_here", "_law_sort_here", "_law_xs", "_law_depth", "_law_number"]) F fun _ _ _ _ _ _ us hl => match us, hl with | [_, _, _, _, _], _ => rfl⟩
theorem f13 (X : K.In h) (G : h.Ns mainGlobals mg) (c : He.SaysD fa fn K) : FunsP K mg r13 := by
  obtain ⟨fd, F⟩ := c.def_ 13 (d := mk "_law_told_function" 15) rfl
  exact ⟨_, fd, He.glo_ok X G (c.fact 13 (f := .glo "_law_told_function") rfl), F, FunD.bindsN (ps := ["_law_world_here", "_law_sort_here", "_law_xs", "_law_depth", "_law_number"]) F fun _ _ _ _ _ _ us hl => match us, hl with | [_, _, _, _, _], _ => rfl⟩
theorem f14 (X : K.In h) (G : h.Ns mainGlobals mg) (c : He.SaysD fa fn K) : FunsP K mg r14 := by
  obtain ⟨fd, F⟩ := c.def_ 14 (d := mk "_law_term" 16) rfl
  exact ⟨_, fd, He.glo_ok X G (c.fact 14 (f := .glo "_law_term") rfl), F, FunD.bindsN (ps := ["_law_world_here", "_law_sort_here", "_law_xs", "_law_depth"]) F fun _ _ _ _ _ _ us hl => match us, hl with | [_, _, _, _], _ => rfl⟩
theorem f15 (X : K.In h) (G : h.Ns mainGlobals mg) (c : He.SaysD fa fn K) : FunsP K mg r15 := by
  obtain ⟨fd, F⟩ := c.def_ 15 (d := mk "_law_compared" 17) rfl
  exact ⟨_, fd, He.glo_ok X G (c.fact 15 (f := .glo "_law_compared") rfl), F, FunD.bindsN (ps := ["_law_world_here", "_law_xs", "_law_depth", "_law_number"]) F fun _ _ _ _ _ _ us hl => match us, hl with | [_, _, _, _], _ => rfl⟩
theorem f16 (X : K.In h) (G : h.Ns mainGlobals mg) (c : He.SaysD fa fn K) : FunsP K mg r16 := by
  obtain ⟨fd, F⟩ := c.def_ 16 (d := mk "_law_wish" 18) rfl
  exact ⟨_, fd, He.glo_ok X G (c.fact 16 (f := .glo "_law_wish") rfl), F, FunD.bindsN (ps := ["_law_world_here", "_law_xs", "_law_depth", "_law_deep"]) F fun _ _ _ _ _ _ us hl => match us, hl with | [_, _, _, _], _ => rfl⟩
theorem f17 (X : K.In h) (G : h.Ns mainGlobals mg) (c : He.SaysD fa fn K) : FunsP K mg r17 := by
  obtain ⟨fd, F⟩ := c.def_ 17 (d := mk "_law_tagged" 19) rfl
  exact ⟨_, fd, He.glo_ok X G (c.fact 17 (f := .glo "_law_tagged") rfl), F, FunD.bindsN (ps := ["_law_thing"]) F fun _ _ _ _ _ _ us hl => match us, hl with | [_], _ => rfl⟩
theorem f18 (X : K.In h) (G : h.Ns mainGlobals mg) (c : He.SaysD fa fn K) : FunsP K mg r18 := by
  obtain ⟨fd, F⟩ := c.def_ 18 (d := mk "_law_names" 20) rfl
  exact ⟨_, fd, He.glo_ok X G (c.fact 18 (f := .glo "_law_names") rfl), F, FunD.bindsN (ps := ["_law_wish_here"]) F fun _ _ _ _ _ _ us hl => match us, hl with | [_], _ => rfl⟩
theorem f19 (X : K.In h) (G : h.Ns mainGlobals mg) (c : He.SaysD fa fn K) : FunsP K mg r19 := by
  obtain ⟨fd, F⟩ := c.def_ 19 (d := mk "law" 21) rfl
  exact ⟨_, fd, He.glo_ok X G (c.fact 19 (f := .glo "law") rfl), F, FunD.bindsN (ps := ["_law_script"]) F fun _ _ _ _ _ _ us hl => match us, hl with | [_], _ => rfl⟩
theorem funs (X : K.In h) (G : h.Ns mainGlobals mg) (c : He.SaysD fa fn K) : ∀ r ∈ rows, FunsP K mg r := (List.forall_mem_append.mpr ⟨(List.forall_mem_cons.mpr ⟨(f0 X G c), List.forall_mem_cons.mpr ⟨(f1 X G c), List.forall_mem_cons.mpr ⟨(f2 X G c), List.forall_mem_cons.mpr ⟨(f3 X G c), List.forall_mem_cons.mpr ⟨(f4 X G c), List.forall_mem_cons.mpr ⟨(f5 X G c), List.forall_mem_cons.mpr ⟨(f6 X G c), List.forall_mem_cons.mpr ⟨(f7 X G c), List.forall_mem_cons.mpr ⟨(f8 X G c), List.forall_mem_cons.mpr ⟨(f9 X G c), List.forall_mem_cons.mpr ⟨(f10 X G c), List.forall_mem_cons.mpr ⟨(f11 X G c), (fun _ h => nomatch h)⟩⟩⟩⟩⟩⟩⟩⟩⟩⟩⟩⟩), List.forall_mem_cons.mpr ⟨(f12 X G c), List.forall_mem_cons.mpr ⟨(f13 X G c), List.forall_mem_cons.mpr ⟨(f14 X G c), List.forall_mem_cons.mpr ⟨(f15 X G c), List.forall_mem_cons.mpr ⟨(f16 X G c), List.forall_mem_cons.mpr ⟨(f17 X G c), List.forall_mem_cons.mpr ⟨(f18 X G c), List.forall_mem_cons.mpr ⟨(f19 X G c), (fun _ h => nomatch h)⟩⟩⟩⟩⟩⟩⟩⟩⟩)
theorem free (X : K.In h) (G : h.Ns mainGlobals mg) (c : He.SaysD fa fn K) : ∀ x ∈ bltNames, mg x = none := List.forall_mem_cons.mpr ⟨(He.free_ok X G (c.fact 20 (f := .free "len") rfl)), List.forall_mem_cons.mpr ⟨(He.free_ok X G (c.fact 21 (f := .free "abs") rfl)), List.forall_mem_cons.mpr ⟨(He.free_ok X G (c.fact 22 (f := .free "min") rfl)), List.forall_mem_cons.mpr ⟨(He.free_ok X G (c.fact 23 (f := .free "max") rfl)), List.forall_mem_cons.mpr ⟨(He.free_ok X G (c.fact 24 (f := .free "sum") rfl)), List.forall_mem_cons.mpr ⟨(He.free_ok X G (c.fact 25 (f := .free "sorted") rfl)), List.forall_mem_cons.mpr ⟨(He.free_ok X G (c.fact 26 (f := .free "tuple") rfl)), List.forall_mem_cons.mpr ⟨(He.free_ok X G (c.fact 27 (f := .free "list") rfl)), List.forall_mem_cons.mpr ⟨(He.free_ok X G (c.fact 28 (f := .free "int") rfl)), List.forall_mem_cons.mpr ⟨(He.free_ok X G (c.fact 29 (f := .free "str") rfl)), List.forall_mem_cons.mpr ⟨(He.free_ok X G (c.fact 30 (f := .free "isinstance") rfl)), List.forall_mem_cons.mpr ⟨(He.free_ok X G (c.fact 31 (f := .free "range") rfl)), List.forall_mem_cons.mpr ⟨(He.free_ok X G (c.fact 32 (f := .free "zip") rfl)), List.forall_mem_cons.mpr ⟨(He.free_ok X G (c.fact 33 (f := .free "dict") rfl)), List.forall_mem_cons.mpr ⟨(He.free_ok X G (c.fact 34 (f := .free "bool") rfl)), List.forall_mem_cons.mpr ⟨(He.free_ok X G (c.fact 35 (f := .free "ValueError") rfl)), List.forall_mem_cons.mpr ⟨(He.free_ok X G (c.fact 36 (f := .free "enumerate") rfl)), (fun _ h => nomatch h)⟩⟩⟩⟩⟩⟩⟩⟩⟩⟩⟩⟩⟩⟩⟩⟩⟩
theorem con (X : K.In h) (G : h.Ns mainGlobals mg) (c : He.SaysD fa fn K) : ∀ (x : Str) (d : D), consts.lookup x = some d → ∃ u v, mg x = some u ∧ RelV v u ∧ scalV d v := by
  intro x d e
  simp only [consts, List.lookup_cons, List.lookup_nil] at e
  cases e
theorem stands (X : K.In h) (G : h.Ns mainGlobals mg) (c : He.SaysD fa fn K) : Stands P w K mg (fun _ => 0) (fun _ _ => false) txt :=
  ⟨⟨fun _ h => absurd rfl h, fun _ _ h => absurd rfl h, fun _ h => absurd rfl h⟩, fun c x h => (by simp [txt] at h), con X G c, free X G c, fun f r h => funs X G c r (List.mem_of_getElem? h)⟩
theorem facts {f : Addr} (n : Nat) (X : K.In h) (G : h.Ns mainGlobals mg) (hfa : mg ("law" : Str) = some (.ref f)) (c : He.SaysD fa fn K) :
    ∃ fd : FuncData, (∀ (s : Shared) (v : Value), BindsTo s fd ⟨[v], []⟩ [("_law_script", v)]) ∧ ∀ base : Heap, FnOk P w K mg base (L2.CX P w) n f fd r19.ps (spF ⟨K, w, fun _ => 0⟩ (callN Pg.fns (fun _ _ => false) n 19)) := by
  obtain ⟨fd, F⟩ := c.def_ 19 (d := mk "law" 21) rfl
  have e := hfa.symm.trans (He.glo_ok X G (c.fact 19 (f := .glo "law") rfl))
  cases e
  have b := FunD.bindsA (ps := ["_law_script"]) F fun _ _ _ _ _ _ us hl => match us, hl with | [_], _ => rfl
  exact ⟨fd, fun s v => b s [v] rfl, fun base => fns_eq ▸ fns_ok (base := base) (stands X G c) chk_all n 19 r19 rfl _ fd F⟩
end
end Hd
open PySem PySem.W PySem.Calls PyProof.Rows
theorem holds_of (HH : ∀ ns : List Int, ns.length ≤ 63 → ∃ S', Ev.callN Pg.fns (fun _ _ => false) 100 19 [.fz (ns.map .int)] [] = some (.ok (.bl true) S')) : PySem.Challenge.rw_threeproofs_k04_names_and_sizes.Holds := by
  w_on; o_law
  refine HandSHeadRun.head_any (r := OpenLaw.row PySem.Challenge.rw_threeproofs_k04_names_and_sizes) (q := view (OpenLaw.row PySem.Challenge.rw_threeproofs_k04_names_and_sizes).prog [21]) (H := Hd.hk) (ob := Hd.ob) (M := 3000) (loose := Hd.loose) (d := HandSHeadRun.topDef (OpenLaw.row PySem.Challenge.rw_threeproofs_k04_names_and_sizes).prog 21) (kwd := []) Hd.ob_eq
    (by kernel_rfl) (fun s => by kernel_rfl) Hd.run (by kernel_rfl) (by kernel_rfl) (by kernel_rfl) (by rfl) (by first | assumption | decide +kernel) (by decide +kernel) ⟨rfl, rfl, rfl, rfl, rfl, by decide +kernel⟩ ?hw ?hc
  case hw => w_witness2
  case hc =>
    refine L2.walk_ofE (l := PySem.Challenge.rw_threeproofs_k04_names_and_sizes) (n := 63) (k := 100) (x := "_law_script") (CX := L2.CX0) rfl (by decide) (by kernel_rfl) ⟨rfl, by decide, by decide⟩ ?F (fun _ _ _ _ z => z)
    case F =>
      intro w mg fa h Y G hmg0
      obtain ⟨K, KX, c⟩ := Y
      have hmg : mg ("law" : PySem.Str) = some (.ref fa) := by
        have e : (HandSHeadRun.topDef (OpenLaw.row PySem.Challenge.rw_threeproofs_k04_names_and_sizes).prog 21).name = ("law" : PySem.Str) := by kernel_rfl
        rw [← e]
        exact hmg0
      obtain ⟨fd, hb, hF⟩ := Hd.facts (P := (PySem.Challenge.rw_threeproofs_k04_names_and_sizes).prog) (w := w) 100 KX G hmg c
      exact ⟨K, fd, fun vs H Q _ => Ev.spF ⟨K, w, fun _ => 0⟩ (Ev.callN Pg.fns (fun _ _ => false) 100 19) vs H Q fun _ _ _ => False, KX, hb, fun H a ns hl hO hS => Ev.law_sp hO hS (HH ns hl), fun base _ _ => Ev.fn_noX (hF base)⟩
end
theorem PySem.Challenge.cw_threeproofs_k04_names_and_sizes_holds : PySem.Challenge.rw_threeproofs_k04_names_and_sizes.Holds := by
  exact holds_of fun ns hl => ⟨_, Pg.c_law (n := 99) hl (by decide)⟩
